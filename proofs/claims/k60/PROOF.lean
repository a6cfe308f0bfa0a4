import PyProof.Rows.All
import HandS.ForMost
import HandS.Walk
import HandS.IsInst
import HandS.Wide
import HandS.TupAny
import HandS.ForExc
import HandS.Flow
import KE.GoesEnum
import HandS.Style
import PySem.Challenge.RW_seekunder_k60_whole_raw_terms_and_loose
set_option Elab.async false
set_option linter.all false
set_option maxRecDepth 100000
set_option maxHeartbeats 4000000
/-! Mp: a small definitional interpreter over deep data. -/
namespace Mp
open PySem

/-! ### values, stores, results -/
inductive W where
  | d (x : PyData)
  | loc (n : Nat)
inductive Cell where
  | lst (xs : List PyData)
abbrev Sto := List Cell
abbrev Rho := List (Option W)
inductive Res (α : Type) where
  | ok (a : α) (st : Sto)
  | exc (x : Nat) (st : Sto)
  | bad
def Res.bind {α β : Type} (r : Res α) (f : α → Sto → Res β) : Res β :=
  match r with
  | .ok a st => f a st
  | .exc x st => .exc x st
  | .bad => .bad
inductive Out where
  | nx (ρ : Rho) (st : Sto)
  | rt (w : W) (st : Sto)
  | bk (ρ : Rho) (st : Sto)
  | ct (ρ : Rho) (st : Sto)
  | ex (x : Nat) (ρ : Rho) (st : Sto)
  | bad
def Out.seq (o : Out) (f : Rho → Sto → Out) : Out :=
  match o with
  | .nx ρ st => f ρ st
  | o => o
def Res.out {α : Type} (r : Res α) (ρ : Rho) (f : α → Sto → Out) : Out :=
  match r with
  | .ok a st => f a st
  | .exc x st => .ex x ρ st
  | .bad => .bad

/-! ### primitives on data -/
inductive Ty where
  | int | bool | str | tuple | list
  deriving DecidableEq
def Ty.name : Ty → String
  | .int => "int" | .bool => "bool" | .str => "str" | .tuple => "tuple" | .list => "list"
def isTy : Ty → PyData → Bool
  | .int, .int _ => true
  | .int, .bool _ => true
  | .bool, .bool _ => true
  | .str, .str _ => true
  | .tuple, .tuple _ => true
  | .list, .list _ => true
  | _, _ => false
inductive P1 where
  | add | sub | mul | fdiv | mod | pow | neg
  | eq | ne | lt | le | gt | ge | isN | notN | isin | notin
  | tup | lst | ix | slTo | slFrom | slB
  | len | int | max2 | min2 | sum | all | tupleOf | listOf | isinst (t : Ty)
  deriving DecidableEq
def lineOk (n : Nat) : Bool := decide (n ≤ sizeLine)
def flatD : PyData → Bool
  | .none | .bool _ | .int _ | .str _ => true
  | _ => false
def cutD (xs : List PyData) (lo hi : Option Int) : List PyData := (xs.drop (HT.sIx xs.length 0 lo)).take (HT.sIx xs.length xs.length hi - HT.sIx xs.length 0 lo)
def cutS (x : Str) (lo hi : Option Int) : Str := ⟨((x.cps.toList.drop (HT.sIx x.length 0 lo)).take (HT.sIx x.length x.length hi - HT.sIx x.length 0 lo)).toArray⟩
def sumD : List PyData → Option Int
  | [] => some 0
  | .int i :: r => (sumD r).map (i + ·)
  | _ => none
def allD : List PyData → Option Bool
  | [] => some true
  | .bool b :: r => (allD r).map (b && ·)
  | _ => none
def mulOk (a b : Int) : Bool := decide (-(2 ^ 64) < a ∧ a < 2 ^ 64) || decide (-(2 ^ 64) < b ∧ b < 2 ^ 64) || decide (a.natAbs.log2 + b.natAbs.log2 < 1000000)
def divOk (b : Int) : Bool := decide (0 < b) && decide (b.natAbs.log2 < 9000)
def powOk (a b : Int) : Bool := decide (0 ≤ b) && decide (b ≤ 1000000) && decide (a.natAbs < 2 ^ 64)
def eqOk (a b : PyData) : Bool := a.canLay0 && b.canLay0 && decide (min a.depth b.depth ≤ 64)
def inD (x : PyData) (ds : List PyData) : Bool := ds.any fun z => PyData.eqv z x
def isinD (x y : PyData) : Option Bool :=
  match y with
  | .tuple ds => if flatD x && ds.all flatD then some (inD x ds) else none
  | .list ds => if flatD x && ds.all flatD then some (inD x ds) else none
  | .str z => match x with
    | .str w => match w.cps.toList with
      | [c] => some (decide (c ∈ z.cps.toList))
      | _ => none
    | _ => none
  | _ => none
def ixD : PyData → PyData → Option PyData
  | .list ds, .int i => L2.atI ds i
  | .tuple ds, .int i => L2.atI ds i
  | .str x, .int i => if lineOk x.length then (L2.atI x.cps.toList i).map fun c => .str ⟨#[c]⟩ else none
  | _, _ => none
def slD : PyData → Option Int → Option Int → Option PyData
  | .list ds, lo, hi => some (.list (cutD ds lo hi))
  | .tuple ds, lo, hi => some (.tuple (cutD ds lo hi))
  | _, _, _ => none
def addD : PyData → PyData → Option PyData
  | .int a, .int b => some (.int (a + b))
  | .str a, .str b => if lineOk (a.length + b.length) then some (.str (a ++ b)) else none
  | .list a, .list b => if lineOk (a.length + b.length) then some (.list (a ++ b)) else none
  | .tuple a, .tuple b => if lineOk (a.length + b.length) then some (.tuple (a ++ b)) else none
  | _, _ => none
def lenD : PyData → Option Int
  | .str x => if lineOk x.length then some x.length else none
  | .list ds => some ds.length
  | .tuple ds => some ds.length
  | _ => none
def intOp (p : P1) (a b : Int) : Option PyData :=
  match p with
  | .sub => some (.int (a - b))
  | .mul => if mulOk a b then some (.int (a * b)) else none
  | .fdiv => if divOk b then some (.int (a / b)) else none
  | .mod => if decide (0 < b) then some (.int (a % b)) else none
  | .pow => if powOk a b then some (.int (a ^ b.toNat)) else none
  | .lt => some (.bool (decide (a < b)))
  | .le => some (.bool (decide (a ≤ b)))
  | .gt => some (.bool (decide (b < a)))
  | .ge => some (.bool (decide (b ≤ a)))
  | .max2 => some (.int (if b > a then b else a))
  | .min2 => some (.int (if b < a then b else a))
  | _ => none
def int2 (p : P1) : PyData → PyData → Option PyData
  | .int i, .int j => intOp p i j
  | _, _ => none
def pure2 (p : P1) (a b : PyData) : Option PyData :=
  match p with
  | .add => addD a b
  | .eq => if eqOk a b then some (.bool (PyData.eqv a b)) else none
  | .ne => if eqOk a b then some (.bool (!PyData.eqv a b)) else none
  | .isin => (isinD a b).map .bool
  | .notin => (isinD a b).map fun k => .bool (!k)
  | .ix => ixD a b
  | .slTo => match b with
    | .int i => slD a none (some i)
    | _ => none
  | .slFrom => match b with
    | .int i => slD a (some i) none
    | _ => none
  | p => int2 p a b
def pure1 (p : P1) (a : PyData) : Option PyData :=
  match p with
  | .neg => match a with
    | .int i => some (.int (-i))
    | _ => none
  | .isN => some (.bool (match a with | .none => true | _ => false))
  | .notN => some (.bool (match a with | .none => false | _ => true))
  | .len => (lenD a).map .int
  | .int => match a with
    | .int i => some (.int i)
    | _ => none
  | .sum => match a with
    | .list ds => (sumD ds).map .int
    | _ => none
  | .all => match a with
    | .list ds => (allD ds).map .bool
    | _ => none
  | .tupleOf => match a with
    | .list ds => some (.tuple ds)
    | .tuple ds => some (.tuple ds)
    | _ => none
  | .listOf => match a with
    | .list ds => some (.list ds)
    | .tuple ds => some (.list ds)
    | _ => none
  | .isinst t => some (.bool (isTy t a))
  | _ => none
def pureD (p : P1) (ds : List PyData) : Option PyData :=
  match p with
  | .tup => if lineOk ds.length then some (.tuple ds) else none
  | .lst => if lineOk ds.length then some (.list ds) else none
  | .slB => match ds with
    | [a, .int i, .int j] => slD a (some i) (some j)
    | _ => none
  | p => match ds with
    | [a] => pure1 p a
    | [a, b] => pure2 p a b
    | _ => none

/-! ### the store -/
def deref (st : Sto) : W → Option PyData
  | .d x => some x
  | .loc n => match st[n]? with
    | some (.lst xs) => some (.list xs)
    | _ => none
def derefs (st : Sto) : List W → Option (List PyData)
  | [] => some []
  | w :: ws => match deref st w, derefs st ws with
    | some x, some xs => some (x :: xs)
    | _, _ => none
def dOf : W → Option PyData
  | .d x => some x
  | .loc _ => none
def dsOf : List W → Option (List PyData)
  | [] => some []
  | w :: ws => match dOf w, dsOf ws with
    | some x, some xs => some (x :: xs)
    | _, _ => none
def holds : P1 → Bool
  | .tup | .lst => true
  | _ => false
def argsD (p : P1) (ws : List W) (st : Sto) : Option (List PyData) := if holds p then dsOf ws else derefs st ws
def primD (p : P1) (ws : List W) (st : Sto) : Res W :=
  match argsD p ws st with
  | some ds => match pureD p ds with
    | some x => .ok (.d x) st
    | none => .bad
  | none => .bad
/-- primitives on the store -/
inductive P2 where
  | append | extend | pop
  deriving DecidableEq
def doD (p : P2) (ws : List W) (st : Sto) : Res W :=
  match p, ws with
  | .append, [.loc n, .d x] => match st[n]? with
    | some (.lst xs) => if lineOk (xs.length + 1) then .ok (.d .none) (st.set n (.lst (xs ++ [x]))) else .bad
    | _ => .bad
  | .extend, [.loc n, .d (.list ys)] => match st[n]? with
    | some (.lst xs) => if lineOk (xs.length + ys.length) then .ok (.d .none) (st.set n (.lst (xs ++ ys))) else .bad
    | _ => .bad
  | .pop, [.loc n] => match st[n]? with
    | some (.lst xs) => match xs[xs.length - 1]? with
      | some y => .ok (.d y) (st.set n (.lst xs.dropLast))
      | none => .bad
    | _ => .bad
  | _, _ => .bad
def isLst (w : W) (st : Sto) : Bool := match w with
  | .loc n => match st[n]? with
    | some (.lst _) => true
    | none => false
  | .d _ => false
def newD (ws : List W) (st : Sto) : Res W :=
  match dsOf ws with
  | some ds => if lineOk ds.length then .ok (.loc st.length) (st ++ [.lst ds]) else .bad
  | none => .bad
def setD (o i v : W) (st : Sto) : Option Sto :=
  match o, i, v with
  | .loc n, .d (.int k), .d x => match st[n]? with
    | some (.lst xs) => match L2.ixN xs.length k with
      | some j => some (st.set n (.lst (xs.set j x)))
      | none => none
    | _ => none
  | _, _, _ => none
def truD : PyData → Option Bool
  | .none => some false
  | .bool b => some b
  | .int i => some (i != 0)
  | .str x => if lineOk x.length then some ((x.length : Int) != 0) else none
  | .list ds => some (!ds.isEmpty)
  | .tuple ds => some (!ds.isEmpty)
  | .dict _ => none
def truR (w : W) (st : Sto) : Res Bool :=
  match deref st w with
  | some x => match truD x with
    | some b => .ok b st
    | none => .bad
  | none => .bad

def augD (p : P1) (x y : W) : Option W :=
  match p, x, y with
  | .add, .d (.int i), .d (.int j) => some (.d (.int (i + j)))
  | .sub, .d (.int i), .d (.int j) => some (.d (.int (i - j)))
  | _, _, _ => none

/-! ### what is walked -/
inductive Src where
  | seq | range1 | range2 | enum | zip | rev
  deriving DecidableEq
def enumD : Nat → List PyData → List PyData
  | _, [] => []
  | n, x :: r => .tuple [.int n, x] :: enumD (n + 1) r
def zipD : List PyData → List PyData → List PyData
  | x :: r, y :: q => .tuple [x, y] :: zipD r q
  | _, _ => []
def rangeD (lo : Int) (n : Nat) : List PyData := (List.range n).map fun i => .int (lo + (i : Nat))
def rngOk (a : Int) : Bool := decide (-(2 ^ 62) ≤ a) && decide (a < 2 ^ 62)
def seqD : PyData → Option (List PyData)
  | .list ds => some ds
  | .tuple ds => some ds
  | .str x => some (x.cps.toList.map fun c => .str ⟨#[c]⟩)
  | _ => none
def itemsD (k : Src) (ws : List W) : Option (List PyData) :=
  match k, ws with
  | .seq, [.d a] => seqD a
  | .range1, [.d (.int j)] => if rngOk j then some (rangeD 0 j.toNat) else none
  | .range2, [.d (.int i), .d (.int j)] => if rngOk i && rngOk j then some (rangeD i (j - i).toNat) else none
  | .enum, [.d (.list ds)] => some (enumD 0 ds)
  | .enum, [.d (.tuple ds)] => some (enumD 0 ds)
  | .zip, [.d (.list xs), .d (.list ys)] => some (zipD xs ys)
  | .rev, [.d (.list ds)] => some ds.reverse
  | _, _ => none
/-- a target: a name, or names -/
inductive Tg where
  | one (i : Nat)
  | many (is : List Nat)
def setMany (ρ : Rho) : List Nat → List PyData → Rho
  | i :: is, x :: xs => setMany (ρ.set i (some (.d x))) is xs
  | _, _ => ρ
def asgTg (tg : Tg) (w : W) (ρ : Rho) : Option Rho :=
  match tg, w with
  | .one i, w => some (ρ.set i (some w))
  | .many is, .d (.tuple xs) => if xs.length = is.length then some (setMany ρ is xs) else none
  | _, _ => none
def wipeR (ρ : Rho) : List Nat → Rho
  | [] => ρ
  | v :: vs => (wipeR ρ vs).set v none

/-! ### expressions -/
mutual
inductive E where
  | var (i : Nat)
  | glob (x : Str) (d : PyData)
  | lit (d : PyData)
  | pr (p : P1) (es : Es)
  | new (es : Es)
  | act0 (p : P2) (o : E)
  | act1 (p : P2) (o e : E)
  | and (es : Es)
  | or (es : Es)
  | not (e : E)
  | ite (c a b : E)
  | chain (p q : P1) (a b c : E)
  | sl (a b c : E)
  | call (f : Nat) (es : Es)
  | callk (j f : Nat) (ix : List Nat) (es : Es)
  | comp (own : List Nat) (tg : Tg) (k : Src) (es : Es) (c e : E)
inductive Es where
  | nil
  | cons (e : E) (es : Es)
end
def compL (f : PyData → Sto → Res (Option PyData)) : List PyData → List PyData → Sto → Res W
  | [], acc, st => .ok (.d (.list acc)) st
  | x :: xs, acc, st => (f x (st ++ [.lst acc])).bind fun o st1 => match st1[st.length]? with
    | some (.lst acc1) => match o with
      | some y => if lineOk (acc1.length + 1) then compL f xs (acc1 ++ [y]) (st1.take st.length) else .bad
      | none => compL f xs acc1 (st1.take st.length)
    | none => .bad
def noexc {α : Type} : Res α → Res α
  | .ok a st => .ok a st
  | _ => .bad
def pickW (ws : List W) : List Nat → Option (List W)
  | [] => some []
  | i :: is => match ws[i]?, pickW ws is with
    | some w, some r => some (w :: r)
    | _, _ => none
abbrev CallT := Nat → List W → Sto → Res W
mutual
def evE (call : CallT) : E → Rho → Sto → Res W
  | .var i, ρ, st => match ρ[i]? with
    | some (some w) => .ok w st
    | _ => .bad
  | .glob _ d, _, st => .ok (.d d) st
  | .lit d, _, st => .ok (.d d) st
  | .pr p es, ρ, st => (evEs call es ρ st).bind fun ws st => primD p ws st
  | .new es, ρ, st => (evEs call es ρ st).bind fun ws st => newD ws st
  | .act0 p o, ρ, st => (evE call o ρ st).bind fun w st => if isLst w st then doD p [w] st else .bad
  | .act1 p o e, ρ, st => (evE call o ρ st).bind fun w st => if isLst w st then (evE call e ρ st).bind fun x st => doD p [w, x] st else .bad
  | .and es, ρ, st => evAnd call es ρ st
  | .or es, ρ, st => evOr call es ρ st
  | .not e, ρ, st => (evE call e ρ st).bind fun w st => (truR w st).bind fun b st => .ok (.d (.bool (!b))) st
  | .ite c a b, ρ, st => (evE call c ρ st).bind fun w st => (truR w st).bind fun k st => if k then evE call a ρ st else evE call b ρ st
  | .chain p q a b c, ρ, st => (evE call a ρ st).bind fun x st => (evE call b ρ st).bind fun y st => (primD p [x, y] st).bind fun z st => match z with
    | .d (.bool true) => (evE call c ρ st).bind fun u st => primD q [y, u] st
    | .d (.bool false) => .ok (.d (.bool false)) st
    | _ => .bad
  | .sl a b c, ρ, st => (evE call a ρ st).bind fun x st => (evE call b ρ st).bind fun y st => match y with
    | .d (.int i) => (evE call c ρ st).bind fun z st => primD .slB [x, .d (.int i), z] st
    | _ => .bad
  | .call f es, ρ, st => (evEs call es ρ st).bind fun ws st => call f ws st
  | .callk _ f ix es, ρ, st => (evEs call es ρ st).bind fun ws st => match pickW ws ix with
    | some us => call f us st
    | none => .bad
  | .comp own tg k es c e, ρ, st => (evEs call es ρ st).bind fun ws st => match itemsD k ws with
    | some xs => noexc (compL (fun x st => match asgTg tg (.d x) (wipeR ρ own) with
      | some ρ1 => (evE call c ρ1 st).bind fun w st => (truR w st).bind fun b st => if b then (evE call e ρ1 st).bind fun w st => match w with
          | .d y => .ok (some y) st
          | .loc _ => .bad
        else .ok none st
      | none => .bad) xs [] st)
    | none => .bad
def evEs (call : CallT) : Es → Rho → Sto → Res (List W)
  | .nil, _, st => .ok [] st
  | .cons e es, ρ, st => (evE call e ρ st).bind fun w st => (evEs call es ρ st).bind fun ws st => .ok (w :: ws) st
def evAnd (call : CallT) : Es → Rho → Sto → Res W
  | .nil, _, _ => .bad
  | .cons e .nil, ρ, st => evE call e ρ st
  | .cons e es, ρ, st => (evE call e ρ st).bind fun w st => (truR w st).bind fun b st => if b then evAnd call es ρ st else .ok w st
def evOr (call : CallT) : Es → Rho → Sto → Res W
  | .nil, _, _ => .bad
  | .cons e .nil, ρ, st => evE call e ρ st
  | .cons e es, ρ, st => (evE call e ρ st).bind fun w st => (truR w st).bind fun b st => if b then .ok w st else evOr call es ρ st
end
def evT (call : CallT) (e : E) (ρ : Rho) (st : Sto) : Res Bool := (evE call e ρ st).bind fun w st => truR w st

/-! ### statements -/
mutual
inductive S where
  | asg (i : Nat) (e : E)
  | unp (is : List Nat) (e : E)
  | par (i j : Nat) (a b : E)
  | par3 (i j l : Nat) (a b c : E)
  | setix (o i e : E)
  | aug (i : Nat) (p : P1) (e : E)
  | ex (e : E)
  | ite (c : E) (a b : Ss)
  | for_ (tg : Tg) (k : Src) (es : Es) (body : Ss)
  | while_ (c : E) (body : Ss)
  | ret (e : E)
  | pass
  | brk
  | cont
inductive Ss where
  | nil
  | cons (s : S) (ss : Ss)
end
def forL (body : PyData → Rho → Sto → Out) : List PyData → Rho → Sto → Out
  | [], ρ, st => .nx ρ st
  | x :: xs, ρ, st => match body x ρ st with
    | .nx ρ st => forL body xs ρ st
    | .ct ρ st => forL body xs ρ st
    | .bk ρ st => .nx ρ st
    | o => o
def whileL (c : Rho → Sto → Res Bool) (body : Rho → Sto → Out) : Nat → Rho → Sto → Out
  | 0, _, _ => .bad
  | n + 1, ρ, st => (c ρ st).out ρ fun b st => if b then match body ρ st with
      | .nx ρ st => whileL c body n ρ st
      | .ct ρ st => whileL c body n ρ st
      | .bk ρ st => .nx ρ st
      | o => o
    else .nx ρ st
def wFuel : Nat := 1000000000
mutual
def evS (call : CallT) : S → Rho → Sto → Out
  | .asg i e, ρ, st => (evE call e ρ st).out ρ fun w st => .nx (ρ.set i (some w)) st
  | .unp is e, ρ, st => (evE call e ρ st).out ρ fun w st => match asgTg (.many is) w ρ with
    | some ρ => .nx ρ st
    | none => .bad
  | .par i j a b, ρ, st => (evE call a ρ st).out ρ fun v st => (evE call b ρ st).out ρ fun w st => .nx ((ρ.set i (some v)).set j (some w)) st
  | .par3 i j l a b c, ρ, st => (evE call a ρ st).out ρ fun u st => (evE call b ρ st).out ρ fun v st => (evE call c ρ st).out ρ fun w st => .nx (((ρ.set i (some u)).set j (some v)).set l (some w)) st
  | .setix o i e, ρ, st => (evE call e ρ st).out ρ fun v st => (evE call o ρ st).out ρ fun ow st => (evE call i ρ st).out ρ fun iw st => match setD ow iw v st with
    | some st => .nx ρ st
    | none => .bad
  | .aug i p e, ρ, st => match ρ[i]? with
    | some (some x) => (evE call e ρ st).out ρ fun y st => match augD p x y with
      | some z => .nx (ρ.set i (some z)) st
      | none => .bad
    | _ => .bad
  | .ex e, ρ, st => (evE call e ρ st).out ρ fun _ st => .nx ρ st
  | .ite c a b, ρ, st => (evT call c ρ st).out ρ fun k st => if k then evSs call a ρ st else evSs call b ρ st
  | .for_ tg k es body, ρ, st => (evEs call es ρ st).out ρ fun ws st => match itemsD k ws with
    | some xs => forL (fun x ρ st => match asgTg tg (.d x) ρ with
      | some ρ => evSs call body ρ st
      | none => .bad) xs ρ st
    | none => .bad
  | .while_ c body, ρ, st => whileL (evT call c) (evSs call body) wFuel ρ st
  | .ret e, ρ, st => (evE call e ρ st).out ρ fun w st => .rt w st
  | .pass, ρ, st => .nx ρ st
  | .brk, ρ, st => .bk ρ st
  | .cont, ρ, st => .ct ρ st
def evSs (call : CallT) : Ss → Rho → Sto → Out
  | .nil, ρ, st => .nx ρ st
  | .cons s ss, ρ, st => (evS call s ρ st).seq fun ρ st => evSs call ss ρ st
end
/-! ### functions -/
structure Fn where
  np : Nat
  n : Nat
  mu : Bool
  body : Ss
def packR (mu : Bool) (k : Nat) (w : W) (st : Sto) : Res W :=
  match w with
  | .d x => .ok (.d x) (st.take k)
  | .loc n => if n < k then .ok (.loc n) (st.take k) else match st[n]? with
    | some (.lst xs) => if mu then .ok (.loc k) (st.take k ++ [.lst xs]) else .ok (.d (.list xs)) (st.take k)
    | none => .bad
def finish (mu : Bool) (k : Nat) : Out → Res W
  | .rt w st => packR mu k w st
  | .nx _ st => .ok (.d .none) (st.take k)
  | .ex x _ st => .exc x (st.take k)
  | _ => .bad
def startR (n : Nat) (ws : List W) : Rho := ws.map some ++ List.replicate (n - ws.length) none
def callF (FT : List Fn) : Nat → CallT
  | 0, _, _, _ => .bad
  | n + 1, f, ws, st => match FT[f]? with
    | some fn => if ws.length = fn.np then finish fn.mu st.length (evSs (callF FT n) fn.body (startR fn.n ws) st) else .bad
    | none => .bad
end Mp

set_option Elab.async false
set_option linter.all false
set_option maxRecDepth 100000
set_option maxHeartbeats 4000000
namespace Mp
open PySem PySem.Spec PyProof.Rows L2

/-! ### data over a heap -/
mutual
inductive DR (K : PySem.W.Frag) (G : Hp) : PyData → V → Prop
  | non : DR K G .none .non
  | bl (b : Bool) : DR K G (.bool b) (.bl b)
  | int (i : Int) : DR K G (.int i) (.int i)
  | str (x : Str) : DR K G (.str x) (.str x)
  | lst {a : Addr} {ds : List PyData} {vs : List V} : SqL K G a vs → DRs K G ds vs → DR K G (.list ds) (.ref a)
  | tup {a : Addr} {ds : List PyData} {vs : List V} : SqT K G a vs → DRs K G ds vs → DR K G (.tuple ds) (.ref a)
  | dic0 {a : Addr} : Rd G a (.dK []) → DR K G (.dict []) (.ref a)
inductive DRs (K : PySem.W.Frag) (G : Hp) : List PyData → List V → Prop
  | nil : DRs K G [] []
  | cons {d : PyData} {v : V} {ds : List PyData} {vs : List V} : DR K G d v → DRs K G ds vs → DRs K G (d :: ds) (v :: vs)
end
/-- the outermost object read in H, all below in G -/
inductive DT (K : PySem.W.Frag) (H G : Hp) : PyData → V → Prop
  | non : DT K H G .none .non
  | bl (b : Bool) : DT K H G (.bool b) (.bl b)
  | int (i : Int) : DT K H G (.int i) (.int i)
  | str (x : Str) : DT K H G (.str x) (.str x)
  | lst {a : Addr} {ds : List PyData} {vs : List V} : SqL K H a vs → DRs K G ds vs → DT K H G (.list ds) (.ref a)
  | tup {a : Addr} {ds : List PyData} {vs : List V} : SqT K G a vs → DRs K G ds vs → DT K H G (.tuple ds) (.ref a)
  | dic0 {a : Addr} : Rd G a (.dK []) → DT K H G (.dict []) (.ref a)

section
variable {K : PySem.W.Frag} {G G' H : Hp}
theorem Rd.mono {a : Addr} {u : HO} (s : Same G G') (h : Rd G a u) : Rd G' a u := by
  rcases h with h | ⟨o, h⟩
  · exact .inl (s _ _ h)
  · exact .inr ⟨o, s _ _ h⟩
theorem SqT.mono {a : Addr} {vs : List V} (s : Same G G') (h : SqT K G a vs) : SqT K G' a vs := by
  rcases h with h | h
  · exact .inl (Rd.mono s h)
  · exact .inr h
theorem SqL.mono {a : Addr} {vs : List V} (s : Same G G') (h : SqL K G a vs) : SqL K G' a vs := by
  rcases h with h | h
  · exact .inl (Rd.mono s h)
  · exact .inr h
mutual
theorem DR.mono (s : Same G G') : ∀ {d : PyData} {v : V}, DR K G d v → DR K G' d v
  | _, _, .non => .non
  | _, _, .bl b => .bl b
  | _, _, .int i => .int i
  | _, _, .str x => .str x
  | _, _, .lst h t => .lst (SqL.mono s h) (DRs.mono s t)
  | _, _, .tup h t => .tup (SqT.mono s h) (DRs.mono s t)
  | _, _, .dic0 h => .dic0 (Rd.mono s h)
theorem DRs.mono (s : Same G G') : ∀ {ds : List PyData} {vs : List V}, DRs K G ds vs → DRs K G' ds vs
  | _, _, .nil => .nil
  | _, _, .cons h t => .cons (DR.mono s h) (DRs.mono s t)
end
theorem DR.top (s : Same G H) {d : PyData} {v : V} (h : DR K G d v) : DT K H G d v := by
  cases h with
  | non => exact .non
  | bl b => exact .bl b
  | int i => exact .int i
  | str x => exact .str x
  | lst h t => exact .lst (SqL.mono s h) t
  | tup h t => exact .tup h t
  | dic0 h => exact .dic0 h
theorem DRs.length : ∀ {ds : List PyData} {vs : List V}, DRs K G ds vs → ds.length = vs.length
  | _, _, .nil => rfl
  | _, _, .cons _ t => congrArg (· + 1) (DRs.length t)
theorem DRs.get : ∀ {ds : List PyData} {vs : List V} {i : Nat} {d : PyData}, DRs K G ds vs → ds[i]? = some d → ∃ v, vs[i]? = some v ∧ DR K G d v
  | _, _, _, _, .nil, e => by simp at e
  | _, _, 0, _, .cons h _, e => by simp at e; subst e; exact ⟨_, rfl, h⟩
  | _, _, i + 1, _, .cons _ t, e => by
    obtain ⟨v, h1, h2⟩ := DRs.get (i := i) t (by simpa using e)
    exact ⟨v, by simpa using h1, h2⟩
theorem DRs.app : ∀ {ds es : List PyData} {vs us : List V}, DRs K G ds vs → DRs K G es us → DRs K G (ds ++ es) (vs ++ us)
  | _, _, _, _, .nil, s => s
  | _, _, _, _, .cons r t, s => .cons r (DRs.app t s)
theorem DRs.take : ∀ {ds : List PyData} {vs : List V} (n : Nat), DRs K G ds vs → DRs K G (ds.take n) (vs.take n)
  | _, _, 0, _ => .nil
  | _, _, _ + 1, .nil => .nil
  | _, _, n + 1, .cons r t => .cons r (DRs.take n t)
theorem DRs.drop : ∀ {ds : List PyData} {vs : List V} (n : Nat), DRs K G ds vs → DRs K G (ds.drop n) (vs.drop n)
  | _, _, 0, r => r
  | _, _, _ + 1, .nil => .nil
  | _, _, n + 1, .cons _ t => DRs.drop n t
theorem DRs.set : ∀ {ds : List PyData} {vs : List V} (n : Nat) {d : PyData} {v : V}, DR K G d v → DRs K G ds vs → DRs K G (ds.set n d) (vs.set n v)
  | _, _, _, _, _, _, .nil => .nil
  | _, _, 0, _, _, h, .cons _ t => .cons h t
  | _, _, n + 1, _, _, h, .cons r t => .cons r (DRs.set n h t)
theorem DRs.rev {ds : List PyData} {vs : List V} (h : DRs K G ds vs) : DRs K G ds.reverse vs.reverse := by
  have go : ∀ (ds : List PyData) (vs : List V) (es : List PyData) (us : List V), DRs K G ds vs → DRs K G es us → DRs K G (ds.reverseAux es) (vs.reverseAux us) := by
    intro ds
    induction ds with
    | nil =>
      intro vs es us h1 h2
      cases h1
      exact h2
    | cons d ds ih =>
      intro vs es us h1 h2
      cases h1 with
      | @cons _ v' _ vs' r t => exact ih vs' (d :: es) (v' :: us) t (.cons r h2)
  exact go _ _ _ _ h .nil
theorem DRs.dropLast {ds : List PyData} {vs : List V} (h : DRs K G ds vs) : DRs K G ds.dropLast vs.dropLast := by
  rw [List.dropLast_eq_take, List.dropLast_eq_take, h.length]
  exact h.take _
end

/-! ### the heap without the mutable lists -/
def hide (H : Hp) (ι : List Addr) : Hp := fun a => if a ∈ ι then none else H a
def Trk (ι : List Addr) (H : Hp) : Prop := ∀ a ∈ ι, ∃ o, H a = some o
structure Grow (H : Hp) (ι : List Addr) (H' : Hp) : Prop where
  at_ : ∀ a ∈ ι, H' a = H a
  same : Same (hide H ι) (hide H' ι)
section
variable {K : PySem.W.Frag} {H H' H'' : Hp} {ι : List Addr}
theorem hide_same : Same (hide H ι) H := fun a o e => by
  unfold hide at e
  split at e
  · cases e
  · exact e
theorem hide_of {a : Addr} {o : HO} (n : a ∉ ι) (e : H a = some o) : hide H ι a = some o := by unfold hide; rw [if_neg n]; exact e
theorem hide_nil : hide H [] = H := by funext a; simp [hide]
theorem Grow.refl : Grow H ι H := ⟨fun _ _ => rfl, fun _ _ e => e⟩
theorem Grow.trans (a : Grow H ι H') (b : Grow H' ι H'') : Grow H ι H'' := ⟨fun x hx => (b.at_ x hx).trans (a.at_ x hx), fun x o e => b.same x o (a.same x o e)⟩
theorem Trk.grow (t : Trk ι H) (g : Grow H ι H') : Trk ι H' := fun a ha => by
  obtain ⟨o, e⟩ := t a ha
  exact ⟨o, (g.at_ a ha).trans e⟩
theorem Trk.new {p : Addr} (t : Trk ι H) (n : H p = none) : p ∉ ι := fun hp => by
  obtain ⟨o, e⟩ := t p hp
  rw [n] at e
  cases e
theorem grow_new {p : Addr} {o : HO} (t : Trk ι H) (n : H p = none) : Grow H ι (upd H p o) := by
  refine ⟨fun a ha => upd_ne fun z => t.new n (z ▸ ha), fun a u e => ?_⟩
  have e' := hide_same a u e
  have hn : a ∉ ι := fun ha => by unfold hide at e; rw [if_pos ha] at e; cases e
  refine hide_of hn ?_
  rw [upd_ne (ne_of_none e' n)]
  exact e'
theorem hide_new {p : Addr} {o : HO} (t : Trk ι H) (n : H p = none) : hide (upd H p o) ι p = some o := hide_of (t.new n) upd_same

/-- what is wanted of a new datum -/
def PQ (K : PySem.W.Frag) (H : Hp) (ι : List Addr) (z : PyData) (Q : VK) : Prop := ∀ v' H', Grow H ι H' → DR K (hide H' ι) z v' → Q v' H'
variable {z : PyData} {Q : VK}
theorem PQ.old {v : V} (q : PQ K H ι z Q) (h : DR K (hide H ι) z v) : Q v H := q v H .refl h
theorem PQ.tup {ds : List PyData} {vs : List V} (q : PQ K H ι (.tuple ds) Q) (t : Trk ι H) (h : DRs K (hide H ι) ds vs) : ∀ p, H p = none → Q (.ref p) (upd H p (.tup vs)) := fun p n =>
  q _ _ (grow_new t n) (.tup (.inl (.inl (hide_new t n))) (h.mono (grow_new t n).same))
theorem PQ.lst {ds : List PyData} {vs : List V} (q : PQ K H ι (.list ds) Q) (t : Trk ι H) (h : DRs K (hide H ι) ds vs) : ∀ p, H p = none → Q (.ref p) (upd H p (.lst vs)) := fun p n =>
  q _ _ (grow_new t n) (.lst (.inl (.inl (hide_new t n))) (h.mono (grow_new t n).same))

theorem SqT.full {a : Addr} {vs : List V} (h : SqT K (hide H ι) a vs) : SqT K H a vs := SqT.mono hide_same h
end

/-! ### operations by values -/
def rOp (K : PySem.W.Frag) (p : P1) : R2 := fun x y H Q => ∃ ι dx dy z, Trk ι H ∧ DT K H (hide H ι) dx x ∧ DT K H (hide H ι) dy y ∧ pureD p [dx, dy] = some z ∧ PQ K H ι z Q
def rUn1 (K : PySem.W.Frag) (p : P1) : V → Hp → VK → Prop := fun x H Q => ∃ ι dx z, Trk ι H ∧ DT K H (hide H ι) dx x ∧ pureD p [dx] = some z ∧ PQ K H ι z Q

theorem lineOk_iff {n : Nat} : lineOk n = true ↔ n ≤ sizeLine := by simp [lineOk]
theorem ite_some {α : Type} {c : Bool} {x y : α} (h : (if c = true then some x else none) = some y) : c = true ∧ x = y := by
  cases c with
  | true => exact ⟨rfl, Option.some.inj h⟩
  | false => cases h

section
variable {X : Cx}
theorem op_catR {ta tb : List V} : ∀ (pins : List (Addr × Obj)) (s : Shared) (σ : L2.St) (H : Hp) (l b : Addr) (v u : Value) (Q : VK), Inv X pins σ H s → RelV (.ref l) v → RelV (.ref b) u → SqL X.K H l ta → SqL X.K H b tb →
    ta.length + tb.length ≤ sizeLine → (∀ p, H p = none → Q (.ref p) (upd H p (.lst (ta ++ tb)))) → wpAny (model X.prog X.w) X.A (binaryOp .Add v u) (EP X pins σ Q) X.xe s := by
  intro pins s σ H l b v u Q I r1 r2 hl hb hz q
  cases r1
  cases r2
  obtain ⟨i1, w1, g1, z1⟩ := I.list hl
  obtain ⟨i2, w2, g2, z2⟩ := I.list hb
  have k1 := w1.length
  have k2 := w2.length
  obtain ⟨⟨c1, dd1, da1, sl1⟩, n1, ho1, hc1, hn1, hd1⟩ := g1
  obtain ⟨⟨c2, dd2, da2, sl2⟩, n2, ho2, hc2, hn2, hd2⟩ := g2
  simp only at hc1 hd1 hn1 hc2 hd2 hn2
  subst hc1 hd1 hn1 hc2 hd2 hn2
  refine concat_meets ⟨_, ho1, rfl⟩ ⟨_, ho2, rfl⟩ noFill_list_add seq_list_add PySem.F.slot_list_add PySem.F.entry_list_add (PySem.F.args_list_add_2 _ _) (list_addW l b i1.toArray i2.toArray n1 n2 none none sl1 sl2 (by rw [List.size_toArray, List.size_toArray]; omega)) ⟨ho1, ho2, ?_⟩
  rw [show i1.toArray ++ i2.toArray = (i1 ++ i2).toArray by simp]
  exact ⟨.ref _, _, I.lnew (t' := s.toks) (w1.append w2) (by rw [List.length_append]; omega), rfl, q _ I.fresh⟩

theorem op_addD : OpR X (binaryOp .Add) (rOp X.K .add) := by
  intro pins s σ H x y v u Q I rx ry ⟨ι, dx, dy, z, tr, hx, hy, e, q⟩
  change addD dx dy = some z at e
  cases hx with
  | int i =>
    cases hy with
    | int j => cases e; exact op_add pins s σ H _ _ v u Q I rx ry ⟨i, j, rfl, rfl, q.old (.int _)⟩
    | _ => cases e
  | str a =>
    cases hy with
    | str b =>
      obtain ⟨e1, e2⟩ := ite_some e
      subst e2
      exact op_add_str pins s σ H _ _ v u Q I rx ry ⟨a, b, rfl, rfl, lineOk_iff.mp e1, q.old (.str _)⟩
    | _ => cases e
  | lst h1 t1 =>
    cases hy with
    | lst h2 t2 =>
      obtain ⟨e1, e2⟩ := ite_some e
      subst e2
      rw [t1.length, t2.length] at e1
      exact op_catR pins s σ H _ _ v u Q I rx ry h1 h2 (lineOk_iff.mp e1) (q.lst tr (t1.app t2))
    | _ => cases e
  | tup h1 t1 =>
    cases hy with
    | tup h2 t2 =>
      rename_i a ds vs b es us
      obtain ⟨e1, e2⟩ := ite_some e
      subst e2
      rw [t1.length, t2.length] at e1
      refine op_catA pins s σ H _ _ v u Q I rx ry ⟨a, b, vs, us, rfl, rfl, SqT.full h1, SqT.full h2, lineOk_iff.mp e1, fun z => ?_, fun _ z => ?_, fun _ _ => q.tup tr (t1.app t2)⟩
      · subst z
        cases t1
        exact q.old (.tup h2 t2)
      · subst z
        cases t2
        rw [List.append_nil] at q
        exact q.old (.tup h1 t1)
    | _ => cases e
  | _ => cases e
theorem intOp_cases {p : P1} {K : PySem.W.Frag} {H G : Hp} {dx dy z : PyData} {x y : V} (hx : DT K H G dx x) (hy : DT K H G dy y) (e : int2 p dx dy = some z) : ∃ i j, x = .int i ∧ y = .int j ∧ intOp p i j = some z := by
  cases hx with
  | int i =>
    cases hy with
    | int j => exact ⟨i, j, rfl, rfl, e⟩
    | _ => cases e
  | _ => cases e
theorem op_subD : OpR X (binaryOp .Sub) (rOp X.K .sub) := by
  intro pins s σ H x y v u Q I rx ry ⟨ι, dx, dy, z, tr, hx, hy, e, q⟩
  obtain ⟨i, j, rfl, rfl, e⟩ := intOp_cases (p := .sub) hx hy e
  cases e
  exact op_sub pins s σ H _ _ v u Q I rx ry ⟨i, j, rfl, rfl, q.old (.int _)⟩
theorem op_mulD : OpR X (binaryOp .Mult) (rOp X.K .mul) := by
  intro pins s σ H x y v u Q I rx ry ⟨ι, dx, dy, z, tr, hx, hy, e, q⟩
  obtain ⟨i, j, rfl, rfl, e⟩ := intOp_cases (p := .mul) hx hy e
  obtain ⟨e1, e2⟩ := ite_some e
  subst e2
  unfold mulOk at e1
  rw [Bool.or_eq_true, Bool.or_eq_true] at e1
  rcases e1 with (e1 | e1) | e1
  · exact op_mul pins s σ H _ _ v u Q I rx ry ⟨i, j, rfl, rfl, .inl (of_decide_eq_true e1), q.old (.int _)⟩
  · exact op_mul pins s σ H _ _ v u Q I rx ry ⟨i, j, rfl, rfl, .inr (of_decide_eq_true e1), q.old (.int _)⟩
  · exact op_mulW pins s σ H _ _ v u Q I rx ry ⟨i, j, rfl, rfl, show _ < _ from of_decide_eq_true e1, q.old (.int _)⟩
theorem op_fdivD : OpR X (binaryOp .FloorDiv) (rOp X.K .fdiv) := by
  intro pins s σ H x y v u Q I rx ry ⟨ι, dx, dy, z, tr, hx, hy, e, q⟩
  obtain ⟨i, j, rfl, rfl, e⟩ := intOp_cases (p := .fdiv) hx hy e
  obtain ⟨e1, e2⟩ := ite_some e
  subst e2
  unfold divOk at e1
  rw [Bool.and_eq_true] at e1
  exact op_fdivW pins s σ H _ _ v u Q I rx ry ⟨i, j, rfl, rfl, ⟨of_decide_eq_true e1.1, of_decide_eq_true e1.2⟩, q.old (.int _)⟩
theorem op_modD : OpR X (binaryOp .Mod) (rOp X.K .mod) := by
  intro pins s σ H x y v u Q I rx ry ⟨ι, dx, dy, z, tr, hx, hy, e, q⟩
  obtain ⟨i, j, rfl, rfl, e⟩ := intOp_cases (p := .mod) hx hy e
  obtain ⟨e1, e2⟩ := ite_some e
  subst e2
  exact op_mod pins s σ H _ _ v u Q I rx ry ⟨i, j, rfl, rfl, of_decide_eq_true e1, q.old (.int _)⟩
theorem op_powD : OpR X (binaryOp .Pow) (rOp X.K .pow) := by
  intro pins s σ H x y v u Q I rx ry ⟨ι, dx, dy, z, tr, hx, hy, e, q⟩
  obtain ⟨i, j, rfl, rfl, e⟩ := intOp_cases (p := .pow) hx hy e
  obtain ⟨e1, e2⟩ := ite_some e
  subst e2
  unfold powOk at e1
  rw [Bool.and_eq_true, Bool.and_eq_true] at e1
  exact op_pow pins s σ H _ _ v u Q I rx ry ⟨i, j, rfl, rfl, ⟨of_decide_eq_true e1.1.1, of_decide_eq_true e1.1.2, of_decide_eq_true e1.2⟩, q.old (.int _)⟩
theorem op_ltD : OpR X (compareOp .Lt) (rOp X.K .lt) := by
  intro pins s σ H x y v u Q I rx ry ⟨ι, dx, dy, z, tr, hx, hy, e, q⟩
  obtain ⟨i, j, rfl, rfl, e⟩ := intOp_cases (p := .lt) hx hy e
  cases e
  exact op_lt pins s σ H _ _ v u Q I rx ry ⟨i, j, rfl, rfl, q.old (.bl _)⟩
theorem op_leD : OpR X (compareOp .LtE) (rOp X.K .le) := by
  intro pins s σ H x y v u Q I rx ry ⟨ι, dx, dy, z, tr, hx, hy, e, q⟩
  obtain ⟨i, j, rfl, rfl, e⟩ := intOp_cases (p := .le) hx hy e
  cases e
  exact op_le pins s σ H _ _ v u Q I rx ry ⟨i, j, rfl, rfl, q.old (.bl _)⟩
theorem op_gtD : OpR X (compareOp .Gt) (rOp X.K .gt) := by
  intro pins s σ H x y v u Q I rx ry ⟨ι, dx, dy, z, tr, hx, hy, e, q⟩
  obtain ⟨i, j, rfl, rfl, e⟩ := intOp_cases (p := .gt) hx hy e
  cases e
  exact op_gt pins s σ H _ _ v u Q I rx ry ⟨i, j, rfl, rfl, q.old (.bl _)⟩
theorem op_geD : OpR X (compareOp .GtE) (rOp X.K .ge) := by
  intro pins s σ H x y v u Q I rx ry ⟨ι, dx, dy, z, tr, hx, hy, e, q⟩
  obtain ⟨i, j, rfl, rfl, e⟩ := intOp_cases (p := .ge) hx hy e
  cases e
  exact op_ge pins s σ H _ _ v u Q I rx ry ⟨i, j, rfl, rfl, q.old (.bl _)⟩

/-! ### == over data -/
mutual
theorem DR.dp {K : PySem.W.Frag} {G H : Hp} (s : Same G H) : ∀ {d : PyData} {v : V}, DR K G d v → d.canLay0 = true → Dp K H v d
  | _, _, .non, _ => .non
  | _, _, .bl b, _ => .bl b
  | _, _, .int i, _ => .int i
  | _, _, .str x, _ => .str x
  | _, _, .lst h t, c => .lst (SqL.mono s h) (DRs.dp s t (by simpa [PyData.canLay0] using c))
  | _, _, .tup h t, c => .tup (SqT.mono s h) (DRs.dp s t (by simpa [PyData.canLay0] using c))
  | _, _, .dic0 _, c => by simp [PyData.canLay0] at c
theorem DRs.dp {K : PySem.W.Frag} {G H : Hp} (s : Same G H) : ∀ {ds : List PyData} {vs : List V}, DRs K G ds vs → PyData.canLayAll0 ds = true → DpAll K H vs ds
  | _, _, .nil, _ => .nil
  | _, _, .cons h t, c => by
    rw [PyData.canLayAll0, Bool.and_eq_true] at c
    exact .cons (DR.dp s h c.1) (DRs.dp s t c.2)
end
theorem DT.dp {K : PySem.W.Frag} {G H : Hp} (s : Same G H) {d : PyData} {v : V} (h : DT K H G d v) (c : d.canLay0 = true) : Dp K H v d := by
  cases h with
  | non => exact .non
  | bl b => exact .bl b
  | int i => exact .int i
  | str x => exact .str x
  | lst h t => exact .lst h (t.dp s (by simpa [PyData.canLay0] using c))
  | tup h t => exact .tup (SqT.mono s h) (t.dp s (by simpa [PyData.canLay0] using c))
  | dic0 _ => simp [PyData.canLay0] at c
theorem op_eqP (hu : X.A.units + 64 < cLine) : OpR X (compareOp .Eq) (rOp X.K .eq) := by
  intro pins s σ H x y v u Q I rx ry ⟨ι, dx, dy, z, tr, hx, hy, e, q⟩
  obtain ⟨e1, e2⟩ := ite_some (show (if eqOk dx dy = true then some (PyData.bool (PyData.eqv dx dy)) else none) = some z from e)
  subst e2
  unfold eqOk at e1
  rw [Bool.and_eq_true, Bool.and_eq_true] at e1
  obtain ⟨⟨c1, c2⟩, c3⟩ := e1
  obtain ⟨as, r1⟩ := Dp.reads I dx x v (hx.dp hide_same c1) rx
  obtain ⟨bs, r2⟩ := Dp.reads I dy y u (hy.dp hide_same c2) ry
  have c3 := of_decide_eq_true c3
  exact SeqAt.compareEq_reads r1 r2 c1 c2 (by omega) ⟨.bl _, H, I, rfl, q.old (.bl _)⟩
theorem op_neP (hu : X.A.units + 64 < cLine) : OpR X (compareOp .NotEq) (rOp X.K .ne) := by
  intro pins s σ H x y v u Q I rx ry ⟨ι, dx, dy, z, tr, hx, hy, e, q⟩
  obtain ⟨e1, e2⟩ := ite_some (show (if eqOk dx dy = true then some (PyData.bool (!PyData.eqv dx dy)) else none) = some z from e)
  subst e2
  unfold eqOk at e1
  rw [Bool.and_eq_true, Bool.and_eq_true] at e1
  obtain ⟨⟨c1, c2⟩, c3⟩ := e1
  obtain ⟨as, r1⟩ := Dp.reads I dx x v (hx.dp hide_same c1) rx
  obtain ⟨bs, r2⟩ := Dp.reads I dy y u (hy.dp hide_same c2) ry
  have c3 := of_decide_eq_true c3
  exact SeqAt.compareNe_reads r1 r2 c1 c2 (by omega) ⟨.bl _, H, I, rfl, q.old (.bl _)⟩
end
end Mp

set_option Elab.async false
set_option linter.all false
set_option maxRecDepth 100000
set_option maxHeartbeats 4000000
namespace Mp
open PySem PySem.Spec PyProof.Rows L2

theorem vals1' {x : V} {us : List Value} (r : Vals [x] us) : ∃ u, us = [u] ∧ RelV x u := by
  cases r with
  | cons a b =>
    cases b
    exact ⟨_, rfl, a⟩

section
variable {K : PySem.W.Frag} {H G : Hp}
theorem flat_V {d : PyData} {v : V} (h : DR K G d v) (f : flatD d = true) : flatV v = true := by
  cases h <;> first | rfl | (cases f)
theorem flat_eqV {d e : PyData} {v u : V} (h : DR K G d v) (h' : DR K G e u) (f : flatD d = true) (f' : flatD e = true) : eqV v u = PyData.eqv d e := by
  cases h <;> first | (cases f; done) | (cases h' <;> first | (cases f'; done) | (simp only [PyData.eqv]; rfl) | (unfold PyData.eqv; rfl))
theorem flat_all : ∀ {ds : List PyData} {vs : List V}, DRs K G ds vs → ds.all flatD = true → vs.all flatV = true
  | _, _, .nil, _ => rfl
  | _, _, .cons h t, f => by
    rw [List.all_cons, Bool.and_eq_true] at f
    rw [List.all_cons, flat_V h f.1, flat_all t f.2]
    rfl
theorem flat_in {x : PyData} {vx : V} (hx : DR K G x vx) (fx : flatD x = true) : ∀ {ds : List PyData} {vs : List V}, DRs K G ds vs → ds.all flatD = true → inV vx vs = inD x ds
  | _, _, .nil, _ => rfl
  | _, _, .cons h t, f => by
    rw [List.all_cons, Bool.and_eq_true] at f
    have e1 := flat_eqV h hx f.1 fx
    have e2 := flat_in hx fx t f.2
    unfold inV inD at *
    rw [List.any_cons, List.any_cons, e1, e2]
theorem DT.flat {d : PyData} {v : V} (h : DT K H G d v) (f : flatD d = true) : DR K G d v := by
  cases h <;> first | exact .non | exact .bl _ | exact .int _ | exact .str _ | (cases f)
theorem atI_rel {ds : List PyData} {vs : List V} {i : Int} {z : PyData} (t : DRs K G ds vs) (e : atI ds i = some z) : ∃ v, atI vs i = some v ∧ DR K G z v := by
  unfold atI at e ⊢
  rw [← t.length]
  cases q : ixN ds.length i with
  | none => rw [q] at e; cases e
  | some j =>
    rw [q] at e
    exact t.get (i := j) e
theorem cut_rel {ds : List PyData} {vs : List V} (t : DRs K G ds vs) (lo hi : Option Int) : DRs K G (cutD ds lo hi) (cutV vs lo hi) := by
  unfold cutD cutV
  rw [t.length]
  exact (t.drop _).take _
end

section
variable {X : Cx}
theorem op_inP (neg : Bool) {op : CmpOp} {p : P1} (h1 : OpR X (compareOp op) (rIn X.K neg)) (h2 : OpR X (compareOp op) (fun x y H Q => ∃ (c : Nat) (z : Str), x = .str ⟨#[c]⟩ ∧ y = .str z ∧ Q (.bl (if neg then !decide (c ∈ z.cps.toList) else decide (c ∈ z.cps.toList))) H))
    (hp : ∀ a b, pureD p [a, b] = (isinD a b).map fun k => .bool (if neg then !k else k)) : OpR X (compareOp op) (rOp X.K p) := by
  intro pins s σ H x y v u Q I rx ry ⟨ι, dx, dy, z, tr, hx, hy, e, q⟩
  rw [hp] at e
  have seqc : ∀ (ds : List PyData) (a : Addr) (vs : List V), y = .ref a → (SqL X.K H a vs ∨ SqT X.K H a vs) → DRs X.K (hide H ι) ds vs → isinD dx dy = (if (flatD dx && ds.all flatD) = true then some (inD dx ds) else none) → wpAny (model X.prog X.w) X.A (compareOp op v u) (EP X pins σ Q) X.xe s := by
    intro ds a vs ey hs t ei
    rw [ei] at e
    cases c : (flatD dx && ds.all flatD) with
    | false => rw [c] at e; cases e
    | true =>
      rw [c] at e
      rw [Bool.and_eq_true] at c
      cases e
      have hx' := hx.flat c.1
      refine h1 pins s σ H _ _ v u Q I rx ry ⟨a, vs, ey, hs, flat_V hx' c.1, flat_all t c.2, ?_⟩
      rw [flat_in hx' c.1 t c.2]
      exact q.old (.bl _)
  cases hy with
  | lst hs t => exact seqc _ _ _ rfl (.inl hs) t (by cases hx <;> first | rfl | (rename_i w; rcases w with ⟨⟨l⟩⟩; rcases l with _ | ⟨c, _ | ⟨c2, r⟩⟩ <;> rfl))
  | tup hs t => exact seqc _ _ _ rfl (.inr (SqT.full hs)) t (by cases hx <;> first | rfl | (rename_i w; rcases w with ⟨⟨l⟩⟩; rcases l with _ | ⟨c, _ | ⟨c2, r⟩⟩ <;> rfl))
  | str b =>
    cases hx with
    | str a =>
      rcases a with ⟨⟨l⟩⟩
      rcases l with _ | ⟨c, _ | ⟨c2, r⟩⟩
      · cases e
      · cases e
        exact h2 pins s σ H _ _ v u Q I rx ry ⟨c, b, rfl, rfl, q.old (.bl _)⟩
      · cases e
    | _ => cases e
  | _ => cases hx <;> first | (cases e; done) | (rename_i w; rcases w with ⟨⟨l⟩⟩; rcases l with _ | ⟨c, _ | ⟨c2, r⟩⟩ <;> cases e)
theorem op_isinD : OpR X (compareOp .In) (rOp X.K .isin) := op_inP false op_in_seq op_in_sign fun _ _ => rfl
theorem op_notinD : OpR X (compareOp .NotIn) (rOp X.K .notin) := op_inP true op_notIn_seq op_notIn_sign fun _ _ => rfl
theorem op_isND : OpR X (compareOp .Is) (fun x y H Q => y = .non ∧ rUn1 X.K .isN x H Q) := by
  intro pins s σ H x y v u Q I rx ry ⟨ey, ι, dx, z, tr, hx, e, q⟩
  cases e
  refine op_isN pins s σ H x y v u Q I rx ry ⟨ey, ?_⟩
  cases hx <;> exact q.old (.bl _)
theorem op_notND : OpR X (compareOp .IsNot) (fun x y H Q => y = .non ∧ rUn1 X.K .notN x H Q) := by
  intro pins s σ H x y v u Q I rx ry ⟨ey, ι, dx, z, tr, hx, e, q⟩
  cases e
  refine op_notN pins s σ H x y v u Q I rx ry ⟨ey, ?_⟩
  cases hx <;> exact q.old (.bl _)
theorem un_negD : UnR X (unaryOp .USub) (rUn1 X.K .neg) := by
  intro pins s σ H x v Q I rx ⟨ι, dx, z, tr, hx, e, q⟩
  cases hx with
  | int i => cases e; exact un_neg pins s σ H _ v Q I rx ⟨i, rfl, q.old (.int _)⟩
  | _ => cases e
theorem ix_D : IxR X (rOp X.K .ix) := by
  intro value slice pins s σ H x y v u Q I rx ry ⟨ι, dx, dy, z, tr, hx, hy, e, q⟩ hs
  change ixD dx dy = some z at e
  cases hy with
  | int i =>
    cases hx with
    | lst h t =>
      obtain ⟨w, e1, e2⟩ := atI_rel t e
      exact ix_list value slice pins s σ H _ _ v u Q I rx ry ⟨_, _, i, w, rfl, rfl, h, e1, q.old e2⟩ hs
    | tup h t =>
      obtain ⟨w, e1, e2⟩ := atI_rel t e
      exact ix_tup value slice pins s σ H _ _ v u Q I rx ry ⟨_, _, i, w, rfl, rfl, SqT.full h, e1, q.old e2⟩ hs
    | str a =>
      change (if lineOk a.length = true then (atI a.cps.toList i).map fun c => PyData.str ⟨#[c]⟩ else none) = some z at e
      cases c : lineOk a.length with
      | false => rw [c] at e; cases e
      | true =>
        rw [c, if_pos rfl] at e
        cases g : atI a.cps.toList i with
        | none => rw [g] at e; cases e
        | some w =>
          rw [g] at e
          cases e
          exact ix_str value slice pins s σ H _ _ v u Q I rx ry ⟨a, i, w, rfl, rfl, lineOk_iff.mp c, g, q.old (.str _)⟩ hs
    | _ => cases e
  | _ => cases hx <;> cases e
/-- slices -/
def rSlD (K : PySem.W.Frag) : V → Option Int → Option Int → Hp → VK → Prop := fun x lo hi H Q => ∃ ι dx z, Trk ι H ∧ DT K H (hide H ι) dx x ∧ slD dx lo hi = some z ∧ PQ K H ι z Q
theorem cut_whole {α : Type} {xs : List α} {a b : Nat} (h : a = 0 ∧ b = xs.length) : (xs.drop a).take (b - a) = xs := by
  obtain ⟨rfl, rfl⟩ := h
  simp
theorem sl_D : SlR X (rSlD X.K) := by
  intro pins s σ H x v vl vu lo hi sl Q I rx hs pl pu ⟨ι, dx, z, tr, hx, e, q⟩
  cases hx with
  | lst h t =>
    cases e
    refine sl_list pins s σ H _ v vl vu lo hi sl Q I rx hs pl pu ⟨_, _, rfl, h, ?_⟩
    exact q.lst tr (cut_rel t lo hi)
  | tup h t =>
    cases e
    rename_i a ds vs
    refine sl_tupA pins s σ H _ v vl vu lo hi sl Q I rx hs pl pu ⟨a, vs, rfl, SqT.full h, fun w => ?_, fun _ => q.tup tr (cut_rel t lo hi)⟩
    have e1 : cutD ds lo hi = ds := by
      unfold cutD
      rw [← t.length] at w
      exact cut_whole w
    rw [e1] at q
    exact q.old (.tup h t)
  | _ => cases e

/-! ### built-in functions -/
def rCl (K : PySem.W.Frag) (p : P1) : List V → Hp → VK → Prop := fun vs H Q => ∃ ι ds z, Trk ι H ∧ Paired (DT K H (hide H ι)) ds vs ∧ pureD p ds = some z ∧ PQ K H ι z Q
theorem no_two {p : P1} {K : PySem.W.Frag} {H G : Hp} {a b z : PyData} {ds : List PyData} {vs : List V} (h1 : pureD p [a, b] = int2 p a b) (h2 : ∀ i j, intOp p i j = none) (t : Paired (DT K H G) ds vs) (h3 : ds = [] → pureD p (a :: b :: ds) = pureD p [a, b] := by intro e; rw [e]) (h4 : ∀ c r, pureD p (a :: b :: c :: r) = none := by intros; rfl) : ¬ pureD p (a :: b :: ds) = some z := by
  intro e
  cases t with
  | nil =>
    rw [h1] at e
    cases a <;> first | (cases e; done) | (cases b <;> first | (cases e; done) | (rename_i i j; rw [show int2 p (.int i) (.int j) = intOp p i j from rfl, h2] at e; cases e))
  | cons _ _ => rw [h4] at e; cases e
theorem call_lenP : CallR X (.builtin "len") (rCl X.K .len) := by
  intro pins s σ H vs us Q I r ⟨ι, ds, z, tr, hd, e, q⟩
  cases hd with
  | nil => cases e
  | cons h t =>
    cases t with
    | nil =>
      rename_i d v
      change (lenD d).map PyData.int = some z at e
      cases h with
      | str a =>
        cases c : lineOk a.length with
        | false => simp only [lenD, c] at e; cases e
        | true =>
          simp only [lenD, c] at e
          cases e
          exact call_len pins s σ H _ us Q I r ⟨_, a.length, rfl, ⟨lineOk_iff.mp c, rfl⟩, q.old (.int _)⟩
      | lst h t =>
        cases e
        rw [t.length] at q
        exact call_len pins s σ H _ us Q I r ⟨_, _, rfl, .inl ⟨_, h, rfl⟩, q.old (.int _)⟩
      | tup h t =>
        cases e
        rw [t.length] at q
        exact call_len pins s σ H _ us Q I r ⟨_, _, rfl, .inr ⟨_, SqT.full h, rfl⟩, q.old (.int _)⟩
      | _ => cases e
    | cons _ t => exact absurd e (no_two rfl (fun _ _ => rfl) t)
theorem call_intP : CallR X (.type "int") (rCl X.K .int) := by
  intro pins s σ H vs us Q I r ⟨ι, ds, z, tr, hd, e, q⟩
  cases hd with
  | nil => cases e
  | cons h t =>
    cases t with
    | nil =>
      cases h with
      | int i => cases e; exact call_int1 pins s σ H _ us Q I r (.inl ⟨i, rfl, q.old (.int _)⟩)
      | _ => cases e
    | cons _ t => exact absurd e (no_two rfl (fun _ _ => rfl) t)
theorem sum_rel {K : PySem.W.Frag} {G : Hp} : ∀ {ds : List PyData} {vs : List V} {n : Int}, DRs K G ds vs → sumD ds = some n → ∃ ns : List Int, vs = ns.map V.int ∧ ns.sum = n
  | _, _, _, .nil, e => ⟨[], rfl, by cases e; rfl⟩
  | _, _, n, .cons (.int i) t, e => by
    simp only [sumD] at e
    cases q : sumD _ with
    | none => rw [q] at e; cases e
    | some m =>
      rw [q] at e
      cases e
      obtain ⟨ns, e1, e2⟩ := sum_rel t q
      exact ⟨i :: ns, by rw [e1]; rfl, by rw [List.sum_cons, e2]⟩
  | _, _, _, .cons .non _, e => by cases e
  | _, _, _, .cons (.bl _) _, e => by cases e
  | _, _, _, .cons (.str _) _, e => by cases e
  | _, _, _, .cons (.lst _ _) _, e => by cases e
  | _, _, _, .cons (.tup _ _) _, e => by cases e
  | _, _, _, .cons (.dic0 _) _, e => by cases e
theorem all_rel {K : PySem.W.Frag} {G : Hp} : ∀ {ds : List PyData} {vs : List V} {n : Bool}, DRs K G ds vs → allD ds = some n → ∃ ns : List Bool, vs = ns.map V.bl ∧ ns.all id = n
  | _, _, _, .nil, e => ⟨[], rfl, by cases e; rfl⟩
  | _, _, n, .cons (.bl i) t, e => by
    simp only [allD] at e
    cases q : allD _ with
    | none => rw [q] at e; cases e
    | some m =>
      rw [q] at e
      cases e
      obtain ⟨ns, e1, e2⟩ := all_rel t q
      exact ⟨i :: ns, by rw [e1]; rfl, by rw [List.all_cons, e2]; rfl⟩
  | _, _, _, .cons .non _, e => by cases e
  | _, _, _, .cons (.int _) _, e => by cases e
  | _, _, _, .cons (.str _) _, e => by cases e
  | _, _, _, .cons (.lst _ _) _, e => by cases e
  | _, _, _, .cons (.tup _ _) _, e => by cases e
  | _, _, _, .cons (.dic0 _) _, e => by cases e
theorem call_sumP (hc : X.calm = true) : CallR X (.builtin "sum") (rCl X.K .sum) := by
  intro pins s σ H vs us Q I r ⟨ι, ds, z, tr, hd, e, q⟩
  cases hd with
  | nil => cases e
  | cons h t =>
    cases t with
    | nil =>
      cases h with
      | lst h t =>
        rename_i a es ws
        cases c : sumD es with
        | none => simp only [pureD, pure1, c] at e; cases e
        | some n =>
          simp only [pureD, pure1, c] at e
          cases e
          obtain ⟨ns, e1, e2⟩ := sum_rel t c
          subst e1 e2
          exact cr_sum hc pins s σ H _ us Q I r ⟨a, ns, rfl, h, q.old (.int _)⟩
      | _ => cases e
    | cons _ t => exact absurd e (no_two rfl (fun _ _ => rfl) t)
theorem call_allP (hc : X.calm = true) : CallR X (.builtin "all") (rCl X.K .all) := by
  intro pins s σ H vs us Q I r ⟨ι, ds, z, tr, hd, e, q⟩
  cases hd with
  | nil => cases e
  | cons h t =>
    cases t with
    | nil =>
      cases h with
      | lst h t =>
        rename_i a es ws
        cases c : allD es with
        | none => simp only [pureD, pure1, c] at e; cases e
        | some n =>
          simp only [pureD, pure1, c] at e
          cases e
          obtain ⟨ns, e1, e2⟩ := all_rel t c
          subst e1 e2
          exact cr_all hc pins s σ H _ us Q I r ⟨a, ns, rfl, h, q.old (.bl _)⟩
      | _ => cases e
    | cons _ t => exact absurd e (no_two rfl (fun _ _ => rfl) t)
theorem call_tupleP : CallR X (.type "tuple") (rCl X.K .tupleOf) := by
  intro pins s σ H vs us Q I r ⟨ι, ds, z, tr, hd, e, q⟩
  cases hd with
  | nil => cases e
  | cons h t =>
    cases t with
    | nil =>
      cases h with
      | lst h t => cases e; exact call_tuple_of pins s σ H _ us Q I r ⟨_, _, rfl, .inl ⟨h, q.tup tr t⟩⟩
      | tup h t => cases e; exact call_tuple_of pins s σ H _ us Q I r ⟨_, _, rfl, .inr ⟨SqT.full h, q.old (.tup h t)⟩⟩
      | _ => cases e
    | cons _ t => exact absurd e (no_two rfl (fun _ _ => rfl) t)
theorem call_listP : CallR X (.type "list") (rCl X.K .listOf) := by
  intro pins s σ H vs us Q I r ⟨ι, ds, z, tr, hd, e, q⟩
  cases hd with
  | nil => cases e
  | cons h t =>
    cases t with
    | nil =>
      cases h with
      | lst h t => cases e; exact call_list_of pins s σ H _ us Q I r ⟨_, _, rfl, .inl h, q.lst tr t⟩
      | tup h t => cases e; exact call_list_of pins s σ H _ us Q I r ⟨_, _, rfl, .inr (SqT.full h), q.lst tr t⟩
      | _ => cases e
    | cons _ t => exact absurd e (no_two rfl (fun _ _ => rfl) t)
theorem call_max2P (hc : X.calm = true) : CallR X (.builtin "max") (rCl X.K .max2) := by
  intro pins s σ H vs us Q I r ⟨ι, ds, z, tr, hd, e, q⟩
  cases hd with
  | nil => cases e
  | cons h t =>
    cases t with
    | nil => cases e
    | cons h' t =>
      cases t with
      | nil =>
        obtain ⟨i, j, rfl, rfl, e⟩ := intOp_cases (p := .max2) h h' e
        cases e
        exact call_max2 hc pins s σ H _ us Q I r ⟨i, j, rfl, q.old (.int _)⟩
      | cons _ _ => cases e
theorem call_min2P (hc : X.calm = true) : CallR X (.builtin "min") (rCl X.K .min2) := by
  intro pins s σ H vs us Q I r ⟨ι, ds, z, tr, hd, e, q⟩
  cases hd with
  | nil => cases e
  | cons h t =>
    cases t with
    | nil => cases e
    | cons h' t =>
      cases t with
      | nil =>
        obtain ⟨i, j, rfl, rfl, e⟩ := intOp_cases (p := .min2) h h' e
        cases e
        exact call_min2 hc pins s σ H _ us Q I r ⟨i, j, rfl, q.old (.int _)⟩
      | cons _ _ => cases e
/-- isinstance(x, T) -/
def tyVal : PyData → String
  | .none => "NoneType" | .bool _ => "bool" | .int _ => "int" | .str _ => "str" | .list _ => "list" | .tuple _ => "tuple" | .dict _ => "dict"
theorem DT.ty {K : PySem.W.Frag} {H : Hp} {ι : List Addr} {d : PyData} {v : V} (h : DT K H (hide H ι) d v) : TyX K H v (.type (tyVal d)) := by
  cases h with
  | non => exact .base .non
  | bl b => exact .base (.bl b)
  | int i => exact .base (.int i)
  | str x => exact .base (.str x)
  | lst h t =>
    rcases h with (h | ⟨o, h⟩) | ⟨o, its, n, h, hc, _⟩
    · exact .base (.lst h)
    · exact .base (.frz h)
    · exact .kList h hc
  | tup h t =>
    rcases SqT.full h with (h | ⟨o, h⟩) | ⟨o, its, n, h, hc, _⟩
    · exact .base (.tup h)
    · exact .fTuple h
    · exact .kTuple h hc
  | dic0 h =>
    rcases Rd.mono hide_same h with h | ⟨o, h⟩
    · exact .base (.dK h)
    · exact .fDict h
def tyN : Ty → String → Bool
  | .int, n => n == "int" || n == "bool"
  | .bool, n => n == "bool"
  | .str, n => n == "str"
  | .tuple, n => n == "tuple"
  | .list, n => n == "list"
theorem kit_all : ∀ t : Ty, (["NoneType", "bool", "int", "str", "list", "tuple", "dict"].all fun n => kitB n t.name == some (tyN t n)) = true := by
  intro t
  cases t <;> decide +kernel
theorem kit_tab (t : Ty) (d : PyData) : kitB (tyVal d) t.name = some (isTy t d) := by
  have h := List.all_eq_true.mp (kit_all t) (tyVal d) (by cases d <;> simp [tyVal])
  rw [beq_iff_eq.mp h]
  cases t <;> cases d <;> simp [tyN, tyVal, isTy]
theorem call_isiP (t : Ty) : CallR X (.builtin "isinstance") (fun vs H Q => ∃ x, vs = [x, .ty t.name] ∧ rUn1 X.K (.isinst t) x H Q) := by
  intro pins s σ H vs us Q I r ⟨x, ev, ι, dx, z, tr, hx, e, q⟩
  subst ev
  cases e
  refine call_isi pins s σ H _ us Q I r ⟨x, .ty t.name, _, .type t.name, isTy t dx, rfl, .ty _, hx.ty, kit_ty ?_, q.old (.bl _)⟩
  rw [kit_tab]
/-- truth -/
theorem tru_P {K : PySem.W.Frag} {H : Hp} {ι : List Addr} {d : PyData} {v : V} {b : Bool} (h : DT K H (hide H ι) d v) (e : truD d = some b) : TruV K v H b := by
  cases h with
  | non => cases e; rfl
  | bl b => cases e; rfl
  | int i => cases e; rfl
  | str x =>
    obtain ⟨e1, e2⟩ := ite_some e
    exact ⟨lineOk_iff.mp e1, e2.symm⟩
  | lst h t =>
    cases e
    exact .inl ⟨_, h, by cases t <;> rfl⟩
  | tup h t =>
    cases e
    exact .inr (.inl ⟨_, SqT.full h, by cases t <;> rfl⟩)
  | dic0 h => cases e
end
end Mp

set_option Elab.async false
set_option linter.all false
set_option maxRecDepth 100000
set_option maxHeartbeats 4000000
namespace Mp
open PySem PySem.Spec PyProof.Rows L2

/-! ### stores and slots over a heap -/
def CellR (K : PySem.W.Frag) (H G : Hp) (a : Addr) : Cell → Prop
  | .lst ds => ∃ vs, H a = some (.lst vs) ∧ DRs K G ds vs
structure StR (K : PySem.W.Frag) (H : Hp) (ι : List Addr) (st : Sto) : Prop where
  len : ι.length = st.length
  nd : ι.Nodup
  cell : ∀ (n : Nat) (a : Addr) (c : Cell), ι[n]? = some a → st[n]? = some c → CellR K H (hide H ι) a c
def WR (K : PySem.W.Frag) (H : Hp) (ι : List Addr) : W → V → Prop
  | .d x, v => DR K (hide H ι) x v
  | .loc n, v => ∃ a, v = .ref a ∧ ι[n]? = some a
def WRs (K : PySem.W.Frag) (H : Hp) (ι : List Addr) : List W → List V → Prop := Paired (WR K H ι)
structure RhoR (K : PySem.W.Frag) (H : Hp) (ι : List Addr) (ρ : Rho) (σ : L2.St) : Prop where
  len : σ.length = ρ.length
  at_ : ∀ (i : Nat) (w : W), ρ[i]? = some (some w) → ∃ v, σ[i]? = some (some v) ∧ WR K H ι w v
structure Ext (H : Hp) (ι : List Addr) (H' : Hp) (ι' : List Addr) : Prop where
  same : Same (hide H ι) (hide H' ι')
  pre : ∃ r, ι' = ι ++ r

section
variable {K : PySem.W.Frag} {H H' H'' : Hp} {ι ι' ι'' : List Addr} {st st' : Sto} {ρ : Rho} {σ : L2.St}
theorem Ext.refl : Ext H ι H ι := ⟨fun _ _ e => e, [], (List.append_nil _).symm⟩
theorem Ext.trans (a : Ext H ι H' ι') (b : Ext H' ι' H'' ι'') : Ext H ι H'' ι'' := by
  obtain ⟨r, e⟩ := a.pre
  obtain ⟨q, f⟩ := b.pre
  exact ⟨fun x o h => b.same x o (a.same x o h), r ++ q, by rw [f, e, List.append_assoc]⟩
theorem Ext.grow (g : Grow H ι H') : Ext H ι H' ι := ⟨g.same, [], (List.append_nil _).symm⟩
theorem Ext.at_ (x : Ext H ι H' ι') {n : Nat} {a : Addr} (h : ι[n]? = some a) : ι'[n]? = some a := by
  obtain ⟨r, e⟩ := x.pre
  rw [e, List.getElem?_append_left (List.getElem?_eq_some_iff.mp h).1]
  exact h
theorem WR.ext (x : Ext H ι H' ι') : ∀ {w : W} {v : V}, WR K H ι w v → WR K H' ι' w v
  | .d _, _, h => DR.mono x.same h
  | .loc _, _, ⟨a, e, h⟩ => ⟨a, e, x.at_ h⟩
theorem WRs.ext (x : Ext H ι H' ι') : ∀ {ws : List W} {vs : List V}, WRs K H ι ws vs → WRs K H' ι' ws vs
  | _, _, .nil => .nil
  | _, _, .cons h t => .cons (WR.ext x h) (WRs.ext x t)
theorem RhoR.ext (x : Ext H ι H' ι') (h : RhoR K H ι ρ σ) : RhoR K H' ι' ρ σ := ⟨h.len, fun i w e => by
  obtain ⟨v, e1, e2⟩ := h.at_ i w e
  exact ⟨v, e1, WR.ext x e2⟩⟩
theorem RhoR.set {w : W} {v : V} (h : RhoR K H ι ρ σ) (r : WR K H ι w v) (i : Nat) : RhoR K H ι (ρ.set i (some w)) (σ.set i (some v)) := by
  refine ⟨by rw [List.length_set, List.length_set, h.len], fun j u e => ?_⟩
  by_cases hj : i = j
  · subst hj
    by_cases hl : i < ρ.length
    · rw [List.getElem?_set_self hl] at e
      cases e
      exact ⟨v, by rw [List.getElem?_set_self (by rw [h.len]; exact hl)], r⟩
    · rw [List.getElem?_eq_none (by rw [List.length_set]; omega)] at e
      cases e
  · rw [List.getElem?_set_ne hj] at e ⊢
    exact h.at_ j u e
theorem RhoR.clear (h : RhoR K H ι ρ σ) (i : Nat) : RhoR K H ι (ρ.set i none) (σ.set i none) := by
  refine ⟨by rw [List.length_set, List.length_set, h.len], fun j u e => ?_⟩
  by_cases hj : i = j
  · subst hj
    by_cases hl : i < ρ.length
    · rw [List.getElem?_set_self hl] at e
      cases e
    · rw [List.getElem?_eq_none (by rw [List.length_set]; omega)] at e
      cases e
  · rw [List.getElem?_set_ne hj] at e ⊢
    exact h.at_ j u e
theorem RhoR.wipe (h : RhoR K H ι ρ σ) : ∀ vs : List Nat, RhoR K H ι (wipeR ρ vs) (L2.wipe σ vs)
  | [] => h
  | v :: vs => by
    unfold wipeR L2.wipe
    exact (RhoR.wipe h vs).clear v
theorem StR.trk (h : StR K H ι st) : Trk ι H := fun a ha => by
  obtain ⟨n, e⟩ := List.getElem?_of_mem ha
  have hl : n < st.length := by rw [← h.len]; exact (List.getElem?_eq_some_iff.mp e).1
  have := h.cell n a st[n] e (List.getElem?_eq_getElem hl)
  cases c : st[n] with
  | lst ds =>
    rw [c] at this
    obtain ⟨vs, e, _⟩ := this
    exact ⟨_, e⟩
theorem StR.grow (h : StR K H ι st) (g : Grow H ι H') : StR K H' ι st := by
  refine ⟨h.len, h.nd, fun n a c e1 e2 => ?_⟩
  have ha : a ∈ ι := List.mem_of_getElem? e1
  have := h.cell n a c e1 e2
  cases c with
  | lst ds =>
    obtain ⟨vs, e, t⟩ := this
    exact ⟨vs, (g.at_ a ha).trans e, t.mono g.same⟩
theorem deref_T (h : StR K H ι st) {w : W} {v : V} {d : PyData} (r : WR K H ι w v) (e : deref st w = some d) : DT K H (hide H ι) d v := by
  cases w with
  | d x => cases e; exact DR.top hide_same r
  | loc n =>
    obtain ⟨a, rfl, ea⟩ := r
    cases q : st[n]? with
    | none => simp only [deref, q] at e; cases e
    | some c =>
      cases c with
      | lst ds =>
        simp only [deref, q] at e
        cases e
        obtain ⟨vs, e1, t⟩ := h.cell n a _ ea q
        exact .lst (.inl (.inl e1)) t
theorem derefs_T (h : StR K H ι st) : ∀ {ws : List W} {vs : List V} {ds : List PyData}, WRs K H ι ws vs → derefs st ws = some ds → Paired (DT K H (hide H ι)) ds vs
  | _, _, _, .nil, e => by cases e; exact .nil
  | _, _, _, .cons (a := w) (l₁ := ws) r t, e => by
    unfold derefs at e
    cases q1 : deref st w with
    | none => rw [q1] at e; cases e
    | some x =>
      cases q2 : derefs st ws with
      | none => rw [q1, q2] at e; cases e
      | some xs =>
        rw [q1, q2] at e
        cases e
        exact .cons (deref_T h r q1) (derefs_T h t q2)
end

/-! ### the ground of a program -/
structure Gam where
  K : PySem.W.Frag
  FT : List Fn
  xa : Nat → Addr → Prop

/-- what is wanted behind a computation -/
def Post {α β : Type} (Γ : Gam) (R : Hp → List Addr → α → β → Prop) (r : Res α) (H : Hp) (ι : List Addr) (Q : β → Hp → Prop) (E : XK) : Prop :=
  match r with
  | .ok a st => ∀ b H' ι', Ext H ι H' ι' → StR Γ.K H' ι' st → R H' ι' a b → Q b H'
  | .exc x st => ∀ H' ι', Ext H ι H' ι' → StR Γ.K H' ι' st → ∀ C, Γ.xa x C → E (.ref C) none H'
  | .bad => False
section
variable {α β γ : Type} {Γ : Gam} {R : Hp → List Addr → α → β → Prop} {H H' : Hp} {ι ι' : List Addr} {E : XK}
theorem Post.shift {r : Res α} {Q : β → Hp → Prop} (x : Ext H ι H' ι') (h : Post Γ R r H ι Q E) : Post Γ R r H' ι' Q E := by
  cases r with
  | ok a st => exact fun b H1 ι1 y => h b H1 ι1 (x.trans y)
  | exc n st => exact fun H1 ι1 y => h H1 ι1 (x.trans y)
  | bad => exact h
theorem Post.bind {δ : Type} {R' : Hp → List Addr → γ → δ → Prop} {r : Res α} {f : α → Sto → Res γ} {Q : δ → Hp → Prop} {Q' : β → Hp → Prop} (h : Post Γ R' (r.bind f) H ι Q E)
    (k : ∀ a st b H1 ι1, Ext H ι H1 ι1 → StR Γ.K H1 ι1 st → R H1 ι1 a b → Post Γ R' (f a st) H1 ι1 Q E → Q' b H1) : Post Γ R r H ι Q' E := by
  cases r with
  | ok a st => exact fun b H1 ι1 x s q => k a st b H1 ι1 x s q (Post.shift x h)
  | exc n st => exact h
  | bad => exact h
theorem Post.imp {r : Res α} {Q Q' : β → Hp → Prop} (h : Post Γ R r H ι Q E) (k : ∀ b H, Q b H → Q' b H) : Post Γ R r H ι Q' E := by
  cases r with
  | ok a st => exact fun b H1 ι1 x s q => k _ _ (h b H1 ι1 x s q)
  | exc n st => exact h
  | bad => exact h
end
structure Sim (K : PySem.W.Frag) (σ : L2.St) (H : Hp) (ι : List Addr) (ρ : Rho) (st : Sto) : Prop where
  st : StR K H ι st
  rho : RhoR K H ι ρ σ
theorem Sim.next {K : PySem.W.Frag} {σ : L2.St} {H H' : Hp} {ι ι' : List Addr} {ρ : Rho} {st st' : Sto} (s : Sim K σ H ι ρ st) (x : Ext H ι H' ι') (h : StR K H' ι' st') : Sim K σ H' ι' ρ st' := ⟨h, s.rho.ext x⟩

def tE (Γ : Gam) (Wx : WX) (c : Rho → Sto → Res W) : TE := fun σ H Q => ∃ ι ρ st, Sim Γ.K σ H ι ρ st ∧ Post Γ (WR Γ.K) (c ρ st) H ι Q (WE Wx σ)
def tA (Γ : Gam) (Wx : WX) (c : Rho → Sto → Res (List W)) : TA := fun σ H Q => ∃ ι ρ st, Sim Γ.K σ H ι ρ st ∧ Post Γ (WRs Γ.K) (c ρ st) H ι Q (WE Wx σ)
def tT (Γ : Gam) (Wx : WX) (c : Rho → Sto → Res Bool) : TT := fun σ H Q => ∃ ι ρ st, Sim Γ.K σ H ι ρ st ∧ Post Γ (fun _ _ b k => b = k) (c ρ st) H ι Q (WE Wx σ)

section
variable {X : Cx} {e : Expr} {es : List Expr}
theorem PE.weak {t t' : TE} (h : PE X e t) (w : ∀ σ H Q, t' σ H Q → t σ H Q) : PE X e t' := ⟨fun pins s σ H Q I q => h.run pins s σ H Q I (w _ _ _ q)⟩
theorem PT.weak {t t' : TT} (h : PT X e t) (w : ∀ σ H Q, t' σ H Q → t σ H Q) : PT X e t' := ⟨fun pins s σ H Q I q => h.run pins s σ H Q I (w _ _ _ q)⟩
theorem PW.weak {t t' : TT} (h : PW X e t) (w : ∀ σ H Q, t' σ H Q → t σ H Q) : PW X e t' := ⟨fun wh pins s σ H Q I q => h.run wh pins s σ H Q I (w _ _ _ q)⟩
theorem PA.weak {t t' : TA} (h : PA X es t) (w : ∀ σ H Q, t' σ H Q → t σ H Q) : PA X es t' := ⟨fun pos pins s σ H Q I q => h.run pos pins s σ H Q I (w _ _ _ q)⟩
theorem PS.weak {st : Stmt} {t t' : TS} (h : PS X st t) (w : ∀ D σ H, t' D σ H → t D σ H) : PS X st t' := ⟨fun pins s σ H D I q => h.run pins s σ H D I (w _ _ _ q)⟩
end

/-! ### primitives: from the store to the rules by values -/
section
variable {Γ : Gam} {H : Hp} {ι : List Addr} {st : Sto} {E : XK} {Q : VK} {p : P1}
theorem pq_of {z : PyData} (s : StR Γ.K H ι st) (h : Post Γ (WR Γ.K) (.ok (.d z) st) H ι Q E) : PQ Γ.K H ι z Q := fun v' H' g r => h v' H' ι (Ext.grow g) (s.grow g) r
theorem prim_inv {ws : List W} (h : Post Γ (WR Γ.K) (primD p ws st) H ι Q E) : ∃ ds z, argsD p ws st = some ds ∧ pureD p ds = some z ∧ Post Γ (WR Γ.K) (.ok (.d z) st) H ι Q E := by
  unfold primD at h
  cases q1 : argsD p ws st with
  | none => rw [q1] at h; exact h.elim
  | some ds =>
    rw [q1] at h
    dsimp only at h
    cases q2 : pureD p ds with
    | none => rw [q2] at h; exact h.elim
    | some z => rw [q2] at h; exact ⟨ds, z, rfl, q2, h⟩
theorem ds_derefs {st : Sto} : ∀ {ws : List W} {ds : List PyData}, dsOf ws = some ds → derefs st ws = some ds
  | [], _, e => e
  | .d x :: ws, ds, e => by
    rw [dsOf] at e
    cases q : dsOf ws with
    | none => rw [q] at e; cases e
    | some xs =>
      rw [q] at e
      cases e
      rw [derefs, ds_derefs q]
      rfl
  | .loc n :: ws, ds, e => by cases e
theorem ds_rel {K : PySem.W.Frag} {H : Hp} {ι : List Addr} : ∀ {ws : List W} {vs : List V} {ds : List PyData}, WRs K H ι ws vs → dsOf ws = some ds → DRs K (hide H ι) ds vs
  | _, _, _, .nil, e => by cases e; exact .nil
  | _, _, _, .cons (a := w) (l₁ := ws) r t, e => by
    cases w with
    | loc n => cases e
    | d x =>
      rw [dsOf] at e
      cases q : dsOf ws with
      | none => rw [q] at e; cases e
      | some xs =>
        rw [q] at e
        cases e
        exact .cons r (ds_rel t q)
theorem args_derefs {ws : List W} {ds : List PyData} (e : argsD p ws st = some ds) : derefs st ws = some ds := by
  unfold argsD at e
  split at e
  · exact ds_derefs e
  · exact e
theorem prim_cl {ws : List W} {vs : List V} (s : StR Γ.K H ι st) (r : WRs Γ.K H ι ws vs) (h : Post Γ (WR Γ.K) (primD p ws st) H ι Q E) : rCl Γ.K p vs H Q := by
  obtain ⟨ds, z, e1, e2, e3⟩ := prim_inv h
  exact ⟨ι, ds, z, s.trk, derefs_T s r (args_derefs e1), e2, pq_of s e3⟩
theorem prim_op {x y : W} {v u : V} (s : StR Γ.K H ι st) (r1 : WR Γ.K H ι x v) (r2 : WR Γ.K H ι y u) (h : Post Γ (WR Γ.K) (primD p [x, y] st) H ι Q E) : rOp Γ.K p v u H Q := by
  obtain ⟨ι', ds, z, t, hd, e, q⟩ := prim_cl s (.cons r1 (.cons r2 .nil)) h
  cases hd with
  | cons h1 hd =>
    cases hd with
    | cons h2 hd =>
      cases hd
      exact ⟨ι', _, _, z, t, h1, h2, e, q⟩
theorem prim_un {x : W} {v : V} (s : StR Γ.K H ι st) (r1 : WR Γ.K H ι x v) (h : Post Γ (WR Γ.K) (primD p [x] st) H ι Q E) : rUn1 Γ.K p v H Q := by
  obtain ⟨ι', ds, z, t, hd, e, q⟩ := prim_cl s (.cons r1 .nil) h
  cases hd with
  | cons h1 hd =>
    cases hd
    exact ⟨ι', _, z, t, h1, e, q⟩
theorem tru_of {w : W} {v : V} {Q : Bool → Hp → Prop} (s : StR Γ.K H ι st) (r : WR Γ.K H ι w v) (h : Post Γ (fun _ _ b k => b = k) (truR w st) H ι Q E) : ∃ k, TruV Γ.K v H k ∧ Q k H ∧ truR w st = .ok k st := by
  unfold truR at h ⊢
  cases q1 : deref st w with
  | none => rw [q1] at h; exact h.elim
  | some d =>
    rw [q1] at h
    dsimp only at h ⊢
    cases q2 : truD d with
    | none => rw [q2] at h; exact h.elim
    | some b =>
      rw [q2] at h
      exact ⟨b, tru_P (deref_T s r q1) q2, h b H ι .refl s rfl, rfl⟩
end

/-! ### composition of expressions -/
theorem bind_bind {α β γ : Type} (r : Res α) (f : α → Sto → Res β) (g : β → Sto → Res γ) : (r.bind f).bind g = r.bind fun a st => (f a st).bind g := by
  cases r <;> rfl
section
variable {Γ : Gam} {Wx : WX} {X : Cx} {a b : Expr} {es : List Expr} {ca cb : Rho → Sto → Res W} {cl : Rho → Sto → Res (List W)} {p : P1} {pos : Pos}
/-- two in a row, then f -/
theorem two_of {f : W → W → Sto → Res W} {σ : L2.St} {H : Hp} {Q : VK} {r : R2} (hr : ∀ x y v u st H1 ι1, StR Γ.K H1 ι1 st → WR Γ.K H1 ι1 x v → WR Γ.K H1 ι1 y u → Post Γ (WR Γ.K) (f x y st) H1 ι1 Q (WE Wx σ) → r v u H1 Q)
    (h : tE Γ Wx (fun ρ st => (ca ρ st).bind fun x st => (cb ρ st).bind fun y st => f x y st) σ H Q) : tE Γ Wx ca σ H fun v H1 => tE Γ Wx cb σ H1 fun u H2 => r v u H2 Q := by
  obtain ⟨ι, ρ, st, S, h⟩ := h
  refine ⟨ι, ρ, st, S, Post.bind h fun x st1 v H1 ι1 x1 s1 r1 h1 => ⟨ι1, ρ, st1, S.next x1 s1, Post.bind h1 fun y st2 u H2 ι2 x2 s2 r2 h2 => hr x y v u st2 H2 ι2 s2 (r1.ext x2) r2 h2⟩⟩
theorem one_of {f : W → Sto → Res W} {σ : L2.St} {H : Hp} {Q : VK} {r : V → Hp → VK → Prop} (hr : ∀ x v st H1 ι1, StR Γ.K H1 ι1 st → WR Γ.K H1 ι1 x v → Post Γ (WR Γ.K) (f x st) H1 ι1 Q (WE Wx σ) → r v H1 Q)
    (h : tE Γ Wx (fun ρ st => (ca ρ st).bind fun x st => f x st) σ H Q) : tE Γ Wx ca σ H fun v H1 => r v H1 Q := by
  obtain ⟨ι, ρ, st, S, h⟩ := h
  exact ⟨ι, ρ, st, S, Post.bind h fun x st1 v H1 ι1 x1 s1 r1 h1 => hr x v st1 H1 ι1 s1 r1 h1⟩
theorem many_of {f : List W → Sto → Res W} {σ : L2.St} {H : Hp} {Q : VK} {r : List V → Hp → VK → Prop} (hr : ∀ ws vs st H1 ι1, StR Γ.K H1 ι1 st → WRs Γ.K H1 ι1 ws vs → Post Γ (WR Γ.K) (f ws st) H1 ι1 Q (WE Wx σ) → r vs H1 Q)
    (h : tE Γ Wx (fun ρ st => (cl ρ st).bind fun ws st => f ws st) σ H Q) : tA Γ Wx cl σ H fun vs H1 => r vs H1 Q := by
  obtain ⟨ι, ρ, st, S, h⟩ := h
  exact ⟨ι, ρ, st, S, Post.bind h fun ws st1 vs H1 ι1 x1 s1 r1 h1 => hr ws vs st1 H1 ι1 s1 r1 h1⟩
theorem pa_nilE : PA X [] (tA Γ Wx fun _ st => .ok [] st) := PA.weak pa_nil fun σ H Q ⟨ι, ρ, st, S, h⟩ => h [] H ι .refl S.st .nil
theorem pa_consE (ha : PE X a (tE Γ Wx ca)) (hr : PA X es (tA Γ Wx cl)) (hs : starEach (a :: es) X.env = (false, eval a X.env) :: starEach es X.env) : PA X (a :: es) (tA Γ Wx fun ρ st => (ca ρ st).bind fun w st => (cl ρ st).bind fun ws st => .ok (w :: ws) st) := by
  refine PA.weak (pa_cons ha hr hs) fun σ H Q ⟨ι, ρ, st, S, h⟩ => ?_
  exact ⟨ι, ρ, st, S, Post.bind h fun x st1 v H1 ι1 x1 s1 r1 h1 => ⟨ι1, ρ, st1, S.next x1 s1, Post.bind h1 fun ws st2 vs H2 ι2 x2 s2 r2 h2 => h2 _ H2 ι2 .refl s2 (.cons (r1.ext x2) r2)⟩⟩
end
end Mp

set_option Elab.async false
set_option linter.all false
set_option maxRecDepth 100000
set_option maxHeartbeats 4000000
namespace Mp
open PySem PySem.Spec PyProof.Rows L2

/-! ### a term of E against the text -/
structure Stat where
  fns : List (Str × List Str)
  kws : List (Nat × List Str × List Nat)
  gls : List (Str × PyData)
def visB (sc : Scope) (x : Str) : Bool := match sc.names.lookup x with
  | some .local => true
  | some .cell => true
  | some .free => true
  | _ => false
def locB (sc : Scope) (x : Str) : Bool := match sc.names.lookup x with
  | some .local => true
  | some .cell => true
  | _ => false
def loclB (sc : Scope) (x : Str) : Bool := match sc.names.lookup x with
  | some .local => true
  | _ => false
def glB (sc : Scope) (x : Str) : Bool := match sc.names.lookup x with
  | some .globalImplicit => true
  | _ => false
def nmB (x : Str) : Bool := !(x == ("__debug__" : Str)) && !(x == ("__classdict__" : Str))
def litB : PyData → Const → Bool
  | .none, .none => true
  | .bool a, .bool b => a == b
  | .int a, .int b => decide (a = b)
  | .str a, .str b => decide (a = b)
  | _, _ => false
mutual
def eqP : PyData → PyData → Bool
  | .none, .none => true
  | .bool a, .bool b => a == b
  | .int a, .int b => decide (a = b)
  | .str a, .str b => decide (a = b)
  | .list a, .list b => eqPs a b
  | .tuple a, .tuple b => eqPs a b
  | _, _ => false
def eqPs : List PyData → List PyData → Bool
  | [], [] => true
  | x :: xs, y :: ys => eqP x y && eqPs xs ys
  | _, _ => false
end
mutual
theorem eqP_eq : ∀ (a b : PyData), eqP a b = true → a = b
  | .none, b, h => by cases b <;> first | rfl | (unfold eqP at h; cases h)
  | .bool x, b, h => by cases b <;> first | (unfold eqP at h; cases h; done) | (unfold eqP at h; rw [beq_iff_eq.mp h])
  | .int x, b, h => by cases b <;> first | (unfold eqP at h; cases h; done) | (unfold eqP at h; rw [of_decide_eq_true h])
  | .str x, b, h => by cases b <;> first | (unfold eqP at h; cases h; done) | (unfold eqP at h; rw [of_decide_eq_true h])
  | .list x, b, h => by
    cases b with
    | list y => rw [eqPs_eq x y (by unfold eqP at h; exact h)]
    | _ => unfold eqP at h; cases h
  | .tuple x, b, h => by
    cases b with
    | tuple y => rw [eqPs_eq x y (by unfold eqP at h; exact h)]
    | _ => unfold eqP at h; cases h
  | .dict x, b, h => by unfold eqP at h; cases b <;> cases h
theorem eqPs_eq : ∀ (a b : List PyData), eqPs a b = true → a = b
  | [], [], _ => rfl
  | [], _ :: _, h => by unfold eqPs at h; cases h
  | _ :: _, [], h => by unfold eqPs at h; cases h
  | x :: xs, y :: ys, h => by
    unfold eqPs at h
    rw [Bool.and_eq_true] at h
    rw [eqP_eq x y h.1, eqPs_eq xs ys h.2]
end
def opA : P1 → Option Operator
  | .add => some .Add | .sub => some .Sub | .mul => some .Mult | .fdiv => some .FloorDiv | .mod => some .Mod | .pow => some .Pow
  | _ => none
def opC : P1 → Option CmpOp
  | .eq => some .Eq | .ne => some .NotEq | .lt => some .Lt | .le => some .LtE | .gt => some .Gt | .ge => some .GtE | .isin => some .In | .notin => some .NotIn
  | _ => none
def opN : P1 → Option CmpOp
  | .isN => some .Is | .notN => some .IsNot
  | _ => none
def opF : P1 → Option Str
  | .len => some "len" | .int => some "int" | .max2 => some "max" | .min2 => some "min" | .sum => some "sum" | .all => some "all" | .tupleOf => some "tuple" | .listOf => some "list"
  | _ => none
def isNoneE : Expr → Bool
  | .Constant .none _ _ => true
  | _ => false
def noSlice : Expr → Bool
  | .Slice _ _ _ _ => false
  | _ => true
def noSet : Expr → Bool
  | .Set _ _ _ => false
  | _ => true
def plainTE : Expr → Bool
  | .Tuple _ _ _ => true
  | _ => false
def isTy1 (t : Ty) (sc : Scope) : Expr → Bool
  | .Name x _ => decide (x = Str.ofString t.name) && glB sc x
  | _ => false
def ownN (N : List Str) (own : List Nat) : List (Str × Nat) := own.filterMap fun i => N[i]?.map fun x => (x, i)
def chkNm (N : List Str) (sc : Scope) (F : Str → Bool) (i : Nat) : Expr → Bool
  | .Name x _ => decide (N[i]? = some x) && locB sc x && (F x || loclB sc x)
  | _ => false
def chkNms (N : List Str) (sc : Scope) (F : Str → Bool) : List Nat → List Expr → Bool
  | [], [] => true
  | i :: is, e :: es => chkNm N sc F i e && chkNms N sc F is es
  | _, _ => false
def chkTg (N : List Str) (sc : Scope) (F : Str → Bool) : Tg → Expr → Bool
  | .one i, e => chkNm N sc F i e
  | .many is, .Tuple es _ _ => chkNms N sc F is es
  | _, _ => false
def tgSlots : Tg → List Nat
  | .one i => [i]
  | .many is => is
def trueE : E → Bool
  | .lit (.bool true) => true
  | _ => false
def kwNames : List Keyword → Option (List Str)
  | [] => some []
  | ⟨some x, _, _⟩ :: r => (kwNames r).map (x :: ·)
  | _ => none
def kwVals : List Keyword → List Expr
  | [] => []
  | ⟨_, v, _⟩ :: r => v :: kwVals r
def srcL (k : Src) (sc : Scope) (t e : Expr) : Option (List Expr) :=
  match k with
  | .seq => some [e]
  | .range1 => match e with
    | .Call (.Name x _) [a] [] _ => if decide (x = ("range" : Str)) && glB sc x then some [a] else none
    | _ => none
  | .range2 => match e with
    | .Call (.Name x _) [a, b] [] _ => if decide (x = ("range" : Str)) && glB sc x then some [a, b] else none
    | _ => none
  | .enum => match e with
    | .Call (.Name x _) [a] [] _ => if decide (x = ("enumerate" : Str)) && glB sc x && plainTE t then some [a] else none
    | _ => none
  | .zip => match e with
    | .Call (.Name x _) [a, b] [] _ => if decide (x = ("zip" : Str)) && glB sc x && plainTE t then some [a, b] else none
    | _ => none
  | .rev => match e with
    | .Call (.Name x _) [a] [] _ => if decide (x = ("reversed" : Str)) && glB sc x then some [a] else none
    | _ => none
mutual
def chkE (S : Stat) (N : List Str) : E → Scope → Expr → Bool
  | .var i, sc, e => match e with
    | .Name x _ => decide (N[i]? = some x) && visB sc x && nmB x
    | _ => false
  | .glob x d, sc, e => match e with
    | .Name y _ => decide (y = x) && glB sc x && nmB x && (match S.gls.lookup x with
      | some d' => eqP d d'
      | none => false)
    | _ => false
  | .lit d, _, e => match e with
    | .Constant c _ _ => litB d c
    | _ => false
  | .pr p es, sc, e => match e with
    | .BinOp a op b _ => decide (opA p = some op) && chkEs S N es sc [a, b]
    | .UnaryOp op a _ => decide (op = .USub) && decide (p = .neg) && chkEs S N es sc [a]
    | .Compare a [op] [b] _ => (decide (opC p = some op) && !behindInMarks op b && chkEs S N es sc [a, b]) || (decide (opN p = some op) && isNoneE b && chkEs S N es sc [a])
    | .Tuple l _ _ => decide (p = .tup) && chkEs S N es sc l
    | .List l _ => decide (p = .lst) && chkEs S N es sc l
    | .Subscript a (.Slice none (some b) none _) _ => decide (p = .slTo) && chkEs S N es sc [a, b]
    | .Subscript a (.Slice (some b) none none _) _ => decide (p = .slFrom) && chkEs S N es sc [a, b]
    | .Subscript a b _ => decide (p = .ix) && noSlice b && chkEs S N es sc [a, b]
    | .Call (.Name x _) l [] _ => (match p with
      | .isinst t => decide (x = ("isinstance" : Str)) && glB sc x && (match l with
        | [a, c] => isTy1 t sc c && chkEs S N es sc [a]
        | _ => false)
      | p => decide (opF p = some x) && glB sc x && !l.isEmpty && chkEs S N es sc l)
    | _ => false
  | .new es, sc, e => match e with
    | .List l _ => chkEs S N es sc l
    | _ => false
  | .act0 p o, sc, e => match e with
    | .Call (.Attribute (.Name x px) m apos) [] [] cpos => decide (p = .pop) && decide (m = ("pop" : Str)) && (apos.endLine == cpos.line) && chkE S N o sc (.Name x px)
    | _ => false
  | .act1 p o a, sc, e => match e with
    | .Call (.Attribute (.Name x px) m apos) [y] [] cpos => (decide (p = .append) && decide (m = ("append" : Str)) || decide (p = .extend) && decide (m = ("extend" : Str))) && (apos.endLine == cpos.line) && chkE S N o sc (.Name x px) && chkE S N a sc y
    | _ => false
  | .and es, sc, e => match e with
    | .BoolOp .And l _ => chkEs S N es sc l
    | _ => false
  | .or es, sc, e => match e with
    | .BoolOp .Or l _ => chkEs S N es sc l
    | _ => false
  | .not a, sc, e => match e with
    | .UnaryOp .Not x _ => chkE S N a sc x
    | _ => false
  | .ite c a b, sc, e => match e with
    | .IfExp x y z _ => chkE S N c sc x && chkE S N a sc y && chkE S N b sc z
    | _ => false
  | .chain p q a b c, sc, e => match e with
    | .Compare x [op, op'] [y, z] _ => decide (opC p = some op) && decide (opC q = some op') && !lastMarks [op, op'] [y, z] && chkE S N a sc x && chkE S N b sc y && chkE S N c sc z
    | _ => false
  | .sl a b c, sc, e => match e with
    | .Subscript x (.Slice (some y) (some z) none _) _ => chkE S N a sc x && chkE S N b sc y && chkE S N c sc z
    | _ => false
  | .call f es, sc, e => match e with
    | .Call (.Name x _) (a :: l) [] _ => glB sc x && nmB x && (match S.fns[f]? with
      | some (y, _) => decide (x = y)
      | none => false) && chkEs S N es sc (a :: l)
    | _ => false
  | .callk j f ix es, sc, e => match e with
    | .Call (.Name x _) [] kws _ => glB sc x && nmB x && (match S.fns[f]?, S.kws[j]?, kwNames kws with
      | some (y, _), some (g, ks', ix'), some ks => decide (x = y) && decide (g = f) && decide (ks' = ks) && decide (ix' = ix)
      | _, _, _ => false) && chkEs S N es sc (kwVals kws)
    | _ => false
  | .comp own tg k es c e0, sc, e => match e with
    | .ListComp elt [⟨tgE, iter, ifs, as⟩] scope _ => decide (as = 0) && blkC N sc scope (ownN N own) && decide ((ownN N own).map (·.2) = own) && (tgSlots tg).all (fun i => own.contains i) &&
        chkTg N (relS scope sc) (fun x => scope.names.lookup x == some .cell) tg tgE && noSet iter && (match srcL k sc tgE iter with
          | some l => chkEs S N es sc l
          | none => false) &&
        (match ifs with
          | [] => trueE c
          | [x] => chkE S N c (relS scope sc) x
          | _ => false) && chkE S N e0 (relS scope sc) elt
    | _ => false
def chkEs (S : Stat) (N : List Str) : Es → Scope → List Expr → Bool
  | .nil, _, l => l.isEmpty
  | .cons e es, sc, l => match l with
    | a :: l => chkE S N e sc a && chkEs S N es sc l
    | [] => false
end
def chkSrc (S : Stat) (N : List Str) : Src → Es → Scope → Expr → Expr → Bool
  | .seq, es, sc, _, e => chkEs S N es sc [e]
  | .range1, es, sc, _, e => match e with
    | .Call (.Name x _) [a] [] _ => decide (x = ("range" : Str)) && glB sc x && chkEs S N es sc [a]
    | _ => false
  | .range2, es, sc, _, e => match e with
    | .Call (.Name x _) [a, b] [] _ => decide (x = ("range" : Str)) && glB sc x && chkEs S N es sc [a, b]
    | _ => false
  | .enum, es, sc, t, e => match e with
    | .Call (.Name x _) [a] [] _ => decide (x = ("enumerate" : Str)) && glB sc x && plainTE t && chkEs S N es sc [a]
    | _ => false
  | .zip, es, sc, t, e => match e with
    | .Call (.Name x _) [a, b] [] _ => decide (x = ("zip" : Str)) && glB sc x && plainTE t && chkEs S N es sc [a, b]
    | _ => false
  | .rev, es, sc, _, e => match e with
    | .Call (.Name x _) [a] [] _ => decide (x = ("reversed" : Str)) && glB sc x && chkEs S N es sc [a]
    | _ => false
theorem opt_case {l : Option (List Expr)} {f : List Expr → Bool} (h : (match l with
    | some l => f l
    | none => false) = true) : ∃ x, l = some x ∧ f x = true := by
  cases l with
  | none => cases h
  | some x => exact ⟨x, rfl, h⟩
theorem srcL_chk {S : Stat} {N : List Str} {k : Src} {es : Es} {sc : Scope} {t e : Expr} (h : (match srcL k sc t e with
    | some l => chkEs S N es sc l
    | none => false) = true) : chkSrc S N k es sc t e = true := by
  obtain ⟨l, q, h⟩ := opt_case h
  cases k <;> simp only [srcL] at q <;> unfold chkSrc <;> dsimp only
  case seq => cases q; exact h
  all_goals
    split at q
    · split at q
      · rename_i k
        cases q
        simp only [Bool.and_eq_true] at k ⊢
        simp only [k, h, and_self]
      · cases q
    · cases q
end Mp

set_option Elab.async false
set_option linter.all false
set_option maxRecDepth 100000
set_option maxHeartbeats 4000000
namespace Mp
open PySem PySem.Spec PyProof.Rows L2

/-- what a def of the table promises, n calls deep -/
def spF (Γ : Gam) (n f : Nat) : Sp := fun vs H Q E => ∃ ι ws st, StR Γ.K H ι st ∧ WRs Γ.K H ι ws vs ∧ Post Γ (WR Γ.K) (callF Γ.FT n f ws st) H ι Q E
def bNames : List Str := ["len", "int", "max", "min", "sum", "all", "tuple", "list", "isinstance", "range", "enumerate", "zip", "reversed", "bool", "str"]
structure Facts (Γ : Gam) (S : Stat) (n : Nat) (P : Program) (w : World) (mg : Str → Option Value) (base : Heap) : Prop where
  fn : ∀ (f : Nat) (x : Str) (ps : List Str), S.fns[f]? = some (x, ps) → ∃ a fd, mg x = some (.ref a) ∧ PySem.W.keepIn Γ.K (.ref a) = true ∧ Binds Γ.K fd ps [] ∧
    (∀ (j : Nat) (ks : List Str) (ix : List Nat), S.kws[j]? = some (f, ks, ix) → ∀ (s : Shared) (us : List Value), us.length = ks.length → BindsTo s fd ⟨[], ks.zip us⟩ (ps.zip (ix.map fun i => us.getD i .none))) ∧
    FnOk P w Γ.K mg base (L2.CX P w) n a fd ps (spF Γ n f)
  gl : ∀ (x : Str) (d : PyData), S.gls.lookup x = some d → ∃ u v, mg x = some u ∧ RelV v u ∧ DR Γ.K (fun _ => none) d v
  bl : ∀ x ∈ bNames, mg x = none
structure Cok (Γ : Gam) (S : Stat) (n : Nat) (X : Cx) (N : List Str) (sc : Scope) (Wx : WX) : Prop where
  hK : X.K = Γ.K
  hN : X.N = N
  nd : N.Nodup
  hsc : X.env.scope = sc
  calm : X.calm = true
  room : Room n X.A
  takes : Takes X Wx
  own : PassesOwn (model X.prog X.w) X.A X.env X.xe
  facts : Facts Γ S n X.prog X.w X.mg X.base

section
variable {Γ : Gam} {S : Stat} {n : Nat} {X : Cx} {N : List Str} {sc : Scope} {Wx : WX}
theorem Cok.unit (c : Cok Γ S n X N sc Wx) : X.A.units + 200 < cLine := by
  have := c.room.un
  omega
theorem Cok.vis (c : Cok Γ S n X N sc Wx) {x : Str} (h : visB sc x = true) : Vis X.env.scope x := by
  rw [c.hsc]
  unfold visB at h
  unfold Vis
  split at h
  · exact .inl (by assumption)
  · exact .inr (.inl (by assumption))
  · exact .inr (.inr (by assumption))
  · cases h
theorem Cok.glo (c : Cok Γ S n X N sc Wx) {x : Str} (h : glB sc x = true) : Gl X x := by
  show X.env.scope.names.lookup x = _
  rw [c.hsc]
  unfold glB at h
  split at h
  · assumption
  · cases h
theorem nmB1 {x : Str} (h : nmB x = true) : (x == ("__debug__" : Str)) = false := by
  unfold nmB at h
  rw [Bool.and_eq_true] at h
  simpa using h.1
theorem nmB2 {x : Str} (h : nmB x = true) : (x == ("__classdict__" : Str)) = false := by
  unfold nmB at h
  rw [Bool.and_eq_true] at h
  simpa using h.2
end

/-! ### argument lists -/
theorem chk_star {S : Stat} {N : List Str} {ir : E} {sc : Scope} {e : Expr} (h : chkE S N ir sc e = true) (l : List Expr) (env : Env) : starEach (e :: l) env = (false, eval e env) :: starEach l env := by
  cases e <;> first | rfl | (cases ir <;> (unfold chkE at h; cases h))
theorem chk_noS {S : Stat} {N : List Str} : ∀ {es : Es} {sc : Scope} {l : List Expr}, chkEs S N es sc l = true → ∀ (pos : Pos) (env : Env), (backTo pos (starEach l env)).any (·.1) = false
  | .nil, sc, l, h, pos, env => by
    unfold chkEs at h
    cases l with
    | nil => rfl
    | cons _ _ => cases h
  | .cons e es, sc, l, h, pos, env => by
    cases l with
    | nil => unfold chkEs at h; cases h
    | cons a l =>
      unfold chkEs at h
      rw [Bool.and_eq_true] at h
      rw [chk_star h.1]
      exact chk_noS h.2 pos env
theorem chk_len {S : Stat} {N : List Str} : ∀ {es : Es} {sc : Scope} {l : List Expr}, chkEs S N es sc l = true → l ≠ [] → ∃ e r, es = .cons e r
  | .nil, sc, l, h, hl => by
    unfold chkEs at h
    cases l with
    | nil => exact absurd rfl hl
    | cons _ _ => cases h
  | .cons e es, _, _, _, _ => ⟨e, es, rfl⟩

/-! ### soundness of a term -/
structure Snd (Γ : Gam) (S : Stat) (n : Nat) (N : List Str) (ir : E) : Prop where
  pe : ∀ (X : Cx) (sc : Scope) (Wx : WX) (e : Expr), Cok Γ S n X N sc Wx → chkE S N ir sc e = true → PE X e (tE Γ Wx (evE (callF Γ.FT n) ir))
  pt : ∀ (X : Cx) (sc : Scope) (Wx : WX) (e : Expr), Cok Γ S n X N sc Wx → chkE S N ir sc e = true → PT X e (tT Γ Wx (evT (callF Γ.FT n) ir))
inductive EsAll (P : E → Prop) : Es → Prop where
  | nil : EsAll P .nil
  | cons {e : E} {es : Es} : P e → EsAll P es → EsAll P (.cons e es)
theorem truth_of {Γ : Gam} {Wx : WX} {ca : Rho → Sto → Res W} {σ : L2.St} {H : Hp} {Q : Bool → Hp → Prop} (h : tT Γ Wx (fun ρ st => (ca ρ st).bind fun w st => truR w st) σ H Q) : tE Γ Wx ca σ H fun v H1 => ∃ k, TruV Γ.K v H1 k ∧ Q k H1 := by
  obtain ⟨ι, ρ, st, S, h⟩ := h
  refine ⟨ι, ρ, st, S, Post.bind h fun w st1 v H1 ι1 x1 s1 r1 h1 => ?_⟩
  obtain ⟨k, e1, e2, _⟩ := tru_of s1 r1 h1
  exact ⟨k, e1, e2⟩
section
variable {Γ : Gam} {S : Stat} {n : Nat} {N : List Str}
theorem pt_dflt {X : Cx} {sc : Scope} {Wx : WX} {e : Expr} {ca : Rho → Sto → Res W} (c : Cok Γ S n X N sc Wx) (h : PE X e (tE Γ Wx ca)) (he : ∀ whole, isTrue e X.env whole = (do let v ← whole; standAt e.pos; holding [v] (truthy v))) :
    PT X e (tT Γ Wx fun ρ st => (ca ρ st).bind fun w st => truR w st) := PT.weak (pt_truth h he) fun σ H Q q => by rw [c.hK]; exact truth_of q
theorem snd_plain {ir : E} (pe : ∀ (X : Cx) (sc : Scope) (Wx : WX) (e : Expr), Cok Γ S n X N sc Wx → chkE S N ir sc e = true → PE X e (tE Γ Wx (evE (callF Γ.FT n) ir)))
    (he : ∀ (sc : Scope) (e : Expr) (env : Env), chkE S N ir sc e = true → ∀ whole, isTrue e env whole = (do let v ← whole; standAt e.pos; holding [v] (truthy v))) : Snd Γ S n N ir :=
  ⟨pe, fun X sc Wx e c h => pt_dflt c (pe X sc Wx e c h) (he sc e X.env h)⟩
theorem pa_of {es : Es} (h : EsAll (Snd Γ S n N) es) : ∀ {X : Cx} {sc : Scope} {Wx : WX} {l : List Expr}, Cok Γ S n X N sc Wx → chkEs S N es sc l = true → PA X l (tA Γ Wx (evEs (callF Γ.FT n) es)) := by
  induction h with
  | nil =>
    intro X sc Wx l c q
    unfold chkEs at q
    cases l with
    | nil => exact pa_nilE
    | cons _ _ => cases q
  | cons h1 _ ih =>
    intro X sc Wx l c q
    cases l with
    | nil => unfold chkEs at q; cases q
    | cons a l =>
      unfold chkEs at q
      rw [Bool.and_eq_true] at q
      exact pa_consE (h1.pe X sc Wx a c q.1) (ih c q.2) (chk_star q.1 l X.env)
/-- one item, two, three -/
theorem one_E {es : Es} (h : EsAll (Snd Γ S n N) es) {sc : Scope} {a : Expr} (q : chkEs S N es sc [a] = true) : ∃ x, es = .cons x .nil ∧ Snd Γ S n N x ∧ chkE S N x sc a = true := by
  cases h with
  | nil => unfold chkEs at q; cases q
  | cons h1 h2 =>
    unfold chkEs at q
    rw [Bool.and_eq_true] at q
    cases h2 with
    | nil => exact ⟨_, rfl, h1, q.1⟩
    | cons _ _ => have := q.2; unfold chkEs at this; cases this
theorem two_E {es : Es} (h : EsAll (Snd Γ S n N) es) {sc : Scope} {a b : Expr} (q : chkEs S N es sc [a, b] = true) : ∃ x y, es = .cons x (.cons y .nil) ∧ Snd Γ S n N x ∧ Snd Γ S n N y ∧ chkE S N x sc a = true ∧ chkE S N y sc b = true := by
  cases h with
  | nil => unfold chkEs at q; cases q
  | cons h1 h2 =>
    unfold chkEs at q
    rw [Bool.and_eq_true] at q
    obtain ⟨y, e, h3, q3⟩ := one_E h2 q.2
    subst e
    exact ⟨_, y, rfl, h1, h3, q.1, q3⟩
theorem three_E {es : Es} (h : EsAll (Snd Γ S n N) es) {sc : Scope} {a b c : Expr} (q : chkEs S N es sc [a, b, c] = true) : ∃ x y z, es = .cons x (.cons y (.cons z .nil)) ∧ Snd Γ S n N x ∧ Snd Γ S n N y ∧ Snd Γ S n N z ∧ chkE S N x sc a = true ∧ chkE S N y sc b = true ∧ chkE S N z sc c = true := by
  cases h with
  | nil => unfold chkEs at q; cases q
  | cons h1 h2 =>
    unfold chkEs at q
    rw [Bool.and_eq_true] at q
    obtain ⟨y, z, e, h3, h4, q3, q4⟩ := two_E h2 q.2
    subst e
    exact ⟨_, y, z, rfl, h1, h3, h4, q.1, q3, q4⟩

/-! ### the small ones -/
theorem snd_var (i : Nat) : Snd Γ S n N (.var i) := by
  refine snd_plain (fun X sc Wx e c h => ?_) fun sc e env h => ?_
  · unfold chkE at h
    split at h
    · rename_i x p
      rw [Bool.and_eq_true, Bool.and_eq_true] at h
      refine PE.weak (pe_var (i := i) (by rw [c.hN]; exact of_decide_eq_true h.1.1) (c.vis h.1.2) (nmB1 h.2) (nmB2 h.2)) fun σ H Q ⟨ι, ρ, st, s, q⟩ => ?_
      unfold evE at q
      split at q
      · rename_i w e
        obtain ⟨v, e1, r⟩ := s.rho.at_ i w e
        exact ⟨v, e1, q v H ι .refl s.st r⟩
      · exact q.elim
    · cases h
  · unfold chkE at h
    split at h
    · intro _; rfl
    · cases h
theorem lit_dr {K : PySem.W.Frag} {d : PyData} {c : Const} (h : litB d c = true) {X : Cx} {k : Nat} {pos : Pos} : ∃ v, (∀ G, DR K G d v) ∧ PE X (.Constant c k pos) (tC v) := by
  unfold litB at h
  split at h
  · exact ⟨_, fun _ => .non, pe_non⟩
  · rw [beq_iff_eq] at h
    subst h
    exact ⟨_, fun _ => .bl _, pe_bl⟩
  · have e := of_decide_eq_true h
    subst e
    exact ⟨_, fun _ => .int _, pe_int⟩
  · have e := of_decide_eq_true h
    subst e
    exact ⟨_, fun _ => .str _, pe_str⟩
  · cases h
theorem snd_lit (d : PyData) : Snd Γ S n N (.lit d) := by
  refine snd_plain (fun X sc Wx e c h => ?_) fun sc e env h => ?_
  · unfold chkE at h
    split at h
    · obtain ⟨v, r, p⟩ := lit_dr (K := Γ.K) h
      exact PE.weak p fun σ H Q ⟨ι, ρ, st, s, q⟩ => q v H ι .refl s.st (r _)
    · cases h
  · unfold chkE at h
    split at h
    · intro _; rfl
    · cases h
theorem snd_glob (x : Str) (d : PyData) : Snd Γ S n N (.glob x d) := by
  refine snd_plain (fun X sc Wx e c h => ?_) fun sc e env h => ?_
  · unfold chkE at h
    split at h
    · rw [Bool.and_eq_true, Bool.and_eq_true, Bool.and_eq_true] at h
      obtain ⟨⟨⟨h1, h2⟩, h3⟩, h4⟩ := h
      have e1 := of_decide_eq_true h1
      subst e1
      split at h4
      · rename_i d' e2
        obtain ⟨u, v, m, r, dr⟩ := c.facts.gl _ _ e2
        refine PE.weak (pe_glob (c.glo h2) m r (nmB1 h3)) fun σ H Q ⟨ι, ρ, st, s, q⟩ => q v H ι .refl s.st ?_
        have e3 := eqP_eq _ _ h4
        subst e3
        exact DR.mono (fun _ _ z => by cases z) dr
      · cases h4
    · cases h
  · unfold chkE at h
    split at h
    · intro _; rfl
    · cases h
theorem snd_not {a : E} (ha : Snd Γ S n N a) : Snd Γ S n N (.not a) := by
  have inv : ∀ {sc : Scope} {e : Expr}, chkE S N (.not a) sc e = true → ∃ x pos, e = .UnaryOp .Not x pos ∧ chkE S N a sc x = true := by
    intro sc e h
    unfold chkE at h
    split at h
    · exact ⟨_, _, rfl, h⟩
    · cases h
  refine ⟨fun X sc Wx e c h => ?_, fun X sc Wx e c h => ?_⟩
  · obtain ⟨x, pos, rfl, h'⟩ := inv h
    refine PE.weak (pe_notT (ha.pe X sc Wx x c h')) fun σ H Q ⟨ι, ρ, st, s, q⟩ => ?_
    rw [c.hK]
    refine ⟨ι, ρ, st, s, Post.bind q fun w st1 v H1 ι1 x1 s1 r1 q1 => ?_⟩
    obtain ⟨k, e1, e2, _⟩ := tru_of s1 r1 (Q := fun k H => Q (.bl (!k)) H) (Post.bind q1 fun k st2 k' H2 ι2 x2 s2 r2 q2 => by cases r2; exact q2 _ H2 ι2 .refl s2 (.bl _))
    exact ⟨k, e1, e2⟩
  · obtain ⟨x, pos, rfl, h'⟩ := inv h
    refine PT.weak (pt_not (ha.pt X sc Wx x c h')) fun σ H Q ⟨ι, ρ, st, s, q⟩ => ⟨ι, ρ, st, s, ?_⟩
    have e : evT (callF Γ.FT n) (.not a) ρ st = (evT (callF Γ.FT n) a ρ st).bind fun k st => .ok (!k) st := by
      unfold evT
      rw [evE]
      simp only [bind_bind]
      refine congrArg _ (funext fun w => funext fun st => ?_)
      unfold truR
      cases deref st w with
      | none => rfl
      | some d =>
        dsimp only
        cases truD d <;> rfl
    rw [e] at q
    exact Post.bind q fun k st1 k' H1 ι1 x1 s1 r1 q1 => by cases r1; exact q1 _ H1 ι1 .refl s1 rfl
end
end Mp

set_option Elab.async false
set_option linter.all false
set_option maxRecDepth 100000
set_option maxHeartbeats 4000000
namespace Mp
open PySem PySem.Spec PyProof.Rows L2
theorem evAnd_one (call : CallT) (e : E) (ρ : Rho) (st : Sto) : evAnd call (.cons e .nil) ρ st = evE call e ρ st := by rw [evAnd.eq_def]
theorem evOr_one (call : CallT) (e : E) (ρ : Rho) (st : Sto) : evOr call (.cons e .nil) ρ st = evE call e ρ st := by rw [evOr.eq_def]
theorem evAnd_two (call : CallT) (e e2 : E) (r : Es) (ρ : Rho) (st : Sto) : evAnd call (.cons e (.cons e2 r)) ρ st = (evE call e ρ st).bind fun w st => (truR w st).bind fun b st => if b then evAnd call (.cons e2 r) ρ st else .ok w st := by rw [evAnd.eq_def]
theorem evOr_two (call : CallT) (e e2 : E) (r : Es) (ρ : Rho) (st : Sto) : evOr call (.cons e (.cons e2 r)) ρ st = (evE call e ρ st).bind fun w st => (truR w st).bind fun b st => if b then .ok w st else evOr call (.cons e2 r) ρ st := by rw [evOr.eq_def]
section
variable {Γ : Gam} {S : Stat} {n : Nat} {N : List Str}
theorem pt_ifE {X : Cx} {c a b : Expr} {pos : Pos} {tc ta tb : TT} (hc : PT X c tc) (ha : PT X a ta) (hb : PT X b tb) : PT X (.IfExp c a b pos) (fun σ H Q => tc σ H fun k H1 => if k = true then ta σ H1 Q else tb σ H1 Q) := by
  refine ⟨fun pins s σ H Q I h => ?_⟩
  show wpAny _ _ (do if ← isTrue c X.env (eval c X.env) then isTrue a X.env (eval a X.env) else isTrue b X.env (eval b X.env)) _ _ _
  refine wpAny_bind (thn (hc.run pins s σ H _ I h) fun d s1 ⟨H1, I1, q1⟩ => ?_)
  cases d with
  | true => exact ha.run pins s1 σ H1 Q I1 q1
  | false => exact hb.run pins s1 σ H1 Q I1 q1
theorem snd_ite {c a b : E} (hc : Snd Γ S n N c) (ha : Snd Γ S n N a) (hb : Snd Γ S n N b) : Snd Γ S n N (.ite c a b) := by
  have inv : ∀ {sc : Scope} {e : Expr}, chkE S N (.ite c a b) sc e = true → ∃ x y z pos, e = .IfExp x y z pos ∧ chkE S N c sc x = true ∧ chkE S N a sc y = true ∧ chkE S N b sc z = true := by
    intro sc e h
    unfold chkE at h
    split at h
    · rw [Bool.and_eq_true, Bool.and_eq_true] at h
      exact ⟨_, _, _, _, rfl, h.1.1, h.1.2, h.2⟩
    · cases h
  have cond : ∀ {ρ : Rho} {st : Sto}, evE (callF Γ.FT n) (.ite c a b) ρ st = (evT (callF Γ.FT n) c ρ st).bind fun k st => if k then evE (callF Γ.FT n) a ρ st else evE (callF Γ.FT n) b ρ st := by
    intro ρ st
    rw [evE]
    unfold evT
    rw [bind_bind]
  refine ⟨fun X sc Wx e k h => ?_, fun X sc Wx e k h => ?_⟩
  · obtain ⟨x, y, z, pos, rfl, h1, h2, h3⟩ := inv h
    refine PE.weak (pe_ifExp (hc.pt X sc Wx x k h1) (ha.pe X sc Wx y k h2) (hb.pe X sc Wx z k h3)) fun σ H Q ⟨ι, ρ, st, s, q⟩ => ?_
    rw [cond] at q
    refine ⟨ι, ρ, st, s, Post.bind q fun w st1 v H1 ι1 x1 s1 r1 q1 => ?_⟩
    cases r1
    cases w with
    | true => exact ⟨ι1, ρ, st1, s.next x1 s1, q1⟩
    | false => exact ⟨ι1, ρ, st1, s.next x1 s1, q1⟩
  · obtain ⟨x, y, z, pos, rfl, h1, h2, h3⟩ := inv h
    refine PT.weak (pt_ifE (hc.pt X sc Wx x k h1) (ha.pt X sc Wx y k h2) (hb.pt X sc Wx z k h3)) fun σ H Q ⟨ι, ρ, st, s, q⟩ => ?_
    unfold evT at q
    rw [cond, bind_bind] at q
    refine ⟨ι, ρ, st, s, Post.bind q fun w st1 v H1 ι1 x1 s1 r1 q1 => ?_⟩
    cases r1
    cases w with
    | true => exact ⟨ι1, ρ, st1, s.next x1 s1, q1⟩
    | false => exact ⟨ι1, ρ, st1, s.next x1 s1, q1⟩
/-! ### and, or -/
theorem truR_st {w : W} {st st' : Sto} {b : Bool} (h : truR w st = .ok b st') : st' = st := by
  unfold truR at h
  split at h
  · split at h
    · cases h; rfl
    · cases h
  · cases h
theorem and_pe {es : Es} (h : EsAll (Snd Γ S n N) es) : ∀ {X : Cx} {sc : Scope} {Wx : WX} {l : List Expr} {pos : Pos}, Cok Γ S n X N sc Wx → chkEs S N es sc l = true → es ≠ .nil → PE X (.BoolOp .And l pos) (tE Γ Wx (evAnd (callF Γ.FT n) es)) := by
  induction h with
  | nil => intro X sc Wx l pos c q hn; exact absurd rfl hn
  | @cons e es h1 h2 ih =>
    intro X sc Wx l pos c q hn
    cases l with
    | nil => unfold chkEs at q; cases q
    | cons a l =>
      unfold chkEs at q
      rw [Bool.and_eq_true] at q
      cases h2 with
      | nil =>
        have q2 := q.2
        unfold chkEs at q2
        cases l with
        | nil => exact PE.weak (pe_one (h1.pe X sc Wx a c q.1)) fun σ H Q ⟨ι, ρ, st, s, q⟩ => ⟨ι, ρ, st, s, by rw [evAnd_one] at q; exact q⟩
        | cons _ _ => cases q2
      | @cons e2 es2 h3 h4 =>
        cases l with
        | nil => have q2 := q.2; unfold chkEs at q2; cases q2
        | cons b l =>
          refine PE.weak (pe_andT (h1.pe X sc Wx a c q.1) (ih c q.2 (by intro z; cases z))) fun σ H Q ⟨ι, ρ, st, s, q⟩ => ?_
          rw [c.hK]
          rw [evAnd_two] at q
          refine ⟨ι, ρ, st, s, Post.bind q fun w st1 v H1 ι1 x1 s1 r1 q1 => ?_⟩
          obtain ⟨k, e1, e2, _⟩ := tru_of s1 r1 (Q := fun k H2 => if k = true then tE Γ Wx (evAnd (callF Γ.FT n) (.cons e2 es2)) σ H2 Q else Q v H2) (Post.bind q1 fun k st2 k' H2 ι2 x2 s2 r2 q2 => by
            cases r2
            cases k with
            | true => exact ⟨ι2, ρ, st2, (s.next x1 s1).next x2 s2, q2⟩
            | false => exact q2 v H2 ι2 .refl s2 (r1.ext x2))
          exact ⟨k, e1, e2⟩
theorem or_pe {es : Es} (h : EsAll (Snd Γ S n N) es) : ∀ {X : Cx} {sc : Scope} {Wx : WX} {l : List Expr} {pos : Pos}, Cok Γ S n X N sc Wx → chkEs S N es sc l = true → es ≠ .nil → PE X (.BoolOp .Or l pos) (tE Γ Wx (evOr (callF Γ.FT n) es)) := by
  induction h with
  | nil => intro X sc Wx l pos c q hn; exact absurd rfl hn
  | @cons e es h1 h2 ih =>
    intro X sc Wx l pos c q hn
    cases l with
    | nil => unfold chkEs at q; cases q
    | cons a l =>
      unfold chkEs at q
      rw [Bool.and_eq_true] at q
      cases h2 with
      | nil =>
        have q2 := q.2
        unfold chkEs at q2
        cases l with
        | nil => exact PE.weak (pe_one (h1.pe X sc Wx a c q.1)) fun σ H Q ⟨ι, ρ, st, s, q⟩ => ⟨ι, ρ, st, s, by rw [evOr_one] at q; exact q⟩
        | cons _ _ => cases q2
      | @cons e2 es2 h3 h4 =>
        cases l with
        | nil => have q2 := q.2; unfold chkEs at q2; cases q2
        | cons b l =>
          refine PE.weak (pe_orT (h1.pe X sc Wx a c q.1) (ih c q.2 (by intro z; cases z))) fun σ H Q ⟨ι, ρ, st, s, q⟩ => ?_
          rw [c.hK]
          rw [evOr_two] at q
          refine ⟨ι, ρ, st, s, Post.bind q fun w st1 v H1 ι1 x1 s1 r1 q1 => ?_⟩
          obtain ⟨k, e1, e2, _⟩ := tru_of s1 r1 (Q := fun k H2 => if k = true then Q v H2 else tE Γ Wx (evOr (callF Γ.FT n) (.cons e2 es2)) σ H2 Q) (Post.bind q1 fun k st2 k' H2 ι2 x2 s2 r2 q2 => by
            cases r2
            cases k with
            | false => exact ⟨ι2, ρ, st2, (s.next x1 s1).next x2 s2, q2⟩
            | true => exact q2 v H2 ι2 .refl s2 (r1.ext x2))
          exact ⟨k, e1, e2⟩
theorem and_pw {es : Es} (h : EsAll (Snd Γ S n N) es) : ∀ {X : Cx} {sc : Scope} {Wx : WX} {l : List Expr} {pos : Pos}, Cok Γ S n X N sc Wx → chkEs S N es sc l = true → es ≠ .nil → PW X (.BoolOp .And l pos) (tT Γ Wx fun ρ st => (evAnd (callF Γ.FT n) es ρ st).bind fun w st => truR w st) := by
  induction h with
  | nil => intro X sc Wx l pos c q hn; exact absurd rfl hn
  | @cons e es h1 h2 ih =>
    intro X sc Wx l pos c q hn
    cases l with
    | nil => unfold chkEs at q; cases q
    | cons a l =>
      unfold chkEs at q
      rw [Bool.and_eq_true] at q
      cases h2 with
      | nil =>
        have q2 := q.2
        unfold chkEs at q2
        cases l with
        | nil => exact PW.weak (pw_and1 (h1.pt X sc Wx a c q.1)) fun σ H Q ⟨ι, ρ, st, s, q⟩ => ⟨ι, ρ, st, s, by dsimp only at q; rw [evAnd_one] at q; exact q⟩
        | cons _ _ => cases q2
      | @cons e2 es2 h3 h4 =>
        cases l with
        | nil => have q2 := q.2; unfold chkEs at q2; cases q2
        | cons b l =>
          refine PW.weak (pw_and (h1.pt X sc Wx a c q.1) (ih c q.2 (by intro z; cases z))) fun σ H Q ⟨ι, ρ, st, s, q⟩ => ⟨ι, ρ, st, s, ?_⟩
          have he : ((evAnd (callF Γ.FT n) (.cons e (.cons e2 es2)) ρ st).bind fun w st => truR w st) = (evT (callF Γ.FT n) e ρ st).bind fun k st => if k then (evAnd (callF Γ.FT n) (.cons e2 es2) ρ st).bind fun w st => truR w st else .ok false st := by
            rw [evAnd_two]
            unfold evT
            rw [bind_bind, bind_bind]
            refine congrArg _ (funext fun w => funext fun st1 => ?_)
            rw [bind_bind]
            cases t : truR w st1 with
            | ok k st2 =>
              have e2 := truR_st t
              subst e2
              cases k with
              | true => rfl
              | false => exact t
            | exc x st2 => rfl
            | bad => rfl
          dsimp only at q
          rw [he] at q
          refine Post.bind q fun k st1 k' H1 ι1 x1 s1 r1 q1 => ?_
          cases r1
          cases k with
          | true => exact ⟨ι1, ρ, st1, s.next x1 s1, q1⟩
          | false => exact q1 _ H1 ι1 .refl s1 rfl
theorem or_pw {es : Es} (h : EsAll (Snd Γ S n N) es) : ∀ {X : Cx} {sc : Scope} {Wx : WX} {l : List Expr} {pos : Pos}, Cok Γ S n X N sc Wx → chkEs S N es sc l = true → es ≠ .nil → PW X (.BoolOp .Or l pos) (tT Γ Wx fun ρ st => (evOr (callF Γ.FT n) es ρ st).bind fun w st => truR w st) := by
  induction h with
  | nil => intro X sc Wx l pos c q hn; exact absurd rfl hn
  | @cons e es h1 h2 ih =>
    intro X sc Wx l pos c q hn
    cases l with
    | nil => unfold chkEs at q; cases q
    | cons a l =>
      unfold chkEs at q
      rw [Bool.and_eq_true] at q
      cases h2 with
      | nil =>
        have q2 := q.2
        unfold chkEs at q2
        cases l with
        | nil => exact PW.weak (pw_or1 (h1.pt X sc Wx a c q.1)) fun σ H Q ⟨ι, ρ, st, s, q⟩ => ⟨ι, ρ, st, s, by dsimp only at q; rw [evOr_one] at q; exact q⟩
        | cons _ _ => cases q2
      | @cons e2 es2 h3 h4 =>
        cases l with
        | nil => have q2 := q.2; unfold chkEs at q2; cases q2
        | cons b l =>
          refine PW.weak (pw_or (h1.pt X sc Wx a c q.1) (ih c q.2 (by intro z; cases z))) fun σ H Q ⟨ι, ρ, st, s, q⟩ => ⟨ι, ρ, st, s, ?_⟩
          have he : ((evOr (callF Γ.FT n) (.cons e (.cons e2 es2)) ρ st).bind fun w st => truR w st) = (evT (callF Γ.FT n) e ρ st).bind fun k st => if k then .ok true st else (evOr (callF Γ.FT n) (.cons e2 es2) ρ st).bind fun w st => truR w st := by
            rw [evOr_two]
            unfold evT
            rw [bind_bind, bind_bind]
            refine congrArg _ (funext fun w => funext fun st1 => ?_)
            rw [bind_bind]
            cases t : truR w st1 with
            | ok k st2 =>
              have e2 := truR_st t
              subst e2
              cases k with
              | false => rfl
              | true => exact t
            | exc x st2 => rfl
            | bad => rfl
          dsimp only at q
          rw [he] at q
          refine Post.bind q fun k st1 k' H1 ι1 x1 s1 r1 q1 => ?_
          cases r1
          cases k with
          | false => exact ⟨ι1, ρ, st1, s.next x1 s1, q1⟩
          | true => exact q1 _ H1 ι1 .refl s1 rfl
theorem snd_and {es : Es} (h : EsAll (Snd Γ S n N) es) : Snd Γ S n N (.and es) := by
  have nn : ∀ {X : Cx} {σ : L2.St} {H : Hp} {Wx : WX} {Q : VK}, es = .nil → ¬ tE Γ Wx (evE (callF Γ.FT n) (.and es)) σ H Q := by
    rintro X σ H Wx Q rfl ⟨ι, ρ, st, s, q⟩
    exact q.elim
  refine ⟨fun X sc Wx e c h' => ?_, fun X sc Wx e c h' => ?_⟩
  · unfold chkE at h'
    split at h'
    · cases h with
      | nil => exact ⟨fun pins s σ H Q I ⟨ι, ρ, st, s, q⟩ => q.elim⟩
      | cons h1 h2 => exact PE.weak (and_pe (.cons h1 h2) c h' (by intro z; cases z)) fun σ H Q ⟨ι, ρ, st, s, q⟩ => ⟨ι, ρ, st, s, by rw [evE] at q; exact q⟩
    · cases h'
  · unfold chkE at h'
    split at h'
    · cases h with
      | nil => exact ⟨fun pins s σ H Q I ⟨ι, ρ, st, s, q⟩ => q.elim⟩
      | cons h1 h2 => exact PT.weak (and_pw (.cons h1 h2) c h' (by intro z; cases z)).pt fun σ H Q ⟨ι, ρ, st, s, q⟩ => ⟨ι, ρ, st, s, by unfold evT at q; rw [evE] at q; exact q⟩
    · cases h'
theorem snd_or {es : Es} (h : EsAll (Snd Γ S n N) es) : Snd Γ S n N (.or es) := by
  refine ⟨fun X sc Wx e c h' => ?_, fun X sc Wx e c h' => ?_⟩
  · unfold chkE at h'
    split at h'
    · cases h with
      | nil => exact ⟨fun pins s σ H Q I ⟨ι, ρ, st, s, q⟩ => q.elim⟩
      | cons h1 h2 => exact PE.weak (or_pe (.cons h1 h2) c h' (by intro z; cases z)) fun σ H Q ⟨ι, ρ, st, s, q⟩ => ⟨ι, ρ, st, s, by rw [evE] at q; exact q⟩
    · cases h'
  · unfold chkE at h'
    split at h'
    · cases h with
      | nil => exact ⟨fun pins s σ H Q I ⟨ι, ρ, st, s, q⟩ => q.elim⟩
      | cons h1 h2 => exact PT.weak (or_pw (.cons h1 h2) c h' (by intro z; cases z)).pt fun σ H Q ⟨ι, ρ, st, s, q⟩ => ⟨ι, ρ, st, s, by unfold evT at q; rw [evE] at q; exact q⟩
    · cases h'

/-! ### comparisons in a chain -/
theorem cmp_rule {X : Cx} {sc : Scope} {Wx : WX} (c : Cok Γ S n X N sc Wx) {p : P1} {op : CmpOp} (h : opC p = some op) : OpR X (compareOp op) (rOp Γ.K p) := by
  have u := c.unit
  rw [← c.hK]
  cases p <;> first | (cases h; done) | skip
  · cases h; exact op_eqP (by omega)
  · cases h; exact op_neP (by omega)
  · cases h; exact op_ltD
  · cases h; exact op_leD
  · cases h; exact op_gtD
  · cases h; exact op_geD
  · cases h; exact op_isinD
  · cases h; exact op_notinD
theorem int2_bool {p : P1} {a b z : PyData} (hp : ∀ i j, ∃ k, intOp p i j = some (.bool k)) (e : int2 p a b = some z) : ∃ k, z = .bool k := by
  unfold int2 at e
  split at e
  · obtain ⟨k, e2⟩ := hp _ _
    rw [e2] at e
    cases e
    exact ⟨k, rfl⟩
  · cases e
theorem cmp_bool {p : P1} {op : CmpOp} (h : opC p = some op) {a b z : PyData} (e : pureD p [a, b] = some z) : ∃ k, z = .bool k := by
  cases p <;> first | (cases h; done) | skip
  · obtain ⟨_, e2⟩ := ite_some (show (if eqOk a b = true then some (PyData.bool (PyData.eqv a b)) else none) = some z from e)
    exact ⟨_, e2.symm⟩
  · obtain ⟨_, e2⟩ := ite_some (show (if eqOk a b = true then some (PyData.bool (!PyData.eqv a b)) else none) = some z from e)
    exact ⟨_, e2.symm⟩
  · exact int2_bool (p := .lt) (fun i j => ⟨_, rfl⟩) e
  · exact int2_bool (p := .le) (fun i j => ⟨_, rfl⟩) e
  · exact int2_bool (p := .gt) (fun i j => ⟨_, rfl⟩) e
  · exact int2_bool (p := .ge) (fun i j => ⟨_, rfl⟩) e
  · change (isinD a b).map PyData.bool = some z at e
    cases q : isinD a b with
    | none => rw [q] at e; cases e
    | some k => rw [q] at e; cases e; exact ⟨k, rfl⟩
  · change (isinD a b).map (fun k => PyData.bool (!k)) = some z at e
    cases q : isinD a b with
    | none => rw [q] at e; cases e
    | some k => rw [q] at e; cases e; exact ⟨_, rfl⟩
theorem prim_bool {p : P1} {op : CmpOp} (h : opC p = some op) {x y : W} {st st' : Sto} {w : W} (e : primD p [x, y] st = .ok w st') : st' = st ∧ ∃ k, w = .d (.bool k) := by
  unfold primD at e
  cases q0 : argsD p [x, y] st with
  | none => rw [q0] at e; cases e
  | some ds =>
    rw [q0] at e
    dsimp only at e
    have q1 := args_derefs q0
    cases q2 : pureD p ds with
    | none => rw [q2] at e; cases e
    | some z =>
      rw [q2] at e
      cases e
      refine ⟨rfl, ?_⟩
      unfold derefs at q1
      cases d1 : deref st x with
      | none => rw [d1] at q1; cases q1
      | some a =>
        unfold derefs at q1
        cases d2 : deref st y with
        | none => rw [d1, d2] at q1; cases q1
        | some b =>
          rw [d1, d2] at q1
          cases q1
          obtain ⟨k, e⟩ := cmp_bool h q2
          exact ⟨k, by rw [e]⟩
end
end Mp

set_option Elab.async false
set_option linter.all false
set_option maxRecDepth 100000
set_option maxHeartbeats 4000000
namespace Mp
open PySem PySem.Spec PyProof.Rows L2
section
variable {Γ : Gam} {S : Stat} {n : Nat} {N : List Str}
theorem evEs2 (call : CallT) (a b : E) (ρ : Rho) (st : Sto) (f : List W → Sto → Res W) : ((evEs call (.cons a (.cons b .nil)) ρ st).bind f) = (evE call a ρ st).bind fun x st => (evE call b ρ st).bind fun y st => f [x, y] st := by
  simp only [evEs, bind_bind]
  rfl
theorem evEs1 (call : CallT) (a : E) (ρ : Rho) (st : Sto) (f : List W → Sto → Res W) : ((evEs call (.cons a .nil) ρ st).bind f) = (evE call a ρ st).bind fun x st => f [x] st := by
  simp only [evEs, bind_bind]
  rfl
theorem evEs3 (call : CallT) (a b c : E) (ρ : Rho) (st : Sto) (f : List W → Sto → Res W) : ((evEs call (.cons a (.cons b (.cons c .nil))) ρ st).bind f) = (evE call a ρ st).bind fun x st => (evE call b ρ st).bind fun y st => (evE call c ρ st).bind fun z st => f [x, y, z] st := by
  simp only [evEs, bind_bind]
  rfl
theorem tE_cast {Wx : WX} {c c' : Rho → Sto → Res W} (h : ∀ ρ st, c ρ st = c' ρ st) {σ : L2.St} {H : Hp} {Q : VK} (q : tE Γ Wx c σ H Q) : tE Γ Wx c' σ H Q := by
  obtain ⟨ι, ρ, st, s, q⟩ := q
  exact ⟨ι, ρ, st, s, by rw [← h]; exact q⟩
theorem tT_cast {Wx : WX} {c c' : Rho → Sto → Res Bool} (h : ∀ ρ st, c ρ st = c' ρ st) {σ : L2.St} {H : Hp} {Q : Bool → Hp → Prop} (q : tT Γ Wx c σ H Q) : tT Γ Wx c' σ H Q := by
  obtain ⟨ι, ρ, st, s, q⟩ := q
  exact ⟨ι, ρ, st, s, by rw [← h]; exact q⟩
/-- a comparison as a value, as a test -/
theorem cmp_pe {X : Cx} {sc : Scope} {Wx : WX} (c : Cok Γ S n X N sc Wx) {p : P1} {op : CmpOp} (ho : opC p = some op) {x y : E} (hx : Snd Γ S n N x) (hy : Snd Γ S n N y) {a b : Expr} {pos : Pos}
    (qx : chkE S N x sc a = true) (qy : chkE S N y sc b = true) (hm : behindInMarks op b = false) : PE X (.Compare a [op] [b] pos) (tE Γ Wx fun ρ st => (evE (callF Γ.FT n) x ρ st).bind fun u st => (evE (callF Γ.FT n) y ρ st).bind fun v st => primD p [u, v] st) :=
  PE.weak (pe_cmpR (cmp_rule c ho) (hx.pe X sc Wx a c qx) (hy.pe X sc Wx b c qy) hm) fun σ H Q q => two_of (fun x y v u st H1 ι1 s1 r1 r2 h => prim_op s1 r1 r2 h) q
theorem cmp_pt {X : Cx} {sc : Scope} {Wx : WX} (c : Cok Γ S n X N sc Wx) {p : P1} {op : CmpOp} (ho : opC p = some op) {x y : E} (hx : Snd Γ S n N x) (hy : Snd Γ S n N y) {a b : Expr} {pos : Pos}
    (qx : chkE S N x sc a = true) (qy : chkE S N y sc b = true) (hm : behindInMarks op b = false) : PT X (.Compare a [op] [b] pos) (tT Γ Wx fun ρ st => (evE (callF Γ.FT n) x ρ st).bind fun u st => (evE (callF Γ.FT n) y ρ st).bind fun v st => (primD p [u, v] st).bind fun w st => truR w st) := by
  refine PT.weak (pt_cmpR (cmp_rule c ho) (hx.pe X sc Wx a c qx) (hy.pe X sc Wx b c qy) hm) fun σ H Q ⟨ι, ρ, st, s, q⟩ => ?_
  refine ⟨ι, ρ, st, s, Post.bind q fun u st1 v H1 ι1 x1 s1 r1 q1 => ⟨ι1, ρ, st1, s.next x1 s1, Post.bind q1 fun u2 st2 v2 H2 ι2 x2 s2 r2 q2 => ?_⟩⟩
  refine prim_op s2 (r1.ext x2) r2 (E := WE Wx σ) ?_
  cases t : primD p [u, u2] st2 with
  | ok w st3 =>
    rw [t] at q2
    obtain ⟨rfl, k, rfl⟩ := prim_bool ho t
    intro b H3 ι3 x3 s3 r3
    cases r3
    exact ⟨k, rfl, q2 k H3 ι3 x3 s3 rfl⟩
  | exc z st3 =>
    rw [t] at q2
    exact q2
  | bad =>
    rw [t] at q2
    exact q2
theorem snd_chain {p q : P1} {a b c : E} (ha : Snd Γ S n N a) (hb : Snd Γ S n N b) (hc : Snd Γ S n N c) : Snd Γ S n N (.chain p q a b c) := by
  have inv : ∀ {sc : Scope} {e : Expr}, chkE S N (.chain p q a b c) sc e = true → ∃ x y z op op' pos, e = .Compare x [op, op'] [y, z] pos ∧ opC p = some op ∧ opC q = some op' ∧ lastMarks [op, op'] [y, z] = false ∧ chkE S N a sc x = true ∧ chkE S N b sc y = true ∧ chkE S N c sc z = true := by
    intro sc e h
    unfold chkE at h
    split at h
    · simp only [Bool.and_eq_true] at h
      obtain ⟨⟨⟨⟨⟨h1, h2⟩, h3⟩, h4⟩, h5⟩, h6⟩ := h
      exact ⟨_, _, _, _, _, _, rfl, of_decide_eq_true h1, of_decide_eq_true h2, by simpa using h3, h4, h5, h6⟩
    · cases h
  have step : ∀ {X : Cx} {sc : Scope} {Wx : WX} {ta tb tc : TE}, True := fun {_ _ _ _ _ _} => trivial
  refine ⟨fun X sc Wx e k h => ?_, fun X sc Wx e k h => ?_⟩
  · obtain ⟨x, y, z, op, op', pos, rfl, o1, o2, hm, h1, h2, h3⟩ := inv h
    refine PE.weak (pe_chain (cmp_rule k o1) (cmp_rule k o2) (ha.pe X sc Wx x k h1) (hb.pe X sc Wx y k h2) (hc.pe X sc Wx z k h3) hm) fun σ H Q ⟨ι, ρ, st, s, g⟩ => ?_
    rw [evE] at g
    refine ⟨ι, ρ, st, s, Post.bind g fun u st1 v H1 ι1 x1 s1 r1 q1 => ⟨ι1, ρ, st1, s.next x1 s1, Post.bind q1 fun u2 st2 v2 H2 ι2 x2 s2 r2 q2 => ?_⟩⟩
    refine prim_op s2 (r1.ext x2) r2 (E := WE Wx σ) (Post.bind q2 fun w st3 b H3 ι3 x3 s3 r3 q3 => ?_)
    split at q3
    · cases r3
      exact ⟨true, rfl, iteT ⟨ι3, ρ, st3, ((s.next x1 s1).next x2 s2).next x3 s3, Post.bind q3 fun u4 st4 v4 H4 ι4 x4 s4 r4 q4 => prim_op s4 ((r2.ext x3).ext x4) r4 q4⟩⟩
    · cases r3
      exact ⟨false, rfl, iteF (q3 _ H3 ι3 .refl s3 (.bl _))⟩
    · exact q3.elim
  · obtain ⟨x, y, z, op, op', pos, rfl, o1, o2, hm, h1, h2, h3⟩ := inv h
    refine PT.weak (pt_chain (cmp_rule k o1) (cmp_rule k o2) (ha.pe X sc Wx x k h1) (hb.pe X sc Wx y k h2) (hc.pe X sc Wx z k h3) hm) fun σ H Q ⟨ι, ρ, st, s, g⟩ => ?_
    unfold evT at g
    rw [evE] at g
    simp only [bind_bind] at g
    refine ⟨ι, ρ, st, s, Post.bind g fun u st1 v H1 ι1 x1 s1 r1 q1 => ⟨ι1, ρ, st1, s.next x1 s1, Post.bind q1 fun u2 st2 v2 H2 ι2 x2 s2 r2 q2 => ?_⟩⟩
    refine prim_op s2 (r1.ext x2) r2 (E := WE Wx σ) (Post.bind q2 fun w st3 b H3 ι3 x3 s3 r3 q3 => ?_)
    split at q3
    · cases r3
      rw [bind_bind] at q3
      refine ⟨true, rfl, iteT ⟨ι3, ρ, st3, ((s.next x1 s1).next x2 s2).next x3 s3, Post.bind q3 fun u4 st4 v4 H4 ι4 x4 s4 r4 q4 => prim_op s4 ((r2.ext x3).ext x4) r4 (E := WE Wx σ) ?_⟩⟩
      cases t : primD q [u2, u4] st4 with
      | ok w st5 =>
        rw [t] at q4
        obtain ⟨rfl, k, rfl⟩ := prim_bool o2 t
        intro b H5 ι5 x5 s5 r5
        cases r5
        exact ⟨k, rfl, q4 k H5 ι5 x5 s5 rfl⟩
      | exc z st3 =>
        rw [t] at q4
        exact q4
      | bad =>
        rw [t] at q4
        exact q4
    · cases r3
      exact ⟨false, rfl, iteF ⟨false, rfl, q3 false H3 ι3 .refl s3 rfl⟩⟩
    · exact q3.elim

/-! ### strict primitives -/
theorem bin_rule {X : Cx} {sc : Scope} {Wx : WX} (c : Cok Γ S n X N sc Wx) {p : P1} {op : Operator} (h : opA p = some op) : OpR X (binaryOp op) (rOp Γ.K p) := by
  rw [← c.hK]
  cases p <;> first | (cases h; done) | skip
  · cases h; exact op_addD
  · cases h; exact op_subD
  · cases h; exact op_mulD
  · cases h; exact op_fdivD
  · cases h; exact op_modD
  · cases h; exact op_powD
theorem prim_sl {lo hi : Option Int} {x : W} {v : V} {H : Hp} {ι : List Addr} {st : Sto} {E : XK} {Q : VK} {f : PyData → Option PyData} (s : StR Γ.K H ι st) (r1 : WR Γ.K H ι x v) {d : PyData} (e1 : deref st x = some d) {z : PyData} (e2 : slD d lo hi = some z)
    (h : Post Γ (WR Γ.K) (.ok (.d z) st) H ι Q E) : rSlD Γ.K v lo hi H Q := ⟨ι, d, z, s.trk, deref_T s r1 e1, e2, pq_of s h⟩
theorem deref_int {x : W} {v : V} {H : Hp} {ι : List Addr} {st : Sto} {i : Int} (s : StR Γ.K H ι st) (r : WR Γ.K H ι x v) (e : deref st x = some (.int i)) : v = .int i := by
  have := deref_T s r e
  cases this
  rfl
theorem derefs2 {st : Sto} {x y : W} {ds : List PyData} (e : derefs st [x, y] = some ds) : ∃ a b, ds = [a, b] ∧ deref st x = some a ∧ deref st y = some b := by
  unfold derefs at e
  cases d1 : deref st x with
  | none => rw [d1] at e; cases e
  | some a =>
    unfold derefs at e
    cases d2 : deref st y with
    | none => rw [d1, d2] at e; cases e
    | some b =>
      rw [d1, d2] at e
      cases e
      exact ⟨a, b, rfl, rfl, rfl⟩
theorem derefs3 {st : Sto} {x y z : W} {ds : List PyData} (e : derefs st [x, y, z] = some ds) : ∃ a b c, ds = [a, b, c] ∧ deref st x = some a ∧ deref st y = some b ∧ deref st z = some c := by
  rw [derefs] at e
  cases d1 : deref st x with
  | none => rw [d1] at e; cases e
  | some a =>
    cases d2 : derefs st [y, z] with
    | none => rw [d1, d2] at e; cases e
    | some r =>
      obtain ⟨b, c, e3, e4, e5⟩ := derefs2 d2
      rw [d1, d2] at e
      subst e3
      cases e
      exact ⟨a, b, c, rfl, rfl, e4, e5⟩
theorem slTo_of {x y : W} {v u : V} {H : Hp} {ι : List Addr} {st : Sto} {E : XK} {Q : VK} (s : StR Γ.K H ι st) (r1 : WR Γ.K H ι x v) (r2 : WR Γ.K H ι y u) (h : Post Γ (WR Γ.K) (primD .slTo [x, y] st) H ι Q E) : ∃ i, u = .int i ∧ rSlD Γ.K v none (some i) H Q := by
  obtain ⟨ds, z, e1, e2, e3⟩ := prim_inv h
  obtain ⟨a, b, rfl, d1, d2⟩ := derefs2 (args_derefs e1)
  cases b with
  | int i => exact ⟨i, deref_int s r2 d2, prim_sl (f := some) s r1 d1 e2 e3⟩
  | _ => cases e2
theorem slFrom_of {x y : W} {v u : V} {H : Hp} {ι : List Addr} {st : Sto} {E : XK} {Q : VK} (s : StR Γ.K H ι st) (r1 : WR Γ.K H ι x v) (r2 : WR Γ.K H ι y u) (h : Post Γ (WR Γ.K) (primD .slFrom [x, y] st) H ι Q E) : ∃ i, u = .int i ∧ rSlD Γ.K v (some i) none H Q := by
  obtain ⟨ds, z, e1, e2, e3⟩ := prim_inv h
  obtain ⟨a, b, rfl, d1, d2⟩ := derefs2 (args_derefs e1)
  cases b with
  | int i => exact ⟨i, deref_int s r2 d2, prim_sl (f := some) s r1 d1 e2 e3⟩
  | _ => cases e2
theorem slB_of {x y w : W} {v u t : V} {H : Hp} {ι : List Addr} {st : Sto} {E : XK} {Q : VK} (s : StR Γ.K H ι st) (r1 : WR Γ.K H ι x v) (r2 : WR Γ.K H ι y u) (r3 : WR Γ.K H ι w t) (h : Post Γ (WR Γ.K) (primD .slB [x, y, w] st) H ι Q E) :
    ∃ i j, u = .int i ∧ t = .int j ∧ rSlD Γ.K v (some i) (some j) H Q := by
  obtain ⟨ds, z, e1, e2, e3⟩ := prim_inv h
  obtain ⟨a, b, c, rfl, d1, d2, d3⟩ := derefs3 (args_derefs e1)
  cases b with
  | int i =>
    cases c with
    | int j => exact ⟨i, j, deref_int s r2 d2, deref_int s r3 d3, prim_sl (f := some) s r1 d1 e2 e3⟩
    | _ => cases e2
  | _ => cases e2
theorem plain_ix {b : Expr} (h : noSlice b = true) : PlainIx b := by
  cases b <;> first | (intro _ _; rfl) | (cases h)
theorem isNone_eq {b : Expr} (h : isNoneE b = true) : ∃ k pos, b = .Constant .none k pos := by
  unfold isNoneE at h
  split at h
  · exact ⟨_, _, rfl⟩
  · cases h
/-- built-in functions by name -/
theorem call_rule {X : Cx} {sc : Scope} {Wx : WX} (c : Cok Γ S n X N sc Wx) {p : P1} {x : Str} (h : opF p = some x) (hg : glB sc x = true) {e : Expr} {es : List Expr} {t : TA} {px pos : Pos} (ha : PA X (e :: es) t)
    (he : starEach (e :: es) X.env = (false, eval e X.env) :: starEach es X.env) (hpl : (backTo pos (starEach es X.env)).any (·.1) = false) : PE X (.Call (.Name x px) (e :: es) [] pos) (tCB (rCl Γ.K p) t) := by
  have hb := fun y hy => c.facts.bl y hy
  have g := c.glo hg
  have hc := c.calm
  rw [← c.hK]
  cases p <;> first | (cases h; done) | skip
  · cases h; exact pe_callB call_lenP g (hb _ (by decide)) PySem.boot_len ha (by decide) (by decide) he hpl
  · cases h; exact pe_callTy call_intP g (hb _ (by decide)) (by decide +kernel) ha (by decide) (by decide) he hpl
  · cases h; exact pe_callB (call_max2P hc) g (hb _ (by decide)) (by decide +kernel) ha (by decide) (by decide) he hpl
  · cases h; exact pe_callB (call_min2P hc) g (hb _ (by decide)) (by decide +kernel) ha (by decide) (by decide) he hpl
  · cases h; exact pe_callB (call_sumP hc) g (hb _ (by decide)) (by decide +kernel) ha (by decide) (by decide) he hpl
  · cases h; exact pe_callB (call_allP hc) g (hb _ (by decide)) (by decide +kernel) ha (by decide) (by decide) he hpl
  · cases h; exact pe_callTy call_tupleP g (hb _ (by decide)) (by decide +kernel) ha (by decide) (by decide) he hpl
  · cases h; exact pe_callTy call_listP g (hb _ (by decide)) (by decide +kernel) ha (by decide) (by decide) he hpl
theorem ty_pe {X : Cx} {sc : Scope} {Wx : WX} (c : Cok Γ S n X N sc Wx) {t : Ty} {b : Expr} (h : isTy1 t sc b = true) : PE X b (tC (.ty t.name)) ∧ noSlice b = true ∧ ∀ l env, starEach (b :: l) env = (false, eval b env) :: starEach l env := by
  unfold isTy1 at h
  split at h
  · rw [Bool.and_eq_true] at h
    have e := of_decide_eq_true h.1
    subst e
    have g := c.glo h.2
    have hb := fun y hy => c.facts.bl y hy
    refine ⟨?_, rfl, fun _ _ => rfl⟩
    cases t
    · exact pe_bltn g (hb _ (by decide)) (show bootBuiltins "int" = some (.type "int") by decide +kernel) rfl (by decide) (by decide)
    · exact pe_bltn g (hb _ (by decide)) (show bootBuiltins "bool" = some (.type "bool") by decide +kernel) rfl (by decide) (by decide)
    · exact pe_bltn g (hb _ (by decide)) (show bootBuiltins "str" = some (.type "str") by decide +kernel) rfl (by decide) (by decide)
    · exact pe_bltn g (hb _ (by decide)) (show bootBuiltins "tuple" = some (.type "tuple") by decide +kernel) rfl (by decide) (by decide)
    · exact pe_bltn g (hb _ (by decide)) (show bootBuiltins "list" = some (.type "list") by decide +kernel) rfl (by decide) (by decide)
  · cases h
theorem tup_of {vs : List V} {ws : List W} {H : Hp} {ι : List Addr} {st : Sto} {E : XK} {Q : VK} (s : StR Γ.K H ι st) (r : WRs Γ.K H ι ws vs) (h : Post Γ (WR Γ.K) (primD .tup ws st) H ι Q E) : vs.length ≤ sizeLine ∧ ∀ p, H p = none → Q (.ref p) (upd H p (.tup vs)) := by
  obtain ⟨ds, z, e1, e2, e3⟩ := prim_inv h
  obtain ⟨k, e4⟩ := ite_some (show (if lineOk ds.length = true then some (PyData.tuple ds) else none) = some z from e2)
  subst e4
  have t := ds_rel r (show dsOf ws = some ds from e1)
  rw [t.length] at k
  exact ⟨lineOk_iff.mp k, (pq_of s e3).tup s.trk t⟩
theorem lst_of {vs : List V} {ws : List W} {H : Hp} {ι : List Addr} {st : Sto} {E : XK} {Q : VK} (s : StR Γ.K H ι st) (r : WRs Γ.K H ι ws vs) (h : Post Γ (WR Γ.K) (primD .lst ws st) H ι Q E) : vs.length ≤ sizeLine ∧ ∀ p, H p = none → Q (.ref p) (upd H p (.lst vs)) := by
  obtain ⟨ds, z, e1, e2, e3⟩ := prim_inv h
  obtain ⟨k, e4⟩ := ite_some (show (if lineOk ds.length = true then some (PyData.list ds) else none) = some z from e2)
  subst e4
  have t := ds_rel r (show dsOf ws = some ds from e1)
  rw [t.length] at k
  exact ⟨lineOk_iff.mp k, (pq_of s e3).lst s.trk t⟩
end
end Mp

set_option Elab.async false
set_option linter.all false
set_option maxRecDepth 100000
set_option maxHeartbeats 4000000
namespace Mp
open PySem PySem.Spec PyProof.Rows L2
section
variable {Γ : Gam} {S : Stat} {n : Nat} {N : List Str}
theorem evPr1 (call : CallT) (p : P1) (a : E) (ρ : Rho) (st : Sto) : evE call (.pr p (.cons a .nil)) ρ st = (evE call a ρ st).bind fun x st => primD p [x] st := by rw [evE, evEs1]
theorem evPr2 (call : CallT) (p : P1) (a b : E) (ρ : Rho) (st : Sto) : evE call (.pr p (.cons a (.cons b .nil))) ρ st = (evE call a ρ st).bind fun x st => (evE call b ρ st).bind fun y st => primD p [x, y] st := by rw [evE, evEs2]
theorem evPr3 (call : CallT) (p : P1) (a b c : E) (ρ : Rho) (st : Sto) : evE call (.pr p (.cons a (.cons b (.cons c .nil)))) ρ st = (evE call a ρ st).bind fun x st => (evE call b ρ st).bind fun y st => (evE call c ρ st).bind fun z st => primD p [x, y, z] st := by rw [evE, evEs3]
theorem none_pe {X : Cx} {sc : Scope} {Wx : WX} (c : Cok Γ S n X N sc Wx) {p : P1} {op : CmpOp} (ho : opN p = some op) : OpR X (compareOp op) (fun x y H Q => y = .non ∧ rUn1 Γ.K p x H Q) ∧ op ≠ .In ∧ op ≠ .NotIn := by
  rw [← c.hK]
  cases p <;> first | (cases ho; done) | skip
  · cases ho; exact ⟨op_isND, by decide, by decide⟩
  · cases ho; exact ⟨op_notND, by decide, by decide⟩
theorem none_bool {p : P1} {op : CmpOp} (ho : opN p = some op) : ∀ ds z, pureD p ds = some z → ∃ k, z = PyData.bool k := by
  intro ds z e
  cases p <;> first | (cases ho; done) | skip
  all_goals
    rcases ds with _ | ⟨a, _ | ⟨b, _ | ⟨c, r⟩⟩⟩
    · cases e
    · cases e; exact ⟨_, rfl⟩
    · exact absurd e (by cases a <;> first | (intro z; cases z; done) | (cases b <;> (intro z; cases z)))
    · cases e
theorem named_pe {X : Cx} {sc : Scope} {Wx : WX} (c : Cok Γ S n X N sc Wx) {p : P1} {x : Str} (q1 : opF p = some x) (q2 : glB sc x = true) {es : Es} (h : EsAll (Snd Γ S n N) es) {l : List Expr} (q3 : (!l.isEmpty) = true) (q4 : chkEs S N es sc l = true) {px pos : Pos} :
    PE X (.Call (.Name x px) l [] pos) (tCB (rCl Γ.K p) (tA Γ Wx (evEs (callF Γ.FT n) es))) := by
  cases l with
  | nil => cases q3
  | cons a l =>
    refine call_rule c q1 q2 (pa_of h c q4) ?_ ?_
    · cases h with
      | nil => unfold chkEs at q4; cases q4
      | cons h1 h2 =>
        unfold chkEs at q4
        rw [Bool.and_eq_true] at q4
        exact chk_star q4.1 _ _
    · cases h with
      | nil => unfold chkEs at q4; cases q4
      | cons h1 h2 =>
        unfold chkEs at q4
        rw [Bool.and_eq_true] at q4
        exact chk_noS q4.2 _ _
theorem isi_pe (t : Ty) {X : Cx} {sc : Scope} {Wx : WX} (c : Cok Γ S n X N sc Wx) {x : E} (hx : Snd Γ S n N x) (q2 : glB sc "isinstance" = true) {a b : Expr} (q3 : isTy1 t sc b = true) (qx : chkE S N x sc a = true) {px pos : Pos} :
    PE X (.Call (.Name "isinstance" px) [a, b] [] pos) (tE Γ Wx (evE (callF Γ.FT n) (.pr (.isinst t) (.cons x .nil)))) := by
  obtain ⟨pt, _, st⟩ := ty_pe c q3
  have ha := pa_cons (hx.pe X sc Wx _ c qx) (pa_cons pt pa_nil (st _ _)) (chk_star qx _ _)
  refine PE.weak (pe_callB (call_isiP t) (c.glo q2) (c.facts.bl _ (by decide)) (by decide +kernel) ha (by decide) (by decide) (chk_star qx _ _) (by rw [st]; rfl)) fun σ H Q g => ?_
  rw [c.hK]
  exact one_of (r := fun v H Q => ∃ x, [v, V.ty t.name] = [x, V.ty t.name] ∧ rUn1 Γ.K (.isinst t) x H Q) (fun x v st H1 ι1 s1 r1 h => ⟨v, rfl, prim_un s1 r1 h⟩) (tE_cast (fun ρ st => evPr1 _ _ _ ρ st) g)
theorem isn_pt {p : P1} {op : CmpOp} (ho : opN p = some op) {X : Cx} {sc : Scope} {Wx : WX} (c : Cok Γ S n X N sc Wx) {x : E} (hx : Snd Γ S n N x) {a : Expr} (qx : chkE S N x sc a = true) {k : Nat} {p2 pos : Pos} :
    PT X (.Compare a [op] [.Constant .none k p2] pos) (tT Γ Wx (evT (callF Γ.FT n) (.pr p (.cons x .nil)))) := by
  obtain ⟨o, n1, n2⟩ := none_pe c ho
  refine PT.weak (pt_cmpR o (hx.pe X sc Wx _ c qx) pe_non (nomark _ n1 n2)) fun σ H Q g => ?_
  obtain ⟨ι, ρ, st, s, g⟩ := g
  unfold evT at g
  rw [evPr1, bind_bind] at g
  refine ⟨ι, ρ, st, s, Post.bind g fun u st1 v H1 ι1 x1 s1 r1 q1 => ⟨rfl, prim_un (p := p) s1 r1 (E := WE Wx σ) ?_⟩⟩
  have hb : ∀ w st3, primD p [u] st1 = .ok w st3 → st3 = st1 ∧ ∃ k, w = .d (.bool k) := by
    intro w st3 e
    unfold primD at e
    split at e
    · split at e
      · rename_i ds _ z e2
        cases e
        obtain ⟨k, e⟩ := none_bool ho _ _ e2
        exact ⟨rfl, k, by rw [e]⟩
      · cases e
    · cases e
  cases t : primD p [u] st1 with
  | ok w st3 =>
    rw [t] at q1
    obtain ⟨rfl, k, rfl⟩ := hb _ _ t
    intro b H3 ι3 x3 s3 r3
    cases r3
    exact ⟨k, rfl, q1 k H3 ι3 x3 s3 rfl⟩
  | exc z st3 =>
    rw [t] at q1
    exact q1
  | bad =>
    rw [t] at q1
    exact q1
theorem pr_pe {p : P1} {es : Es} (h : EsAll (Snd Γ S n N) es) (X : Cx) (sc : Scope) (Wx : WX) (e : Expr) (c : Cok Γ S n X N sc Wx) (q : chkE S N (.pr p es) sc e = true) : PE X e (tE Γ Wx (evE (callF Γ.FT n) (.pr p es))) := by
  unfold chkE at q
  split at q
  · -- binary
    rw [Bool.and_eq_true] at q
    obtain ⟨x, y, rfl, hx, hy, qx, qy⟩ := two_E h q.2
    exact PE.weak (pe_op (bin_rule c (of_decide_eq_true q.1)) (hx.pe X sc Wx _ c qx) (hy.pe X sc Wx _ c qy)) fun σ H Q g => two_of (fun x y v u st H1 ι1 s1 r1 r2 h => prim_op s1 r1 r2 h) (tE_cast (fun ρ st => evPr2 _ _ _ _ ρ st) g)
  · -- unary minus
    simp only [Bool.and_eq_true] at q
    obtain ⟨⟨q1, q2⟩, q3⟩ := q
    have e1 := of_decide_eq_true q1
    have e2 := of_decide_eq_true q2
    subst e1 e2
    obtain ⟨x, rfl, hx, qx⟩ := one_E h q3
    refine PE.weak (pe_un un_negD (hx.pe X sc Wx _ c qx)) fun σ H Q g => ?_
    rw [c.hK]
    exact one_of (fun x v st H1 ι1 s1 r1 h => prim_un s1 r1 h) (tE_cast (fun ρ st => evPr1 _ _ _ ρ st) g)
  · -- comparisons
    rw [Bool.or_eq_true] at q
    rcases q with q | q
    · simp only [Bool.and_eq_true] at q
      obtain ⟨⟨q1, q2⟩, q3⟩ := q
      obtain ⟨x, y, rfl, hx, hy, qx, qy⟩ := two_E h q3
      exact PE.weak (cmp_pe c (of_decide_eq_true q1) hx hy qx qy (by simpa using q2)) fun σ H Q g => tE_cast (fun ρ st => evPr2 _ _ _ _ ρ st) g
    · simp only [Bool.and_eq_true] at q
      obtain ⟨⟨q1, q2⟩, q3⟩ := q
      obtain ⟨x, rfl, hx, qx⟩ := one_E h q3
      obtain ⟨k, pos, rfl⟩ := isNone_eq q2
      obtain ⟨o, n1, n2⟩ := none_pe c (of_decide_eq_true q1)
      refine PE.weak (pe_cmpR o (hx.pe X sc Wx _ c qx) pe_non (nomark _ n1 n2)) fun σ H Q g => ?_
      exact one_of (r := fun v H Q => (fun x y H Q => y = V.non ∧ rUn1 Γ.K p x H Q) v V.non H Q) (fun x v st H1 ι1 s1 r1 h => ⟨rfl, prim_un s1 r1 h⟩) (tE_cast (fun ρ st => evPr1 _ _ _ ρ st) g)
  · -- tuple
    rw [Bool.and_eq_true] at q
    have e1 := of_decide_eq_true q.1
    subst e1
    exact PE.weak (pe_tup (pa_of h c q.2)) fun σ H Q g => many_of (r := fun xs H1 Q => xs.length ≤ sizeLine ∧ ∀ p, H1 p = none → Q (.ref p) (upd H1 p (.tup xs))) (fun ws vs st H1 ι1 s1 r1 h => tup_of s1 r1 h) (tE_cast (fun ρ st => by rw [evE]) g)
  · -- list
    rw [Bool.and_eq_true] at q
    have e1 := of_decide_eq_true q.1
    subst e1
    exact PE.weak (pe_lst (pa_of h c q.2)) fun σ H Q g => many_of (r := fun xs H1 Q => xs.length ≤ sizeLine ∧ ∀ p, H1 p = none → Q (.ref p) (upd H1 p (.lst xs))) (fun ws vs st H1 ι1 s1 r1 h => lst_of s1 r1 h) (tE_cast (fun ρ st => by rw [evE]) g)
  · -- [:b]
    rw [Bool.and_eq_true] at q
    have e1 := of_decide_eq_true q.1
    subst e1
    obtain ⟨x, y, rfl, hx, hy, qx, qy⟩ := two_E h q.2
    refine PE.weak (pe_slice sl_D (hx.pe X sc Wx _ c qx) po_none (po_some (hy.pe X sc Wx _ c qy))) fun σ H Q g => ?_
    rw [c.hK]
    exact two_of (r := fun v u H Q => ∃ i, u = .int i ∧ rSlD Γ.K v none (some i) H Q) (fun x y v u st H1 ι1 s1 r1 r2 h => slTo_of s1 r1 r2 h) (tE_cast (fun ρ st => evPr2 _ _ _ _ ρ st) g)
  · -- [a:]
    rw [Bool.and_eq_true] at q
    have e1 := of_decide_eq_true q.1
    subst e1
    obtain ⟨x, y, rfl, hx, hy, qx, qy⟩ := two_E h q.2
    refine PE.weak (pe_slice sl_D (hx.pe X sc Wx _ c qx) (po_some (hy.pe X sc Wx _ c qy)) po_none) fun σ H Q g => ?_
    rw [c.hK]
    exact two_of (r := fun v u H Q => ∃ i, u = .int i ∧ rSlD Γ.K v (some i) none H Q) (fun x y v u st H1 ι1 s1 r1 r2 h => slFrom_of s1 r1 r2 h) (tE_cast (fun ρ st => evPr2 _ _ _ _ ρ st) g)
  · -- index
    simp only [Bool.and_eq_true] at q
    obtain ⟨⟨q1, q2⟩, q3⟩ := q
    have e1 := of_decide_eq_true q1
    subst e1
    obtain ⟨x, y, rfl, hx, hy, qx, qy⟩ := two_E h q3
    refine PE.weak (pe_ix ix_D (hx.pe X sc Wx _ c qx) (hy.pe X sc Wx _ c qy) (plain_ix q2)) fun σ H Q g => ?_
    rw [c.hK]
    exact two_of (fun x y v u st H1 ι1 s1 r1 r2 h => prim_op s1 r1 r2 h) (tE_cast (fun ρ st => evPr2 _ _ _ _ ρ st) g)
  · -- calls
    split at q
    · simp only [Bool.and_eq_true] at q
      obtain ⟨⟨q1, q2⟩, q3⟩ := q
      have e1 := of_decide_eq_true q1
      subst e1
      split at q3
      · rw [Bool.and_eq_true] at q3
        obtain ⟨x, rfl, hx, qx⟩ := one_E h q3.2
        exact isi_pe _ c hx q2 q3.1 qx
      · cases q3
    · simp only [Bool.and_eq_true] at q
      obtain ⟨⟨⟨q1, q2⟩, q3⟩, q4⟩ := q
      exact PE.weak (named_pe c (of_decide_eq_true q1) q2 h q3 q4) fun σ H Q g => many_of (fun ws vs st H1 ι1 s1 r1 h => prim_cl s1 r1 h) (tE_cast (fun ρ st => by rw [evE]) g)
  · cases q
/-- what a test of it is -/
theorem pr_pt {p : P1} {es : Es} (h : EsAll (Snd Γ S n N) es) (X : Cx) (sc : Scope) (Wx : WX) (e : Expr) (c : Cok Γ S n X N sc Wx) (q : chkE S N (.pr p es) sc e = true) : PT X e (tT Γ Wx (evT (callF Γ.FT n) (.pr p es))) := by
  have pe := pr_pe h X sc Wx e c q
  have dfl := pt_dflt c pe
  unfold chkE at q
  split at q
  · exact dfl fun _ => rfl
  · simp only [Bool.and_eq_true] at q
    have e1 := of_decide_eq_true q.1.1
    subst e1
    exact dfl fun _ => rfl
  · rw [Bool.or_eq_true] at q
    rcases q with q | q
    · simp only [Bool.and_eq_true] at q
      obtain ⟨⟨q1, q2⟩, q3⟩ := q
      obtain ⟨x, y, rfl, hx, hy, qx, qy⟩ := two_E h q3
      refine PT.weak (cmp_pt c (of_decide_eq_true q1) hx hy qx qy (by simpa using q2)) fun σ H Q g => tT_cast (fun ρ st => ?_) g
      unfold evT
      rw [evPr2]
      simp only [bind_bind]
    · simp only [Bool.and_eq_true] at q
      obtain ⟨⟨q1, q2⟩, q3⟩ := q
      obtain ⟨x, rfl, hx, qx⟩ := one_E h q3
      obtain ⟨k, pos, rfl⟩ := isNone_eq q2
      exact isn_pt (of_decide_eq_true q1) c hx qx
  · exact dfl fun _ => rfl
  · exact dfl fun _ => rfl
  · exact dfl fun _ => rfl
  · exact dfl fun _ => rfl
  · exact dfl fun _ => rfl
  · exact dfl fun _ => rfl
  · cases q
end
end Mp

set_option Elab.async false
set_option linter.all false
set_option maxRecDepth 100000
set_option maxHeartbeats 4000000
namespace Mp
open PySem PySem.Spec PyProof.Rows L2
section
variable {K : PySem.W.Frag} {H : Hp} {ι : List Addr} {st : Sto} {a : Addr} {n : Nat} {ds es : List PyData} {vs us : List V}
theorem hide_at {o : HO} (h : a ∈ ι) : hide (upd H a o) ι = hide H ι := by
  funext b
  unfold hide upd
  by_cases hb : b ∈ ι
  · rw [if_pos hb, if_pos hb]
  · have ne : b ≠ a := fun z => hb (z ▸ h)
    rw [if_neg hb, if_neg hb, if_neg ne]
theorem ext_at {o : HO} (h : a ∈ ι) : Ext H ι (upd H a o) ι := ⟨by rw [hide_at h]; exact fun _ _ e => e, [], (List.append_nil _).symm⟩
theorem StR.upd (s : StR K H ι st) (ha : ι[n]? = some a) (t : DRs K (hide H ι) es us) : StR K (upd H a (.lst us)) ι (st.set n (.lst es)) := by
  have hm : a ∈ ι := List.mem_of_getElem? ha
  refine ⟨by rw [s.len, List.length_set], s.nd, fun m b c e1 e2 => ?_⟩
  rw [hide_at hm]
  by_cases hmn : n = m
  · subst hmn
    rw [ha] at e1
    cases e1
    have hl : n < st.length := by rw [← s.len]; exact (List.getElem?_eq_some_iff.mp ha).1
    rw [List.getElem?_set_self hl] at e2
    cases e2
    exact ⟨us, upd_same, t⟩
  · rw [List.getElem?_set_ne hmn] at e2
    have q := s.cell m b c e1 e2
    have ne : b ≠ a := fun z => hmn (by
      subst z
      obtain ⟨h1, e1'⟩ := List.getElem?_eq_some_iff.mp ha
      obtain ⟨h2, e2'⟩ := List.getElem?_eq_some_iff.mp e1
      exact (List.getElem_inj s.nd).mp (e1'.trans e2'.symm))
    cases c with
    | lst ds =>
      obtain ⟨vs, e3, t3⟩ := q
      exact ⟨vs, by rw [upd_ne ne]; exact e3, t3⟩
theorem hide_push {p : Addr} {o : HO} (t : Trk ι H) (h : H p = none) : hide (upd H p o) (ι ++ [p]) = hide H ι := by
  funext b
  unfold hide upd
  by_cases hb : b ∈ ι
  · rw [if_pos hb, if_pos (List.mem_append_left _ hb)]
  · by_cases hp : b = p
    · subst hp
      rw [if_pos (List.mem_append_right _ (List.mem_singleton.mpr rfl)), if_neg hb, h]
    · rw [if_neg hb, if_neg hp, if_neg (fun z => (List.mem_append.mp z).elim hb fun q => hp (List.mem_singleton.mp q))]
theorem ext_push {p : Addr} {o : HO} (t : Trk ι H) (h : H p = none) : Ext H ι (upd H p o) (ι ++ [p]) := ⟨by rw [hide_push t h]; exact fun _ _ e => e, [p], rfl⟩
theorem StR.push {p : Addr} (s : StR K H ι st) (h : H p = none) (t : DRs K (hide H ι) es us) : StR K (L2.upd H p (.lst us)) (ι ++ [p]) (st ++ [.lst es]) := by
  have tr := s.trk
  have np := tr.new h
  refine ⟨by rw [List.length_append, List.length_append, s.len]; rfl, ?_, fun m b c e1 e2 => ?_⟩
  · refine List.nodup_append.mpr ⟨s.nd, by simp, fun x hx y hy => ?_⟩
    rw [List.mem_singleton] at hy
    subst hy
    exact fun z => np (z ▸ hx)
  · rw [hide_push tr h]
    by_cases hm : m < ι.length
    · rw [List.getElem?_append_left hm] at e1
      rw [List.getElem?_append_left (by rw [← s.len]; exact hm)] at e2
      have q := s.cell m b c e1 e2
      have ne : b ≠ p := fun z => np (z ▸ List.mem_of_getElem? e1)
      cases c with
      | lst ds =>
        obtain ⟨vs, e3, t3⟩ := q
        exact ⟨vs, by rw [upd_ne ne]; exact e3, t3⟩
    · rw [List.getElem?_append_right (by omega)] at e1
      rw [List.getElem?_append_right (by rw [← s.len]; omega)] at e2
      obtain ⟨h1, h2⟩ := List.getElem?_eq_some_iff.mp e1
      have h0 : m - ι.length = 0 := by simp at h1; omega
      have h0' : m - st.length = 0 := by rw [← s.len]; exact h0
      rw [h0] at e1
      rw [h0'] at e2
      cases e1
      cases e2
      exact ⟨us, upd_same, t⟩
end
section
variable {Γ : Gam} {S : Stat} {n : Nat} {N : List Str}
theorem snd_sl {a b c : E} (ha : Snd Γ S n N a) (hb : Snd Γ S n N b) (hc : Snd Γ S n N c) : Snd Γ S n N (.sl a b c) := by
  refine snd_plain (fun X sc Wx e k h => ?_) fun sc e env h => ?_
  · unfold chkE at h
    split at h
    · simp only [Bool.and_eq_true] at h
      obtain ⟨⟨h1, h2⟩, h3⟩ := h
      refine PE.weak (pe_slice sl_D (ha.pe X sc Wx _ k h1) (po_some (hb.pe X sc Wx _ k h2)) (po_some (hc.pe X sc Wx _ k h3))) fun σ H Q ⟨ι, ρ, st, s, g⟩ => ?_
      rw [k.hK]
      rw [evE] at g
      refine ⟨ι, ρ, st, s, Post.bind g fun x st1 v H1 ι1 x1 s1 r1 q1 => ⟨ι1, ρ, st1, s.next x1 s1, Post.bind q1 fun y st2 u H2 ι2 x2 s2 r2 q2 => ?_⟩⟩
      split at q2
      · cases r2
        refine ⟨_, rfl, ι2, ρ, st2, (s.next x1 s1).next x2 s2, Post.bind q2 fun z st3 t H3 ι3 x3 s3 r3 q3 => ?_⟩
        obtain ⟨i, j, e1, e2, g⟩ := slB_of s3 ((r1.ext x2).ext x3) (show WR Γ.K H3 ι3 (.d (.int _)) (.int _) from .int _) r3 q3
        cases e1
        exact ⟨j, e2, g⟩
      · exact q2.elim
    · cases h
  · unfold chkE at h
    split at h
    · intro _; rfl
    · cases h
theorem new_of {ws : List W} {vs : List V} {H : Hp} {ι : List Addr} {st : Sto} {E : XK} {Q : VK} (s : StR Γ.K H ι st) (r : WRs Γ.K H ι ws vs) (h : Post Γ (WR Γ.K) (newD ws st) H ι Q E) : vs.length ≤ sizeLine ∧ ∀ p, H p = none → Q (.ref p) (upd H p (.lst vs)) := by
  unfold newD at h
  split at h
  · rename_i ds e
    have t := ds_rel r e
    split at h
    · rename_i l
      rw [t.length] at l
      refine ⟨lineOk_iff.mp l, fun p np => h (.ref p) _ (ι ++ [p]) (ext_push s.trk np) (s.push np t) ⟨p, rfl, ?_⟩⟩
      rw [← s.len, List.getElem?_append_right (Nat.le_refl _), Nat.sub_self]
      rfl
    · exact h.elim
  · exact h.elim
theorem snd_new {es : Es} (hs : EsAll (Snd Γ S n N) es) : Snd Γ S n N (.new es) := by
  refine snd_plain (fun X sc Wx e k h => ?_) fun sc e env h => ?_
  · unfold chkE at h
    split at h
    · exact PE.weak (pe_lst (pa_of hs k h)) fun σ H Q g => many_of (r := fun xs H1 Q => xs.length ≤ sizeLine ∧ ∀ p, H1 p = none → Q (.ref p) (upd H1 p (.lst xs))) (fun ws vs st H1 ι1 s1 r1 h => new_of s1 r1 h) (tE_cast (fun ρ st => by rw [evE]) g)
    · cases h
  · unfold chkE at h
    split at h
    · intro _; rfl
    · cases h
theorem isLst_inv {w : W} {st : Sto} (h : isLst w st = true) : ∃ m ds, w = .loc m ∧ st[m]? = some (.lst ds) := by
  unfold isLst at h
  split at h
  · split at h
    · exact ⟨_, _, rfl, by assumption⟩
    · cases h
  · cases h
theorem tyV_of {w : W} {v : V} {H : Hp} {ι : List Addr} {st : Sto} (s : StR Γ.K H ι st) (r : WR Γ.K H ι w v) (h : isLst w st = true) : tyV Γ.K "list" v H := by
  obtain ⟨m, ds, rfl, e⟩ := isLst_inv h
  obtain ⟨a, rfl, ea⟩ := r
  obtain ⟨vs, e1, _⟩ := s.cell m a _ ea e
  exact .inl ⟨rfl, vs, .inl (.inl e1)⟩
theorem pop_of {w : W} {v : V} {H : Hp} {ι : List Addr} {st : Sto} {E : XK} {Q : VK} (s : StR Γ.K H ι st) (r : WR Γ.K H ι w v) (h : Post Γ (WR Γ.K) (doD .pop [w] st) H ι Q E) : rPop v [] H Q := by
  cases w with
  | d x => exact h.elim
  | loc m =>
    obtain ⟨a, rfl, ea⟩ := r
    simp only [doD] at h
    split at h
    · rename_i xs e
      split at h
      · rename_i y ey
        obtain ⟨vs, e1, t⟩ := s.cell m a _ ea e
        obtain ⟨u, eu, ru⟩ := t.get ey
        have hm : a ∈ ι := List.mem_of_getElem? ea
        rw [t.length] at eu
        refine ⟨a, vs, u, rfl, rfl, e1, eu, h u _ ι (ext_at hm) (s.upd ea t.dropLast) ?_⟩
        exact (show DR Γ.K (hide _ ι) y u by rw [hide_at hm]; exact ru)
      · exact h.elim
    · exact h.elim
theorem append_of {w x : W} {v u : V} {H : Hp} {ι : List Addr} {st : Sto} {E : XK} {Q : VK} (s : StR Γ.K H ι st) (r : WR Γ.K H ι w v) (r2 : WR Γ.K H ι x u) (h : Post Γ (WR Γ.K) (doD .append [w, x] st) H ι Q E) : rAppend v [u] H Q := by
  cases w with
  | d _ => exact h.elim
  | loc m =>
    cases x with
    | loc _ => exact h.elim
    | d x =>
      obtain ⟨a, rfl, ea⟩ := r
      simp only [doD] at h
      split at h
      · rename_i xs e
        split at h
        · rename_i l
          obtain ⟨vs, e1, t⟩ := s.cell m a _ ea e
          have hm : a ∈ ι := List.mem_of_getElem? ea
          have l' := lineOk_iff.mp l
          rw [t.length] at l'
          exact ⟨a, vs, u, rfl, rfl, e1, l', h .non _ ι (ext_at hm) (s.upd ea (t.app (.cons r2 .nil))) .non⟩
        · exact h.elim
      · exact h.elim
theorem ext_meets (l : Addr) (xs : Array Value) (n : Nat) (b : Addr) (ys : Array Value) (m : Nat) (sl : Array (Option Value)) (hc0 : ¬(!xs.isEmpty && Builtin.List.listTooLong (xs.size + ys.size)) = true) (hc1 : xs.size ≤ sizeLine) (hs2 : xs.size + ys.size ≤ sizeLine + 1) :
    Meets (Builtin.«list.extend» ⟨[.ref l, .ref b], []⟩) (fun _ R s => s.heap.get? l = some { cls := .type "list", dict := none, data := .seq xs n, slots := #[] } ∧ s.heap.get? b = some { cls := .type "list", dict := none, data := .seq ys m, slots := sl } ∧ R (.ok (.ret Value.none)) { s with heap := s.heap.update l (Obj.mapSeq fun x => x ++ ys), toks := s.toks }) :=
  .of_wp fun _ _ _ _ s0 q0 => by
    obtain ⟨h0, g0, d0, t0, o0⟩ := s0
    obtain ⟨qa, qb, qr⟩ := q0
    have e1 := AutoSeq1.idx_int; have e2 := AutoSeq1.sub_tuple_tuple; have e3 := AutoSeq1.sub_list_list; have e4 := AutoSeq1.sub_tuple_list; have e5 := AutoSeq1.sub_list_tuple
    have big : (xs ++ ys).size ≤ sizeLine + 1 := by rw [Array.size_append]; exact hs2
    wp_walk using (wpAny_updateSeq qa rfl (hz := hc1) (_hz' := big)), wpAny_loadPart' qa, wpAny_loadPart' qb
    exact ⟨_, rfl, qr⟩
theorem ext_rule {X : Cx} : MtM X "list.extend" (fun x vs H Q => ∃ l b xs zs, x = .ref l ∧ vs = [.ref b] ∧ H l = some (.lst xs) ∧ SqL X.K H b zs ∧ xs.length + zs.length ≤ sizeLine ∧ Q .non (upd H l (.lst (xs ++ zs)))) := by
  intro pins s σ H x vs v us Q I rx rv h
  obtain ⟨l, b, xs, zs, rfl, rfl, hH, hB, hz, q⟩ := h
  cases rx
  obtain ⟨u, rfl, ru⟩ := rv.one
  cases ru
  obtain ⟨z1, i1, n1, w1, l1, g1⟩ := I.lstM hH
  obtain ⟨i2, w2, ⟨⟨c2, dd2, da2, sl2⟩, n2, g2, hc2, hn2, hd2⟩, z2⟩ := I.list hB
  simp only at hc2 hd2 hn2
  subst hc2 hd2 hn2
  have k2 := w2.length
  have tot : i1.toArray.size + i2.toArray.size ≤ sizeLine := by rw [List.size_toArray, List.size_toArray]; omega
  have nl : ¬ (!i1.toArray.isEmpty && Builtin.List.listTooLong (i1.toArray.size + i2.toArray.size)) = true := by rw [notLongL tot, Bool.and_false]; exact Bool.false_ne_true
  refine call_meets F.slot_list_extend ⟨_, g1, rfl⟩ F.entry_list_extend (F.args_list_extend_2 _ _) (ext_meets l i1.toArray n1 b i2.toArray n2 sl2 nl (by rw [List.size_toArray]; omega) (by omega)) ⟨g1, g2, ?_⟩
  exact ⟨.non, _, I.lset (its' := i1 ++ i2) hH g1 (by simp) (w1.append w2) (by rw [List.length_append]; omega), rfl, q⟩
theorem extend_of {w x : W} {v u : V} {H : Hp} {ι : List Addr} {st : Sto} {E : XK} {Q : VK} (s : StR Γ.K H ι st) (r : WR Γ.K H ι w v) (r2 : WR Γ.K H ι x u) (h : Post Γ (WR Γ.K) (doD .extend [w, x] st) H ι Q E) :
    ∃ l b xs zs, v = .ref l ∧ [u] = [.ref b] ∧ H l = some (.lst xs) ∧ SqL Γ.K H b zs ∧ xs.length + zs.length ≤ sizeLine ∧ Q .non (upd H l (.lst (xs ++ zs))) := by
  cases w with
  | d _ => exact h.elim
  | loc m =>
    cases x with
    | loc _ => exact h.elim
    | d x =>
      cases x with
      | list ys =>
        obtain ⟨a, rfl, ea⟩ := r
        simp only [doD] at h
        split at h
        · rename_i xs e
          split at h
          · rename_i l
            obtain ⟨vs, e1, t⟩ := s.cell m a _ ea e
            have hm : a ∈ ι := List.mem_of_getElem? ea
            have l' := lineOk_iff.mp l
            cases r2 with
            | lst h2 t2 =>
              rw [t.length, t2.length] at l'
              exact ⟨a, _, vs, _, rfl, rfl, e1, SqL.mono hide_same h2, l', h .non _ ι (ext_at hm) (s.upd ea (t.app t2)) .non⟩
          · exact h.elim
        · exact h.elim
      | _ => exact h.elim
theorem snd_act0 {p : P2} {o : E} (ho : Snd Γ S n N o) : Snd Γ S n N (.act0 p o) := by
  refine snd_plain (fun X sc Wx e k h => ?_) fun sc e env h => ?_
  · unfold chkE at h
    split at h
    · simp only [Bool.and_eq_true] at h
      obtain ⟨⟨⟨h1, h2⟩, h3⟩, h4⟩ := h
      have e1 := of_decide_eq_true h1
      have e2 := of_decide_eq_true h2
      subst e1 e2
      refine PE.weak (pe_bm0 PySem.F.plainAttrs_list PySem.F.slot_list_pop PySem.F.type_list_pop mt_pop (ho.pe X sc Wx _ k h4) rfl h3) fun σ H Q ⟨ι, ρ, st, s, g⟩ => ?_
      rw [k.hK]
      rw [evE] at g
      refine ⟨ι, ρ, st, s, Post.bind g fun w st1 v H1 ι1 x1 s1 r1 q1 => ?_⟩
      split at q1
      · exact ⟨tyV_of s1 r1 (by assumption), pop_of s1 r1 q1⟩
      · exact q1.elim
    · cases h
  · unfold chkE at h
    split at h
    · intro _; rfl
    · cases h
theorem snd_act1 {p : P2} {o a : E} (ho : Snd Γ S n N o) (ha : Snd Γ S n N a) : Snd Γ S n N (.act1 p o a) := by
  refine snd_plain (fun X sc Wx e k h => ?_) fun sc e env h => ?_
  · unfold chkE at h
    split at h
    · simp only [Bool.and_eq_true, Bool.or_eq_true] at h
      obtain ⟨⟨⟨h1, h2⟩, h3⟩, h4⟩ := h
      have st := chk_star h4 [] X.env
      rcases h1 with h1 | h1
      · have e1 := of_decide_eq_true h1.1
        have e2 := of_decide_eq_true h1.2
        subst e1 e2
        refine PE.weak (pe_bm PySem.F.plainAttrs_list PySem.F.slot_list_append PySem.F.type_list_append mt_append (ho.pe X sc Wx _ k h3) (pa_cons (ha.pe X sc Wx _ k h4) pa_nil st) rfl (by rw [st]; rfl) h2 st rfl) fun σ H Q ⟨ι, ρ, st, s, g⟩ => ?_
        rw [k.hK]
        rw [evE] at g
        refine ⟨ι, ρ, st, s, Post.bind g fun w st1 v H1 ι1 x1 s1 r1 q1 => ?_⟩
        split at q1
        · exact ⟨tyV_of s1 r1 (by assumption), ι1, ρ, st1, s.next x1 s1, Post.bind q1 fun x st2 u H2 ι2 x2 s2 r2 q2 => append_of s2 (r1.ext x2) r2 q2⟩
        · exact q1.elim
      · have e1 := of_decide_eq_true h1.1
        have e2 := of_decide_eq_true h1.2
        subst e1 e2
        refine PE.weak (pe_bm PySem.F.plainAttrs_list PySem.F.slot_list_extend PySem.F.type_list_extend ext_rule (ho.pe X sc Wx _ k h3) (pa_cons (ha.pe X sc Wx _ k h4) pa_nil st) rfl (by rw [st]; rfl) h2 st rfl) fun σ H Q ⟨ι, ρ, st, s, g⟩ => ?_
        rw [k.hK]
        rw [evE] at g
        refine ⟨ι, ρ, st, s, Post.bind g fun w st1 v H1 ι1 x1 s1 r1 q1 => ?_⟩
        split at q1
        · exact ⟨tyV_of s1 r1 (by assumption), ι1, ρ, st1, s.next x1 s1, Post.bind q1 fun x st2 u H2 ι2 x2 s2 r2 q2 => extend_of s2 (r1.ext x2) r2 q2⟩
        · exact q1.elim
    · cases h
  · unfold chkE at h
    split at h
    · intro _; rfl
    · cases h
theorem chks_star {es : Es} {sc : Scope} {a : Expr} {l : List Expr} (h : chkEs S N es sc (a :: l) = true) : (∀ env, starEach (a :: l) env = (false, eval a env) :: starEach l env) ∧ ∀ pos env, (backTo pos (starEach l env)).any (·.1) = false := by
  cases es with
  | nil => unfold chkEs at h; cases h
  | cons e es =>
    unfold chkEs at h
    rw [Bool.and_eq_true] at h
    exact ⟨fun env => chk_star h.1 _ env, fun pos env => chk_noS h.2 pos env⟩
theorem snd_call {f : Nat} {es : Es} (hs : EsAll (Snd Γ S n N) es) : Snd Γ S n N (.call f es) := by
  refine snd_plain (fun X sc Wx e k h => ?_) fun sc e env h => ?_
  · unfold chkE at h
    split at h
    · simp only [Bool.and_eq_true] at h
      obtain ⟨⟨⟨h1, h2⟩, h3⟩, h4⟩ := h
      split at h3
      · rename_i y ps ef
        have e1 := of_decide_eq_true h3
        subst e1
        obtain ⟨a, fd, hm, hk, hb, _, F⟩ := k.facts.fn _ _ _ ef
        rw [← k.hK] at hk hb F
        obtain ⟨hst, hpl⟩ := chks_star h4
        exact PE.weak (pe_callS F k.room (k.glo h1) hm hk hb (fun σ => passAt k.takes σ) (pa_of hs k h4) (nmB1 h2) (hst _) (hpl _ _)) fun σ H Q ⟨ι, ρ, st, s, g⟩ => ⟨ι, ρ, st, s, by
          rw [evE] at g
          exact Post.bind g fun ws st1 vs H1 ι1 x1 s1 r1 q1 => ⟨ι1, ws, st1, s1, r1, q1⟩⟩
      · cases h3
    · cases h
  · unfold chkE at h
    split at h
    · intro _; rfl
    · cases h
end
end Mp

set_option Elab.async false
set_option linter.all false
set_option maxRecDepth 100000
set_option maxHeartbeats 4000000
namespace Mp
open PySem PySem.Spec PyProof.Rows L2
section
variable {Γ : Gam} {S : Stat} {n : Nat} {N : List Str}
/-! ### a call by keywords alone -/
theorem kw_look : ∀ {kws : List Keyword} {ks : List Str}, kwNames kws = some ks → ∀ (pos : Pos) (env : Env), (backToKw pos (keywordEach kws env)).all (·.1.isSome) = true ∧ (backToKw pos (keywordEach kws env)).filterMap (·.1) = ks ∧ (backToKw pos (keywordEach kws env)).any (·.1.isNone) = false
  | [], ks, h, pos, env => by cases h; exact ⟨rfl, rfl, rfl⟩
  | ⟨none, v, p⟩ :: r, ks, h, pos, env => by cases h
  | ⟨some x, v, p⟩ :: r, ks, h, pos, env => by
    unfold kwNames at h
    cases q : kwNames r with
    | none => rw [q] at h; cases h
    | some ks' =>
      rw [q] at h
      cases h
      obtain ⟨h1, h2, h3⟩ := kw_look q pos env
      refine ⟨?_, ?_, ?_⟩
      · show (true && (backToKw pos (keywordEach r env)).all (·.1.isSome)) = true
        rw [h1]; rfl
      · show x :: (backToKw pos (keywordEach r env)).filterMap (·.1) = x :: ks'
        rw [h2]
      · show (false || (backToKw pos (keywordEach r env)).any (·.1.isNone)) = false
        rw [h3]; rfl
theorem kw_len : ∀ {kws : List Keyword} {ks : List Str}, kwNames kws = some ks → (kwVals kws).length = ks.length
  | [], ks, h => by cases h; rfl
  | ⟨none, v, p⟩ :: r, ks, h => by cases h
  | ⟨some x, v, p⟩ :: r, ks, h => by
    unfold kwNames at h
    cases q : kwNames r with
    | none => rw [q] at h; cases h
    | some ks' =>
      rw [q] at h
      cases h
      exact congrArg (· + 1) (kw_len q)
theorem pk_of {es : Es} (h : EsAll (Snd Γ S n N) es) : ∀ {X : Cx} {sc : Scope} {Wx : WX} {kws : List Keyword}, Cok Γ S n X N sc Wx → chkEs S N es sc (kwVals kws) = true → PK X kws (tA Γ Wx (evEs (callF Γ.FT n) es)) := by
  induction h with
  | nil =>
    intro X sc Wx kws c q
    unfold chkEs at q
    cases kws with
    | nil => exact ⟨fun pos pins s σ H Q I ⟨ι, ρ, st, s', h⟩ => (pk_nil (X := X)).run pos pins s σ H Q I (h [] H ι .refl s'.st .nil)⟩
    | cons k r =>
      obtain ⟨x, v, p⟩ := k
      unfold kwVals at q
      cases q
  | cons h1 _ ih =>
    intro X sc Wx kws c q
    cases kws with
    | nil => unfold kwVals chkEs at q; cases q
    | cons k r =>
      obtain ⟨x, v, p⟩ := k
      unfold kwVals chkEs at q
      rw [Bool.and_eq_true] at q
      refine ⟨fun pos pins s σ H Q I ⟨ι, ρ, st, s', g⟩ => (pk_cons (h1.pe X sc Wx v c q.1) (ih c q.2)).run pos pins s σ H Q I ?_⟩
      rw [evEs] at g
      exact ⟨ι, ρ, st, s', Post.bind g fun x st1 v H1 ι1 x1 s1 r1 q1 => ⟨ι1, ρ, st1, s'.next x1 s1, Post.bind q1 fun ws st2 vs H2 ι2 x2 s2 r2 q2 => q2 _ H2 ι2 .refl s2 (.cons (r1.ext x2) r2)⟩⟩
theorem pe_kw {X : Cx} {k : Nat} {f : Addr} {fd : FuncData} {ps ks : List Str} {sp : Sp} {E : L2.St → XK} {x : Str} {p pos : Pos} {kws : List Keyword} {tk : TA} {gU : List Value → List Value} {gV : List V → List V}
    (F : FnOk X.prog X.w X.K X.mg X.base (L2.CX X.prog X.w) k f fd ps sp) (hr : Room k X.A) (hg : Gl X x) (hm : X.mg x = some (.ref f)) (hk : PySem.W.keepIn X.K (.ref f) = true)
    (hb : ∀ (s : Shared) (us : List Value), us.length = ks.length → BindsTo s fd ⟨[], ks.zip us⟩ (ps.zip (gU us))) (rel : ∀ {zs : List V} {us : List Value}, Vals zs us → Vals (gV zs) (gU us))
    (hx : ∀ σ, PassesAt (L2.CX X.prog X.w) X σ (E σ)) (hkw : PK X kws tk) (hn : kwNames kws = some ks) (hdb : (x == ("__debug__" : Str)) = false) :
    PE X (.Call (.Name x p) [] kws pos) (fun σ H Q => tk σ H fun zs H1 => zs.length = ks.length ∧ sp (gV zs) H1 Q (E σ)) := by
  obtain ⟨l1, l2, l3⟩ := kw_look hn pos X.env
  refine ⟨fun pins s σ H Q I h => ?_⟩
  refine wpAny_Call_Name_kw (ld_glob I hg hm ?_ hdb)
  refine PySem.W.callWith_KW0 (h₀ := X.base) I.ok.mod.kin hk l1 (thn (hkw.run pos pins s σ H _ I h) fun ws s2 ⟨zs, H2, I2, rz, el, q2⟩ => ⟨I2.kIn, ?_⟩) ?_
  · rw [l2]
    have el2 : ws.length = ks.length := by rw [← rz.length]; exact el
    show wpAny _ _ (call (.ref f) [] (ks.zip ws)) _ _ _
    refine wpAny_call (codeAny_mono (F.run X.A X.stack s2 H2 ⟨[], ks.zip ws⟩ (gU ws) (gV zs) Q (E σ) hr I2.env0 (hb s2 ws el2) (rel rz) q2) fun r s' hq => ?_)
    cases r with
    | error e => exact hx σ pins H2 s2 e s' I2 hq
    | ok fl =>
      cases fl with
      | ret u => exact I2.after hq
      | next => exact False.elim hq
      | brk => exact False.elim hq
      | cont => exact False.elim hq
  · rw [l3]
    rfl
theorem vals_get {zs : List V} {us : List Value} (r : Vals zs us) (i : Nat) : RelV (zs.getD i .non) (us.getD i .none) := by
  rw [List.getD_eq_getElem?_getD, List.getD_eq_getElem?_getD]
  cases e : zs[i]? with
  | none => rw [Vals.none_of r e]; rfl
  | some v =>
    obtain ⟨u, e2, q⟩ := Vals.get r e
    rw [e2]
    exact q
theorem vals_pick {zs : List V} {us : List Value} (r : Vals zs us) : ∀ ix : List Nat, Vals (ix.map fun i => zs.getD i .non) (ix.map fun i => us.getD i .none)
  | [] => .nil
  | i :: ix => .cons (vals_get r i) (vals_pick r ix)
theorem pick_rel {K : PySem.W.Frag} {H : Hp} {ι : List Addr} {ws : List W} {vs : List V} (r : WRs K H ι ws vs) : ∀ {ix : List Nat} {us : List W}, pickW ws ix = some us → WRs K H ι us (ix.map fun i => vs.getD i .non)
  | [], us, e => by cases e; exact .nil
  | i :: ix, us, e => by
    unfold pickW at e
    cases q1 : ws[i]? with
    | none => rw [q1] at e; cases e
    | some w =>
      cases q2 : pickW ws ix with
      | none => rw [q1, q2] at e; cases e
      | some t =>
        rw [q1, q2] at e
        cases e
        have get : ∀ {ws : List W} {vs : List V} {i : Nat} {w : W}, WRs K H ι ws vs → ws[i]? = some w → WR K H ι w (vs.getD i .non) := by
          intro ws vs i w r e
          induction r generalizing i with
          | nil => simp at e
          | cons h t ih =>
            cases i with
            | zero => simp at e; subst e; exact h
            | succ i => exact ih (by simpa using e)
        exact .cons (get r q1) (pick_rel r q2)
theorem snd_callk {j f : Nat} {ix : List Nat} {es : Es} (hs : EsAll (Snd Γ S n N) es) : Snd Γ S n N (.callk j f ix es) := by
  refine snd_plain (fun X sc Wx e k h => ?_) fun sc e env h => ?_
  · unfold chkE at h
    split at h
    · simp only [Bool.and_eq_true] at h
      obtain ⟨⟨⟨h1, h2⟩, h3⟩, h4⟩ := h
      split at h3
      · rename_i y ps g ks' ix' ks ef ej ek
        simp only [Bool.and_eq_true] at h3
        obtain ⟨⟨⟨e1, e2⟩, e3⟩, e4⟩ := h3
        have e1 := of_decide_eq_true e1
        have e2 := of_decide_eq_true e2
        have e3 := of_decide_eq_true e3
        have e4 := of_decide_eq_true e4
        subst e1 e2 e3 e4
        obtain ⟨a, fd, hm, hk, _, hb, F⟩ := k.facts.fn _ _ _ ef
        rw [← k.hK] at hk F
        refine PE.weak (pe_kw F k.room (k.glo h1) hm hk (hb _ _ _ ej) (fun r => vals_pick r _) (fun σ => passAt k.takes σ) (pk_of hs k h4) ek (nmB1 h2)) fun σ H Q ⟨ι, ρ, st, s, g⟩ => ⟨ι, ρ, st, s, ?_⟩
        rw [evE] at g
        have ln : ∀ {ρ : Rho} {st : Sto} {ws : List W} {st' : Sto}, evEs (callF Γ.FT n) es ρ st = .ok ws st' → ∃ l : List Expr, True := fun _ => ⟨[], trivial⟩
        have hlen : ∀ (es : Es) (l : List Expr) (ρ : Rho) (st : Sto) (ws : List W) (st' : Sto), chkEs S N es sc l = true → evEs (callF Γ.FT n) es ρ st = .ok ws st' → ws.length = l.length := by
          intro es
          induction es using Es.rec (motive_1 := fun _ => True) with
          | nil =>
            intro l ρ st ws st' h e
            unfold chkEs at h
            unfold evEs at e
            cases e
            cases l with
            | nil => rfl
            | cons _ _ => cases h
          | cons e es _ ih =>
            intro l ρ st ws st' h g
            cases l with
            | nil => unfold chkEs at h; cases h
            | cons a l =>
              unfold chkEs at h
              rw [Bool.and_eq_true] at h
              unfold evEs at g
              cases q1 : evE (callF Γ.FT n) e ρ st with
              | ok w st1 =>
                rw [q1] at g
                change Res.bind (evEs (callF Γ.FT n) es ρ st1) _ = _ at g
                cases q2 : evEs (callF Γ.FT n) es ρ st1 with
                | ok ws2 st2 =>
                  rw [q2] at g
                  cases g
                  exact congrArg (· + 1) (ih l ρ st1 ws2 _ h.2 q2)
                | exc _ _ => rw [q2] at g; cases g
                | bad => rw [q2] at g; cases g
              | exc _ _ => rw [q1] at g; cases g
              | bad => rw [q1] at g; cases g
          | _ => trivial
        cases q : evEs (callF Γ.FT n) es ρ st with
        | ok ws st1 =>
          have l1 := hlen es _ ρ st ws st1 h4 q
          rw [q] at g
          intro vs H1 ι1 x1 s1 r1
          have g1 : Post Γ (WR Γ.K) (match pickW ws _ with
            | some us => callF Γ.FT n _ us st1
            | none => .bad) H1 ι1 Q (WE Wx σ) := Post.shift x1 g
          refine ⟨?_, ?_⟩
          · rw [← kw_len ek, ← l1]
            exact (Paired.length r1).symm
          · cases q2 : pickW ws _ with
            | none => rw [q2] at g1; exact g1.elim
            | some us =>
              rw [q2] at g1
              exact ⟨ι1, us, st1, s1, pick_rel r1 q2, g1⟩
        | exc x st1 => rw [q] at g; exact g
        | bad => rw [q] at g; exact g.elim
      · cases h3
    · cases h
  · unfold chkE at h
    split at h
    · intro _; rfl
    · cases h
end
end Mp

set_option Elab.async false
set_option linter.all false
set_option maxRecDepth 100000
set_option maxHeartbeats 4000000
namespace Mp
open PySem PySem.Spec PyProof.Rows L2
/-! ### what is walked -/
def ItOk (K : PySem.W.Frag) (H : Hp) (ι : List Addr) (J : It) (xs : List PyData) : Prop := ∀ H2 ι2, Ext H ι H2 ι2 → Trk ι2 H2 →
  (∀ i d, xs[i]? = some d → J.go i H2 ∧ ∀ x H3, J.yld i H2 x H3 → Grow H2 ι2 H3 ∧ DR K (hide H3 ι2) d x) ∧ J.stop xs.length H2
def itemsR (k : Src) (ws : List W) (st : Sto) : Res (List PyData) := match itemsD k ws with
  | some xs => .ok xs st
  | none => .bad
def tI (Γ : Gam) (Wx : WX) (k : Src) (cl : Rho → Sto → Res (List W)) : TI := fun σ H R => ∃ ι ρ st, Sim Γ.K σ H ι ρ st ∧ Post Γ (fun H' ι' xs J => ItOk Γ.K H' ι' J xs) ((cl ρ st).bind fun ws st => itemsR k ws st) H ι R (WE Wx σ)
theorem PI.weak {X : Cx} {tg it : Expr} {t t' : TI} (h : PI X tg it t) (w : ∀ σ H R, t' σ H R → t σ H R) : PI X tg it t' := ⟨fun pins s σ H R I q => h.run pins s σ H R I (w _ _ _ q)⟩
theorem pi_or {X : Cx} {tg it : Expr} {t t' : TI} (h : PI X tg it t) (h' : PI X tg it t') : PI X tg it (fun σ H R => t σ H R ∨ t' σ H R) := ⟨fun pins s σ H R I q => q.elim (h.run pins s σ H R I) (h'.run pins s σ H R I)⟩
section
variable {K : PySem.W.Frag} {H : Hp} {ι : List Addr}
theorem itOk_of {J : It} {xs : List PyData} {n : Nat} {G : Hp → Prop} {Y : Nat → Hp → V → Hp → Prop} (w : Walk J n G Y) (hn : n = xs.length) (hG : ∀ H2 ι2, Ext H ι H2 ι2 → G H2)
    (hY : ∀ H2 ι2 i d x H3, Ext H ι H2 ι2 → Trk ι2 H2 → xs[i]? = some d → Y i H2 x H3 → Grow H2 ι2 H3 ∧ DR K (hide H3 ι2) d x) : ItOk K H ι J xs := by
  subst hn
  intro H2 ι2 ex tr
  refine ⟨fun i d e => ?_, w.stops H2 (hG H2 ι2 ex)⟩
  have hi : i < xs.length := (List.getElem?_eq_some_iff.mp e).1
  exact ⟨w.goes i H2 hi (hG H2 ι2 ex), fun x H3 y => hY H2 ι2 i d x H3 ex tr e (w.yields i H2 x H3 hi (hG H2 ι2 ex) y)⟩
theorem sq_ext {H' : Hp} {ι' : List Addr} {a : Addr} {vs : List V} (x : Ext H ι H' ι') (h : SqL K (hide H ι) a vs) : SqL K H' a vs := SqL.mono hide_same (SqL.mono x.same h)
theorem rd_ext {H' : Hp} {ι' : List Addr} {a : Addr} {u : HO} (x : Ext H ι H' ι') (h : Rd (hide H ι) a u) : Rd H' a u := Rd.mono hide_same (Rd.mono x.same h)
theorem sqT_ext {H' : Hp} {ι' : List Addr} {a : Addr} {vs : List V} (x : Ext H ι H' ι') (h : SqT K (hide H ι) a vs) : SqT K H' a vs := SqT.mono hide_same (SqT.mono x.same h)
theorem itOk_list {a : Addr} {ds : List PyData} {vs : List V} (h : SqL K (hide H ι) a vs) (t : DRs K (hide H ι) ds vs) : ItOk K H ι (Itl K a) ds :=
  itOk_of (walk_list (xs := vs)) t.length.symm (fun H2 ι2 x => sq_ext x h) fun H2 ι2 i d x H3 ex tr e y => by
    obtain ⟨rfl, y⟩ := y
    obtain ⟨v, e1, r⟩ := t.get e
    rw [e1] at y
    cases y
    exact ⟨.refl, r.mono ex.same⟩
theorem itOk_tup {a : Addr} {ds : List PyData} {vs : List V} (h : SqT K (hide H ι) a vs) (t : DRs K (hide H ι) ds vs) : ItOk K H ι (Itt K a) ds :=
  itOk_of (walk_tup (xs := vs)) t.length.symm (fun H2 ι2 x => sqT_ext x h) fun H2 ι2 i d x H3 ex tr e y => by
    obtain ⟨rfl, y⟩ := y
    obtain ⟨v, e1, r⟩ := t.get e
    rw [e1] at y
    cases y
    exact ⟨.refl, r.mono ex.same⟩
theorem itOk_str {z : Str} : ItOk K H ι (Its z) (z.cps.toList.map fun c => .str ⟨#[c]⟩) :=
  itOk_of walk_str (by simp) (fun _ _ _ => trivial) fun H2 ι2 i d x H3 ex tr e y => by
    obtain ⟨rfl, c, e1, rfl⟩ := y
    rw [List.getElem?_map, Array.getElem?_toList, e1] at e
    cases e
    exact ⟨.refl, .str _⟩
theorem itOk_range {lo : Int} {m : Nat} : ItOk K H ι (Itr lo m) (rangeD lo m) :=
  itOk_of walk_range (by simp [rangeD]) (fun _ _ _ => trivial) fun H2 ι2 i d x H3 ex tr e y => by
    obtain ⟨rfl, rfl⟩ := y
    unfold rangeD at e
    rw [List.getElem?_map] at e
    cases q : (List.range m)[i]? with
    | none => rw [q] at e; cases e
    | some j =>
      rw [q] at e
      obtain ⟨h1, h2⟩ := List.getElem?_eq_some_iff.mp q
      rw [List.getElem_range] at h2
      subst h2
      cases e
      exact ⟨.refl, .int _⟩
theorem itOk_rev {a : Addr} {ds : List PyData} {vs : List V} (h : SqL K (hide H ι) a vs) (t : DRs K (hide H ι) ds vs) : ItOk K H ι (Itv K a vs.length) ds.reverse :=
  itOk_of (walk_rev (xs := vs)) (by rw [List.length_reverse, t.length]) (fun H2 ι2 x => sq_ext x h) fun H2 ι2 i d x H3 ex tr e y => by
    obtain ⟨rfl, y⟩ := y
    obtain ⟨v, e1, r⟩ := t.rev.get e
    obtain ⟨h1, _⟩ := List.getElem?_eq_some_iff.mp e1
    rw [List.length_reverse] at h1
    rw [List.getElem?_reverse h1] at e1
    rw [e1] at y
    cases y
    exact ⟨.refl, r.mono ex.same⟩
theorem enumD_get : ∀ (k : Nat) (ds : List PyData) (i : Nat), (enumD k ds)[i]? = (ds[i]?).map fun d => .tuple [.int ((k + i : Nat) : Int), d]
  | _, [], _ => by simp [enumD]
  | k, d :: ds, 0 => by simp [enumD]
  | k, d :: ds, i + 1 => by
    show (enumD (k + 1) ds)[i]? = _
    rw [enumD_get (k + 1) ds i]
    simp [Nat.add_assoc, Nat.add_comm 1 i]
theorem enumD_len : ∀ (k : Nat) (ds : List PyData), (enumD k ds).length = ds.length
  | _, [] => rfl
  | k, d :: ds => by
    show (enumD (k + 1) ds).length + 1 = _
    rw [enumD_len (k + 1) ds]
    rfl
theorem pair_new {H2 H3 : Hp} {ι2 : List Addr} {T : Addr} {x y : V} {d e : PyData} (tr : Trk ι2 H2) (n : H2 T = none) (eH : H3 = upd H2 T (.tup [x, y])) (rx : DR K (hide H2 ι2) d x) (ry : DR K (hide H2 ι2) e y) :
    Grow H2 ι2 H3 ∧ DR K (hide H3 ι2) (.tuple [d, e]) (.ref T) := by
  subst eH
  have g := grow_new (o := .tup [x, y]) tr n
  exact ⟨g, .tup (.inl (.inl (hide_new tr n))) (.cons (rx.mono g.same) (.cons (ry.mono g.same) .nil))⟩
theorem itOk_enum {J : It} {G : Hp → Prop} {ds : List PyData} {vs : List V} (w : Walk J vs.length G (YPair (fun i => some (.int (i : Nat))) (fun i => vs[i]?))) (hG : ∀ H2 ι2, Ext H ι H2 ι2 → G H2) (t : DRs K (hide H ι) ds vs) : ItOk K H ι J (enumD 0 ds) :=
  itOk_of w (by rw [enumD_len, t.length]) hG fun H2 ι2 i d x H3 ex tr e y => by
    obtain ⟨T, u, v, rfl, n, eH, e1, e2⟩ := y
    rw [enumD_get] at e
    cases q : ds[i]? with
    | none => rw [q] at e; cases e
    | some d' =>
      rw [q] at e
      obtain ⟨v', e3, r⟩ := t.get q
      have e2 : vs[i]? = some v := e2
      rw [e3] at e2
      cases e1
      cases e2
      have ed : d = .tuple [.int (i : Int), d'] := by
        have := Option.some.inj e
        rw [← this]
        simp
      subst ed
      exact pair_new tr n eH (.int _) (r.mono ex.same)
theorem zipD_get : ∀ (xs ys : List PyData) (i : Nat) (d : PyData), (zipD xs ys)[i]? = some d → ∃ a b, xs[i]? = some a ∧ ys[i]? = some b ∧ d = .tuple [a, b]
  | [], _, i, d, e => by simp [zipD] at e
  | _ :: _, [], i, d, e => by simp [zipD] at e
  | x :: xs, y :: ys, 0, d, e => by
    simp [zipD] at e
    exact ⟨x, y, rfl, rfl, e.symm⟩
  | x :: xs, y :: ys, i + 1, d, e => zipD_get xs ys i d e
theorem zipD_len : ∀ (xs ys : List PyData), (zipD xs ys).length = min xs.length ys.length
  | [], _ => by simp [zipD]
  | _ :: _, [] => by simp [zipD]
  | x :: xs, y :: ys => by
    show (zipD xs ys).length + 1 = _
    rw [zipD_len xs ys]
    simp only [List.length_cons]
    omega
theorem itOk_zip {a b : Addr} {ds es : List PyData} {vs us : List V} (h : SqL K (hide H ι) a vs) (t : DRs K (hide H ι) ds vs) (h' : SqL K (hide H ι) b us) (t' : DRs K (hide H ι) es us) : ItOk K H ι (Itz K a b) (zipD ds es) :=
  itOk_of (walk_zip (xs := vs) (ys := us) rfl) (by rw [zipD_len, t.length, t'.length]) (fun H2 ι2 x => ⟨sq_ext x h, sq_ext x h'⟩) fun H2 ι2 i d x H3 ex tr e y => by
    obtain ⟨T, u, v, rfl, n, eH, e1, e2⟩ := y
    obtain ⟨p, q, e3, e4, rfl⟩ := zipD_get _ _ _ _ e
    obtain ⟨v1, f1, r1⟩ := t.get e3
    obtain ⟨v2, f2, r2⟩ := t'.get e4
    have e1 : vs[i]? = some u := e1
    have e2 : us[i]? = some v := e2
    rw [f1] at e1
    rw [f2] at e2
    cases e1
    cases e2
    exact pair_new tr n eH (r1.mono ex.same) (r2.mono ex.same)
end
section
variable {Γ : Gam} {S : Stat} {n : Nat} {N : List Str}
theorem items_inv {k : Src} {ws : List W} {st : Sto} {H : Hp} {ι : List Addr} {R : It → Hp → Prop} {E : XK} (h : Post Γ (fun H' ι' xs J => ItOk Γ.K H' ι' J xs) (itemsR k ws st) H ι R E) : ∃ xs, itemsD k ws = some xs ∧ ∀ J, StR Γ.K H ι st → ItOk Γ.K H ι J xs → R J H := by
  unfold itemsR at h
  split at h
  · exact ⟨_, by assumption, fun J s i => h J H ι .refl s i⟩
  · exact h.elim
theorem list_of {x : W} {v : V} {H : Hp} {ι : List Addr} {ds : List PyData} (r : WR Γ.K H ι (.d (.list ds)) v) : ∃ a vs, v = .ref a ∧ SqL Γ.K (hide H ι) a vs ∧ DRs Γ.K (hide H ι) ds vs := by
  cases r with
  | lst h t => exact ⟨_, _, rfl, h, t⟩
theorem rng_iff {i : Int} (h : rngOk i = true) : -(2 ^ 62) ≤ i ∧ i < 2 ^ 62 := by
  unfold rngOk at h
  rw [Bool.and_eq_true] at h
  exact ⟨of_decide_eq_true h.1, of_decide_eq_true h.2⟩
theorem seq_pi {X : Cx} {sc : Scope} {Wx : WX} {tg e : Expr} {x : E} (c : Cok Γ S n X N sc Wx) (p : PE X e (tE Γ Wx (evE (callF Γ.FT n) x))) : PI X tg e (tI Γ Wx .seq (evEs (callF Γ.FT n) (.cons x .nil))) := by
  refine PI.weak (pi_or (pi_list p) (pi_or (pi_tup p) (pi_str p))) fun σ H R ⟨ι, ρ, st, s, g⟩ => ?_
  have e1 : ((evEs (callF Γ.FT n) (.cons x .nil) ρ st).bind fun ws st => itemsR .seq ws st) = (evE (callF Γ.FT n) x ρ st).bind fun w st => itemsR .seq [w] st := by
    simp only [evEs, bind_bind]
    rfl
  rw [e1] at g
  rw [c.hK]
  have go : ∀ (P : V → Hp → Prop), (∀ w st1 v H1 ι1, evE (callF Γ.FT n) x ρ st = .ok w st1 → Ext H ι H1 ι1 → StR Γ.K H1 ι1 st1 → WR Γ.K H1 ι1 w v → Post Γ (fun H' ι' xs J => ItOk Γ.K H' ι' J xs) (itemsR .seq [w] st1) H1 ι1 R (WE Wx σ) → P v H1) → tE Γ Wx (evE (callF Γ.FT n) x) σ H P := by
    intro P hP
    refine ⟨ι, ρ, st, s, ?_⟩
    cases q : evE (callF Γ.FT n) x ρ st with
    | ok w st1 =>
      rw [q] at g
      exact fun v H1 ι1 x1 s1 r1 => hP w st1 v H1 ι1 q x1 s1 r1 (Post.shift x1 g)
    | exc z st1 => rw [q] at g; exact g
    | bad => rw [q] at g; exact g.elim
  cases q : evE (callF Γ.FT n) x ρ st with
  | exc z st1 =>
    refine .inl (go _ fun w st1' v H1 ι1 e => ?_)
    rw [q] at e
    cases e
  | bad => rw [q] at g; exact g.elim
  | ok w st1 =>
    cases w with
    | loc m => rw [q] at g; exact g.elim
    | d a =>
      cases a with
      | list ds =>
        refine .inl (go _ fun w st1' v H1 ι1 e x1 s1 r1 g1 => ?_)
        rw [q] at e
        cases e
        obtain ⟨xs, e2, k⟩ := items_inv g1
        cases e2
        cases r1 with
        | lst h t => exact ⟨_, rfl, ⟨_, SqL.mono hide_same h⟩, k _ s1 (itOk_list h t)⟩
      | tuple ds =>
        refine .inr (.inl (go _ fun w st1' v H1 ι1 e x1 s1 r1 g1 => ?_))
        rw [q] at e
        cases e
        obtain ⟨xs, e2, k⟩ := items_inv g1
        cases e2
        cases r1 with
        | tup h t => exact ⟨_, rfl, ⟨_, SqT.full h⟩, k _ s1 (itOk_tup h t)⟩
      | str z =>
        refine .inr (.inr (go _ fun w st1' v H1 ι1 e x1 s1 r1 g1 => ?_))
        rw [q] at e
        cases e
        obtain ⟨xs, e2, k⟩ := items_inv g1
        cases e2
        cases r1
        exact ⟨z, rfl, k _ s1 itOk_str⟩
      | none => rw [q] at g; exact g.elim
      | bool _ => rw [q] at g; exact g.elim
      | int _ => rw [q] at g; exact g.elim
      | dict _ => rw [q] at g; exact g.elim
end
end Mp

set_option Elab.async false
set_option linter.all false
set_option maxRecDepth 100000
set_option maxHeartbeats 4000000
namespace Mp
open PySem PySem.Spec PyProof.Rows L2
/-! ### enumerate(tuple) -/
theorem enum_new1 {v : Value} {ob : Obj} {HH : Heap → Prop} (B : Begins v ob HH) :
    Meets (Builtin.«enumerate.__new__» ⟨[.type "enumerate", v], []⟩) (fun _ R s => HH s.heap ∧
      R (.ok (.ret (.ref (s.heap.push ob).objs.size))) { s with heap := (s.heap.push ob).push { cls := .type "enumerate", data := .fields #[.none, .bool false, .ref s.heap.objs.size, rawInt 0, .none, .none] } }) :=
  .of_wp fun prog w A R s hh => by
    obtain ⟨hp, gg, dd, tt, oo⟩ := s
    obtain ⟨h0, hh⟩ := hh
    have hsub := sub_enumerate
    have it1 : ∀ {A' : Around} {E : Value → Shared → Prop} {Q : Value → Shared → Prop}, Q (.ref hp.objs.size) ⟨hp.push ob, gg, dd, tt, oo⟩ → wpAny (model prog w) A' (pyIter v) Q E ⟨hp, gg, dd, tt, oo⟩ :=
      fun q => B.iter prog w _ _ ⟨hp, gg, dd, tt, oo⟩ _ h0 q
    wp_walk using it1
    refine wpAny_stack_any fun sk => wpAny_pure ?_
    split
    · rename_i c _ _ _ _ _
      cases (c == Value.type "enumerate")
      · wp_walk using it1
        exact ⟨_, rfl, hh⟩
      · wp_walk using it1
        exact ⟨_, rfl, hh⟩
    · wp_walk using it1
      exact ⟨_, rfl, hh⟩
theorem call_enumT {prog : Program} {w : World} {A : Around} {E : Value → Shared → Prop} {s : Shared} {t : Addr} {items : Array Value} {Q : Value → Shared → Prop} (hT : s.heap.IsTuple t items)
    (h : ∀ h', IsEnum h' (s.heap.objs.size + 1) s.heap.objs.size 0 .none → h'.IsTupleIter s.heap.objs.size t 0 → h'.objs.size = s.heap.objs.size + 2 →
      (∀ b o, s.heap.get? b = some o → h'.get? b = some o) → Q (.ref (s.heap.objs.size + 1)) { s with heap := h' }) :
    wpAny (model prog w) A (call (.type "enumerate") [.ref t]) Q E s := by
  refine callType_new F.called_enumerate (by decide) (F.typeCall_enumerate_1 _) (F.newCall_enumerate_1 _) (fun obj => F.args_object_init_2 obj _) F.entry_enumerate_new (enum_new1 (begins_tuple t items)) ⟨hT, ?_⟩
  have hz : (s.heap.push { cls := .type "tuple_iterator", data := .fields #[.ref t, .int 0 0] }).objs.size = s.heap.objs.size + 1 := Heap.size_push ..
  show _ ∧ _
  rw [hz]
  have he : IsEnum ((s.heap.push { cls := .type "tuple_iterator", data := .fields #[.ref t, .int 0 0] }).push { cls := .type "enumerate", data := .fields #[.none, .bool false, .ref s.heap.objs.size, rawInt 0, .none, .none] }) (s.heap.objs.size + 1) s.heap.objs.size 0 .none := by
    have q := Heap.get?_push_size (s.heap.push { cls := .type "tuple_iterator", data := .fields #[.ref t, .int 0 0] }) (o := { cls := .type "enumerate", data := .fields #[.none, .bool false, .ref s.heap.objs.size, rawInt 0, .none, .none] }) rfl
    rw [hz] at q
    exact q
  exact ⟨⟨_, he, rfl⟩, h _ he ⟨_, Heap.get?_push_of_some _ (Heap.get?_push_size _ rfl), rfl, rfl⟩ (by rw [Heap.size_push, hz]) fun b o x => Heap.get?_push_of_some _ (Heap.get?_push_of_some _ x)⟩
/-- the tuple at a of m items, each item in a new pair -/
def IteT (K : PySem.W.Frag) (a : Addr) (m : Nat) : It :=
  ⟨fun i H => ∃ (ys : List V) (y : V), SqT K H a ys ∧ ys[i]? = some y ∧ ys.length = m, fun i H v H' => ∃ T y, v = .ref T ∧ H T = none ∧ H' = upd H T (.tup [.int (i : Nat), y]) ∧ ∀ ys, SqT K H a ys → ys[i]? = some y, fun i H => ∃ ys : List V, SqT K H a ys ∧ ys.length = m ∧ m ≤ i⟩
theorem walk_enumT {K : PySem.W.Frag} {a : Addr} {xs : List V} : Walk (IteT K a xs.length) xs.length (fun H => SqT K H a xs) (YPair (fun i => some (.int (i : Nat))) (fun i => xs[i]?)) := by
  refine ⟨fun i H hi q => ⟨xs, xs[i], q, by simp [hi], rfl⟩, fun H q => ⟨xs, q, rfl, Nat.le_refl _⟩, fun i H v H' _ q y => ?_⟩
  obtain ⟨T, x, h1, h2, h3, h4⟩ := y
  exact ⟨T, .int (i : Nat), x, h1, h2, h3, rfl, h4 xs q⟩
theorem turn_enumT {P : Program} {w : World} {K : PySem.W.Frag} {elts : List Expr} {kk : Nat} {tpos : Pos} (a e it : Addr) (m : Nat) :
    Turn P w K (.Tuple elts kk tpos) (IteT K a m) [e, it] e (fun i h => (∃ old, IsEnum h e it ((i : Nat) : Int) old) ∧ h.IsTupleIter it a i ∧ e ≠ it ∧ a ≠ e ∧ a ≠ it ∧ i ≤ m) where
  mem := by simp
  obj := fun i h st b hb => by
    obtain ⟨⟨old, he⟩, ⟨o, ho, hc, hd⟩, _⟩ := st
    rcases (show b = e ∨ b = it by simpa using hb) with z | z
    · rw [z]
      exact ⟨_, he, fun v q => nomatch q⟩
    · rw [z]
      exact ⟨o, ho, fun v q => by rw [hd] at q; cases q⟩
  keep := fun i h h' st k => let ⟨⟨old, he⟩, hi, hne⟩ := st; ⟨⟨old, k e (by simp) _ he⟩, hi.at fun o q => k it (by simp) o q, hne⟩
  item := by
    intro X hP hw hK hc i pins s σ H E I hf st hg
    subst hP hw hK
    obtain ⟨⟨old, he⟩, hit, hne, hae, hai, him⟩ := st
    obtain ⟨ys, y, hq, hy, hm⟩ := hg
    obtain ⟨its, rv, p, hz⟩ := I.tuple hq
    obtain ⟨u, hu, ru⟩ := rv.get hy
    have hel : e < s.heap.objs.size := Heap.lt_size he
    have hil : it < s.heap.objs.size := by obtain ⟨_, q, _⟩ := hit; exact Heap.lt_size q
    have hlt : i < its.toArray.size := by
      have := (List.getElem?_eq_some_iff.mp hu).1
      simpa using this
    refine wpAny_pyNext_enum_itemC (Draws.tuple (show X.A.in1.handled = none from I.ok.hd hc) it a hai its.toArray) he ⟨hit, p⟩ hlt hne (by simp [hne, Ne.symm hae]) fun x h' tk hP ho hs' hT hsz hk => ?_
    have ex : x = u := by
      have h1 : its.toArray[i]? = some x := hP
      have h2 : its.toArray[i]? = some u := by simpa using hu
      rw [h1] at h2
      exact Option.some.inj h2
    subst ex
    refine ⟨_, rfl, wpAny_letOwnedTupleGo_enum (s := { s with heap := h', toks := tk + 1 }) ho fun h'' he' sb => ?_⟩
    have hT2 : h''.get? s.heap.objs.size = some { cls := .type "tuple", data := .seq #[.int i tk, x] } := (sb.2 _ (Nat.ne_of_gt hel)).trans hT
    have new : ObjOk X.prog X.w (upd H s.heap.objs.size (.tup [.int (i : Nat), y])) h'' s.heap.objs.size (.tup [.int (i : Nat), y]) :=
      ⟨by show 2 ≤ sizeLine; decide, [.int i tk, x], .cons ⟨_, rfl⟩ (.cons ru .nil), ⟨_, hT2, rfl, _, rfl⟩⟩
    have I1 : Inv X pins σ (upd H s.heap.objs.size (.tup [.int (i : Nat), y])) { s with heap := h'', toks := tk + 1 } :=
      I.turnedNew (ch := [e, it]) (fun b ob hb q => (sb.2 b (fun z => hb (by simp [z]))).trans (hk b ob (fun z => hb (by simp [z])) (fun z => hb (by simp [z])) q)) hf (Nat.le_refl _) new
    refine ⟨.ref s.heap.objs.size, _, I1, rfl, ⟨_, y, rfl, I.hok.fresh (Nat.le_refl _), rfl, fun zs hz' => by rw [I.tuple_inj hz' hq]; exact hy⟩, ⟨⟨x, ?_⟩, hs'.1.at fun o q => (sb.2 it (Ne.symm hne)).trans q, hne, hae, hai, by rw [← hm]; exact (List.getElem?_eq_some_iff.mp hy).1⟩, fun b hb => ?_⟩
    · rw [show ((i + 1 : Nat) : Int) = (i : Int) + 1 by omega]
      exact he'
    · have hb' : b < s.heap.objs.size := by
        rcases (show b = e ∨ b = it by simpa using hb) with z | z
        · rw [z]; exact hel
        · rw [z]; exact hil
      rw [upd_ne (Nat.ne_of_lt hb')]
      exact (hf b hb).1
  done := by
    intro X hP hw hK hc i pins s σ H E I hf st hg
    subst hP hw hK
    obtain ⟨⟨old, he⟩, hit, hne, hae, hai, him⟩ := st
    obtain ⟨ys, hq, hm, hy⟩ := hg
    obtain ⟨its, rv, p, hz⟩ := I.tuple hq
    obtain ⟨f0, f1, f2, f3, f4, f5⟩ := hf it (by simp)
    have hl := rv.length
    have ei : i = its.toArray.size := by rw [List.size_toArray]; omega
    subst ei
    exact wpAny_pyNext_enum_endD (Draws.tuple (show X.A.in1.handled = none from I.ok.hd hc) it a hai its.toArray) he ⟨hit, p⟩ fun h' eb => ⟨rfl, I.turned (t' := s.toks) (fun b o hb q => eb b o hb q) f0 f1 f3 f4 f5⟩
  self := fun A i s Q E st h => let ⟨⟨_, he⟩, _⟩ := st; wpAny_pyIter_enum he h
def iEnumT (K : PySem.W.Frag) (ta : TA) : TI := fun σ H R => ta σ H fun vs H1 => ∃ a xs, vs = [.ref a] ∧ SqT K H1 a xs ∧ R (IteT K a xs.length) H1
theorem pi_enumT {X : Cx} {e : Expr} {ta : TA} {p pos tpos : Pos} {elts : List Expr} {kk : Nat} (hg : Gl X "enumerate") (hm : X.mg "enumerate" = none) (ha : PA X [e] ta) (hs : starEach [e] X.env = [(false, eval e X.env)]) :
    PI X (.Tuple elts kk tpos) (.Call (.Name "enumerate" p) [e] [] pos) (iEnumT X.K ta) := by
  refine ⟨fun pins s σ H R I h => ?_⟩
  refine Call_ (ld_blt I hg hm boot_enumerate (PyProof.Rows.callWith_type1 (thn (ha.run pos pins s σ H _ I h) fun us s1 ⟨vs, H1, I1, r1, q1⟩ => ?_) hs rfl))
  obtain ⟨a, xs, ex, hq, q⟩ := q1
  subst ex
  obtain ⟨u, rfl, r⟩ := vals1' r1
  cases r
  obtain ⟨its, rv, tp, hz⟩ := I1.tuple hq
  have hal : a < s1.heap.objs.size := by obtain ⟨o, ho, _⟩ := tp; exact Heap.lt_size ho
  refine call_enumT tp fun h' he hit hsz hk => wpAny_pyIter_enum he ?_
  have I2 : Inv X pins σ H1 { s1 with heap := h' } := I1.kept (t' := s1.toks) hk
  refine ⟨s1.heap.objs.size + 1, [s1.heap.objs.size + 1, s1.heap.objs.size], _, _, H1, rfl, I2, turn_enumT a (s1.heap.objs.size + 1) s1.heap.objs.size xs.length,
    ⟨⟨.none, he⟩, hit, Nat.succ_ne_self _, Nat.ne_of_lt (Nat.lt_succ_of_lt hal), Nat.ne_of_lt hal, Nat.zero_le _⟩, fun b hb => ?_, q⟩
  have hle : s1.heap.objs.size ≤ b := by
    rcases (show b = s1.heap.objs.size + 1 ∨ b = s1.heap.objs.size by simpa using hb) with z | z
    · rw [z]; exact Nat.le_add_right _ _
    · rw [z]; exact Nat.le_refl _
  exact I1.fpOk hle (I1.hok.fresh hle)
end Mp

set_option Elab.async false
set_option linter.all false
set_option maxRecDepth 100000
set_option maxHeartbeats 4000000
namespace Mp
open PySem PySem.Spec PyProof.Rows L2
section
variable {Γ : Gam} {S : Stat} {n : Nat} {N : List Str}
theorem wrs1 {K : PySem.W.Frag} {H : Hp} {ι : List Addr} {w : W} {vs : List V} (r : WRs K H ι [w] vs) : ∃ v, vs = [v] ∧ WR K H ι w v := by
  cases r with
  | cons a b =>
    cases b
    exact ⟨_, rfl, a⟩
theorem wrs2 {K : PySem.W.Frag} {H : Hp} {ι : List Addr} {w u : W} {vs : List V} (r : WRs K H ι [w, u] vs) : ∃ v v', vs = [v, v'] ∧ WR K H ι w v ∧ WR K H ι u v' := by
  cases r with
  | cons a b =>
    obtain ⟨v', rfl, r'⟩ := wrs1 b
    exact ⟨_, v', rfl, a, r'⟩
theorem src_many {X : Cx} {sc : Scope} {Wx : WX} {k : Src} {cl : Rho → Sto → Res (List W)} {σ : L2.St} {H : Hp} {R : It → Hp → Prop} {r : List V → Hp → (It → Hp → Prop) → Prop}
    (hr : ∀ ws vs st H1 ι1 xs, StR Γ.K H1 ι1 st → WRs Γ.K H1 ι1 ws vs → itemsD k ws = some xs → (∀ J, ItOk Γ.K H1 ι1 J xs → R J H1) → r vs H1 R) (g : tI Γ Wx k cl σ H R) : tA Γ Wx cl σ H fun vs H1 => r vs H1 R := by
  obtain ⟨ι, ρ, st, s, g⟩ := g
  refine ⟨ι, ρ, st, s, Post.bind g fun ws st1 vs H1 ι1 x1 s1 r1 q1 => ?_⟩
  obtain ⟨xs, e, q⟩ := items_inv q1
  exact hr ws vs st1 H1 ι1 xs s1 r1 e fun J i => q J s1 i
theorem items1 {k : Src} {ws : List W} {xs : List PyData} (hk : k = .range1 ∨ k = .enum ∨ k = .rev) (e : itemsD k ws = some xs) : ∃ a, ws = [.d a] := by
  rcases hk with rfl | rfl | rfl
  all_goals
    rcases ws with _ | ⟨w, _ | ⟨u, r⟩⟩
    · cases e
    · cases w with
      | loc m => cases e
      | d a => exact ⟨a, rfl⟩
    · cases w with
      | loc m => cases e
      | d a => cases a <;> cases e
theorem items_range1 {ws : List W} {xs : List PyData} (e : itemsD .range1 ws = some xs) : ∃ j, ws = [.d (.int j)] ∧ rngOk j = true ∧ xs = rangeD 0 j.toNat := by
  obtain ⟨a, rfl⟩ := items1 (.inl rfl) e
  cases a with
  | int j =>
    obtain ⟨e1, e2⟩ := ite_some (show (if rngOk j = true then some (rangeD 0 j.toNat) else none) = some xs from e)
    exact ⟨j, rfl, e1, e2.symm⟩
  | _ => cases e
theorem items_enum {ws : List W} {xs : List PyData} (e : itemsD .enum ws = some xs) : ∃ ds, xs = enumD 0 ds ∧ (ws = [.d (.list ds)] ∨ ws = [.d (.tuple ds)]) := by
  obtain ⟨a, rfl⟩ := items1 (.inr (.inl rfl)) e
  cases a with
  | list ds => cases e; exact ⟨ds, rfl, .inl rfl⟩
  | tuple ds => cases e; exact ⟨ds, rfl, .inr rfl⟩
  | _ => cases e
theorem items_rev {ws : List W} {xs : List PyData} (e : itemsD .rev ws = some xs) : ∃ ds, ws = [.d (.list ds)] ∧ xs = ds.reverse := by
  obtain ⟨a, rfl⟩ := items1 (.inr (.inr rfl)) e
  cases a with
  | list ds => cases e; exact ⟨ds, rfl, rfl⟩
  | _ => cases e
theorem items2 {k : Src} {ws : List W} {xs : List PyData} (hk : k = .range2 ∨ k = .zip) (e : itemsD k ws = some xs) : ∃ a b, ws = [.d a, .d b] := by
  rcases hk with rfl | rfl
  all_goals
    rcases ws with _ | ⟨w, _ | ⟨u, _ | ⟨t, r⟩⟩⟩
    · cases e
    · cases w with
      | loc m => cases e
      | d a => cases a <;> cases e
    · cases w with
      | loc m => cases e
      | d a =>
        cases u with
        | loc m => cases a <;> cases e
        | d b => exact ⟨a, b, rfl⟩
    · cases w with
      | loc m => cases e
      | d a =>
        cases u with
        | loc m => cases a <;> cases e
        | d b => cases a <;> first | (cases e; done) | (cases b <;> cases e)
theorem items_range2 {ws : List W} {xs : List PyData} (e : itemsD .range2 ws = some xs) : ∃ i j, ws = [.d (.int i), .d (.int j)] ∧ (rngOk i && rngOk j) = true ∧ xs = rangeD i (j - i).toNat := by
  obtain ⟨a, b, rfl⟩ := items2 (.inl rfl) e
  cases a with
  | int i =>
    cases b with
    | int j =>
      obtain ⟨e1, e2⟩ := ite_some (show (if (rngOk i && rngOk j) = true then some (rangeD i (j - i).toNat) else none) = some xs from e)
      exact ⟨i, j, rfl, e1, e2.symm⟩
    | _ => cases e
  | _ => cases e
theorem items_zip {ws : List W} {xs : List PyData} (e : itemsD .zip ws = some xs) : ∃ as bs, ws = [.d (.list as), .d (.list bs)] ∧ xs = zipD as bs := by
  obtain ⟨a, b, rfl⟩ := items2 (.inr rfl) e
  cases a with
  | list as =>
    cases b with
    | list bs => cases e; exact ⟨as, bs, rfl, rfl⟩
    | _ => cases e
  | _ => cases e
theorem src_pi {k : Src} {es : Es} (h : EsAll (Snd Γ S n N) es) {X : Cx} {sc : Scope} {Wx : WX} {tg e : Expr} (c : Cok Γ S n X N sc Wx) (q : chkSrc S N k es sc tg e = true) : PI X tg e (tI Γ Wx k (evEs (callF Γ.FT n) es)) := by
  have bl := fun y hy => c.facts.bl y hy
  cases k with
  | seq =>
    unfold chkSrc at q
    dsimp only at q
    obtain ⟨x, rfl, hx, qx⟩ := one_E h q
    exact seq_pi c (hx.pe X sc Wx e c qx)
  | range1 =>
    unfold chkSrc at q
    dsimp only at q
    split at q
    · simp only [Bool.and_eq_true] at q
      obtain ⟨⟨q1, q2⟩, q3⟩ := q
      have e1 := of_decide_eq_true q1
      subst e1
      obtain ⟨st, _⟩ := chks_star q3
      refine PI.weak (pi_range1 (c.glo q2) (bl _ (by decide)) (pa_of h c q3) (st _)) fun σ H R g => src_many (X := X) (sc := sc) (r := fun vs H1 R => ∃ j : Int, vs = [.int j] ∧ -(2 ^ 62) ≤ j ∧ j < 2 ^ 62 ∧ R (Itr 0 j.toNat) H1) (fun ws vs st H1 ι1 xs s1 r1 e k => ?_) g
      obtain ⟨j, rfl, e1, rfl⟩ := items_range1 e
      obtain ⟨v, rfl, r⟩ := wrs1 r1
      cases r
      obtain ⟨b1, b2⟩ := rng_iff e1
      exact ⟨j, rfl, b1, b2, k _ itOk_range⟩
    · cases q
  | range2 =>
    unfold chkSrc at q
    dsimp only at q
    split at q
    · simp only [Bool.and_eq_true] at q
      obtain ⟨⟨q1, q2⟩, q3⟩ := q
      have e1 := of_decide_eq_true q1
      subst e1
      obtain ⟨st, _⟩ := chks_star q3
      have st2 : ∀ env, starEach [_] env = [(false, eval _ env)] := fun env => by
        obtain ⟨x, y, e, _, _, _, qy⟩ := two_E h q3
        exact chk_star qy [] env
      refine PI.weak (pi_range2 (c.glo q2) (bl _ (by decide)) (pa_of h c q3) (by rw [st, st2]) (st2 _)) fun σ H R g => src_many (X := X) (sc := sc) (r := fun vs H1 R => ∃ i j : Int, vs = [.int i, .int j] ∧ (-(2 ^ 62) ≤ i ∧ i < 2 ^ 62 ∧ -(2 ^ 62) ≤ j ∧ j < 2 ^ 62) ∧ R (Itr i (j - i).toNat) H1) (fun ws vs st H1 ι1 xs s1 r1 e k => ?_) g
      obtain ⟨i, j, rfl, e1, rfl⟩ := items_range2 e
      obtain ⟨v, v', rfl, r, r'⟩ := wrs2 r1
      cases r
      cases r'
      rw [Bool.and_eq_true] at e1
      obtain ⟨b1, b2⟩ := rng_iff e1.1
      obtain ⟨b3, b4⟩ := rng_iff e1.2
      exact ⟨i, j, rfl, ⟨b1, b2, b3, b4⟩, k _ itOk_range⟩
    · cases q
  | enum =>
    unfold chkSrc at q
    dsimp only at q
    split at q
    · simp only [Bool.and_eq_true] at q
      obtain ⟨⟨⟨q1, q2⟩, q3⟩, q4⟩ := q
      have e1 := of_decide_eq_true q1
      subst e1
      obtain ⟨st, _⟩ := chks_star q4
      unfold plainTE at q3
      split at q3
      · refine PI.weak (pi_or (pi_enum (c.glo q2) (bl _ (by decide)) (pa_of h c q4) (st _)) (pi_enumT (c.glo q2) (bl _ (by decide)) (pa_of h c q4) (st _))) fun σ H R g => ?_
        rw [c.hK]
        obtain ⟨ι, ρ, st0, s, g⟩ := g
        cases t : evEs (callF Γ.FT n) es ρ st0 with
        | exc x st1 => rw [t] at g; exact .inl ⟨ι, ρ, st0, s, by rw [t]; exact g⟩
        | bad => rw [t] at g; exact g.elim
        | ok ws st1 =>
          rw [t] at g
          have g : Post Γ (fun H' ι' xs J => ItOk Γ.K H' ι' J xs) (itemsR .enum ws st1) H ι R (WE Wx σ) := g
          cases it : itemsD .enum ws with
          | none => unfold itemsR at g; rw [it] at g; exact g.elim
          | some xs =>
            have it0 := it
            obtain ⟨es', rfl, e1 | e1⟩ := items_enum it <;> subst e1
            · refine .inl ⟨ι, ρ, st0, s, ?_⟩
              rw [t]
              intro vs H1 ι1 x1 s1 r1
              obtain ⟨ys, e, k⟩ := items_inv (Post.shift x1 g)
              rw [it0] at e
              cases e
              obtain ⟨v, rfl, r⟩ := wrs1 r1
              cases r with
              | lst h t => exact ⟨_, _, rfl, SqL.mono hide_same h, k _ s1 (itOk_enum (walk_enum) (fun H2 ι2 x => sq_ext x h) t)⟩
            · refine .inr ⟨ι, ρ, st0, s, ?_⟩
              rw [t]
              intro vs H1 ι1 x1 s1 r1
              obtain ⟨ys, e, k⟩ := items_inv (Post.shift x1 g)
              rw [it0] at e
              cases e
              obtain ⟨v, rfl, r⟩ := wrs1 r1
              cases r with
              | tup h t => exact ⟨_, _, rfl, SqT.full h, k _ s1 (itOk_enum walk_enumT (fun H2 ι2 x => sqT_ext x h) t)⟩
      · cases q3
    · cases q
  | zip =>
    unfold chkSrc at q
    dsimp only at q
    split at q
    · simp only [Bool.and_eq_true] at q
      obtain ⟨⟨⟨q1, q2⟩, q3⟩, q4⟩ := q
      have e1 := of_decide_eq_true q1
      subst e1
      obtain ⟨st, pl⟩ := chks_star q4
      have st2 : ∀ env, starEach [_] env = [(false, eval _ env)] := fun env => by
        obtain ⟨x, y, e, _, _, _, qy⟩ := two_E h q4
        exact chk_star qy [] env
      unfold plainTE at q3
      split at q3
      · refine PI.weak (pi_zip (c.glo q2) (bl _ (by decide)) (pa_of h c q4) (st _) (pl _ _)) fun σ H R g => ?_
        rw [c.hK]
        refine src_many (X := X) (sc := sc) (r := fun vs H1 R => ∃ a b xs ys, vs = [.ref a, .ref b] ∧ SqL Γ.K H1 a xs ∧ SqL Γ.K H1 b ys ∧ R (Itz Γ.K a b) H1) (fun ws vs st H1 ι1 xs s1 r1 e k => ?_) g
        obtain ⟨as, bs, rfl, rfl⟩ := items_zip e
        obtain ⟨v, v', rfl, r, r'⟩ := wrs2 r1
        cases r with
        | lst h t =>
          cases r' with
          | lst h' t' => exact ⟨_, _, _, _, rfl, SqL.mono hide_same h, SqL.mono hide_same h', k _ (itOk_zip h t h' t')⟩
      · cases q3
    · cases q
  | rev =>
    unfold chkSrc at q
    dsimp only at q
    split at q
    · simp only [Bool.and_eq_true] at q
      obtain ⟨⟨q1, q2⟩, q3⟩ := q
      have e1 := of_decide_eq_true q1
      subst e1
      obtain ⟨st, _⟩ := chks_star q3
      refine PI.weak (pi_reversed (c.glo q2) (bl _ (by decide)) (pa_of h c q3) (st _)) fun σ H R g => ?_
      rw [c.hK]
      refine src_many (X := X) (sc := sc) (r := fun vs H1 R => ∃ (a : Addr) (xs : List V), vs = [.ref a] ∧ SqL Γ.K H1 a xs ∧ R (Itv Γ.K a xs.length) H1) (fun ws vs st H1 ι1 xs s1 r1 e k => ?_) g
      obtain ⟨ds, rfl, rfl⟩ := items_rev e
      obtain ⟨v, rfl, r⟩ := wrs1 r1
      cases r with
      | lst h t => exact ⟨_, _, rfl, SqL.mono hide_same h, k _ (itOk_rev h t)⟩
    · cases q
end
end Mp

set_option Elab.async false
set_option linter.all false
set_option maxRecDepth 100000
set_option maxHeartbeats 4000000
namespace Mp
open PySem PySem.Spec PyProof.Rows L2
/-! ### targets -/
def setV (σ : L2.St) : List Nat → List V → L2.St
  | i :: is, v :: vs => setV (σ.set i (some v)) is vs
  | _, _ => σ
theorem setV_out : ∀ (is : List Nat) (vs : List V) (σ : L2.St) (j : Nat), j ∉ is → (setV σ is vs)[j]? = σ[j]?
  | [], _, σ, j, _ => by simp [setV]
  | _ :: _, [], σ, j, _ => by simp [setV]
  | i :: is, v :: vs, σ, j, h => by
    rw [List.mem_cons, not_or] at h
    unfold setV
    rw [setV_out is vs _ j h.2, List.getElem?_set_ne (Ne.symm h.1)]
theorem setV_len : ∀ (is : List Nat) (vs : List V) (σ : L2.St), (setV σ is vs).length = σ.length
  | [], _, σ => by simp [setV]
  | _ :: _, [], σ => by simp [setV]
  | i :: is, v :: vs, σ => by
    unfold setV
    rw [setV_len is vs, List.length_set]
theorem RhoR.many {K : PySem.W.Frag} {H : Hp} {ι : List Addr} : ∀ {is : List Nat} {xs : List PyData} {vs : List V} {ρ : Rho} {σ : L2.St}, RhoR K H ι ρ σ → DRs K (hide H ι) xs vs → RhoR K H ι (setMany ρ is xs) (setV σ is vs)
  | [], xs, vs, ρ, σ, h, _ => by simp only [setMany, setV]; exact h
  | _ :: _, [], [], ρ, σ, h, _ => by simp only [setMany, setV]; exact h
  | i :: is, x :: xs, v :: vs, ρ, σ, h, .cons r t => by
    unfold setMany setV
    exact RhoR.many (h.set (w := .d x) r i) t
/-- a target by the semantics -/
def tG (Γ : Gam) (tg : Tg) : TG := fun v σ H Q => ∃ ι w ρ st ρ', Sim Γ.K σ H ι ρ st ∧ WR Γ.K H ι w v ∧ asgTg tg w ρ = some ρ' ∧ ∀ σ', Sim Γ.K σ' H ι ρ' st → (∀ j, j ∉ tgSlots tg → σ'[j]? = σ[j]?) → σ'.length = σ.length → Q σ' H
theorem PG.weak {X : Cx} {e : Expr} {t t' : TG} (h : PG X e t) (w : ∀ v σ H Q, t' v σ H Q → t v σ H Q) : PG X e t' := ⟨fun pins s σ H v u Q I r q => h.run pins s σ H v u Q I r (w _ _ _ _ q)⟩
theorem PGs.weak {X : Cx} {e : List Expr} {t t' : TGs} (h : PGs X e t) (w : ∀ v σ H Q, t' v σ H Q → t v σ H Q) : PGs X e t' := ⟨fun pins s σ H v u Q I r q => h.run pins s σ H v u Q I r (w _ _ _ _ q)⟩
section
variable {Γ : Gam} {S : Stat} {n : Nat} {N : List Str}
theorem loc_of {sc : Scope} {x : Str} (h : locB sc x = true) : Loc sc x := by
  unfold locB at h
  split at h
  · exact .inl (by assumption)
  · exact .inr (by assumption)
  · cases h
theorem locl_of {sc : Scope} {x : Str} (h : loclB sc x = true) : sc.names.lookup x = some .local := by
  unfold loclB at h
  split at h
  · assumption
  · cases h
theorem nm_of {X : Cx} {sc : Scope} {F : Str → Bool} {i : Nat} {e : Expr} (hN : X.N = N) (hsc : X.env.scope = sc) (hF : ∀ x, F x = true → X.fn x = true) (h : chkNm N sc F i e = true) : ∃ x pos, e = .Name x pos ∧ X.N[i]? = some x ∧ Loc X.env.scope x ∧ (X.fn x = true ∨ X.env.scope.names.lookup x = some .local) := by
  unfold chkNm at h
  split at h
  · simp only [Bool.and_eq_true, Bool.or_eq_true] at h
    obtain ⟨⟨h1, h2⟩, h3⟩ := h
    refine ⟨_, _, rfl, by rw [hN]; exact of_decide_eq_true h1, by rw [hsc]; exact loc_of h2, ?_⟩
    rcases h3 with h3 | h3
    · exact .inl (hF _ h3)
    · exact .inr (by rw [hsc]; exact locl_of h3)
  · cases h
theorem nms_of {X : Cx} {sc : Scope} {F : Str → Bool} (hN : X.N = N) (nd : N.Nodup) (hsc : X.env.scope = sc) (hF : ∀ x, F x = true → X.fn x = true) : ∀ {is : List Nat} {es : List Expr}, chkNms N sc F is es = true →
    PGs X es (fun vs σ H Q => vs.length = is.length ∧ Q (setV σ is vs) H) ∧ (assignEach es X.env).length = is.length ∧ (assignEach es X.env).findIdx? (·.1) = none
  | [], [], _ => by
    refine ⟨PGs.weak pgs_nil fun vs σ H Q ⟨l, q⟩ => ?_, rfl, rfl⟩
    cases vs with
    | nil => exact ⟨rfl, q⟩
    | cons _ _ => cases l
  | [], _ :: _, h => by unfold chkNms at h; cases h
  | _ :: _, [], h => by unfold chkNms at h; cases h
  | i :: is, e :: es, h => by
    unfold chkNms at h
    rw [Bool.and_eq_true] at h
    obtain ⟨x, pos, rfl, e1, e2, e3⟩ := nm_of hN hsc hF h.1
    obtain ⟨p, l, f⟩ := nms_of hN nd hsc hF h.2
    refine ⟨PGs.weak (pgs_cons (pg_name (by rw [hN]; exact nd) e1 e2 e3) p) fun vs σ H Q ⟨l, q⟩ => ?_, ?_, ?_⟩
    · cases vs with
      | nil => cases l
      | cons v vs => exact ⟨v, vs, rfl, by simpa using l, q⟩
    · show (assignEach es X.env).length + 1 = _
      rw [l]
      rfl
    · have e4 : assignEach (.Name x pos :: es) X.env = (false, assign (.Name x pos) X.env) :: assignEach es X.env := rfl
      rw [e4, List.findIdx?_cons, f]
      rfl
theorem tg_pg {X : Cx} {sc : Scope} {F : Str → Bool} {tg : Tg} {e : Expr} (hK : X.K = Γ.K) (hN : X.N = N) (nd : N.Nodup) (hsc : X.env.scope = sc) (hc : X.calm = true) (hF : ∀ x, F x = true → X.fn x = true) (h : chkTg N sc F tg e = true) : PG X e (tG Γ tg) := by
  cases tg with
  | one i =>
    unfold chkTg at h
    obtain ⟨x, pos, rfl, e1, e2, e3⟩ := nm_of hN hsc hF h
    refine PG.weak (pg_name (by rw [hN]; exact nd) e1 e2 e3) fun v σ H Q ⟨ι, w, ρ, st, ρ', s, r, a, q⟩ => ?_
    cases a
    exact q _ ⟨s.st, s.rho.set r i⟩ (fun j hj => List.getElem?_set_ne (fun z => hj (by rw [← z]; exact List.mem_singleton.mpr rfl))) (List.length_set ..)
  | many is =>
    cases e with
    | Tuple es k p =>
      unfold chkTg at h
      obtain ⟨pg, l, f⟩ := nms_of hN nd hsc hF h
      refine PG.weak (pg_tup hc pg l f) fun v σ H Q ⟨ι, w, ρ, st, ρ', s, r, a, q⟩ => ?_
      cases w with
      | loc m => cases a
      | d x =>
        cases x with
        | tuple xs =>
          change (if xs.length = is.length then some (setMany ρ is xs) else none) = some ρ' at a
          split at a
          · rename_i hl
            cases a
            cases r with
            | tup h t =>
              rw [hK]
              refine ⟨_, _, rfl, SqT.full h, by rw [← t.length]; exact hl, by rw [← t.length]; exact hl, ?_⟩
              exact q _ ⟨s.st, s.rho.many t⟩ (fun j hj => setV_out is _ _ j hj) (setV_len ..)
          · cases a
        | _ => cases a
    | _ => unfold chkTg at h; cases h
end
end Mp

set_option Elab.async false
set_option linter.all false
set_option maxRecDepth 100000
set_option maxHeartbeats 4000000
namespace Mp
open PySem PySem.Spec PyProof.Rows L2
section
variable {K : PySem.W.Frag} {H : Hp} {ι : List Addr} {st : Sto} {D : Addr} {acc : List PyData}
theorem hide_less {a : Addr} : Same (hide H (ι ++ [a])) (hide H ι) := fun b o e => by
  have e' := hide_same b o e
  refine hide_of (fun hb => ?_) e'
  unfold hide at e
  rw [if_pos (List.mem_append_left _ hb)] at e
  cases e
theorem hide_take {k : Nat} : Same (hide H ι) (hide H (ι.take k)) := fun b o e => by
  have e' := hide_same b o e
  refine hide_of (fun hb => ?_) e'
  unfold hide at e
  rw [if_pos (List.mem_of_mem_take hb)] at e
  cases e
theorem StR.take (s : StR K H ι st) (k : Nat) : StR K H (ι.take k) (st.take k) := by
  refine ⟨by rw [List.length_take, List.length_take, s.len], s.nd.sublist (List.take_sublist k ι), fun m a c e1 e2 => ?_⟩
  by_cases hm : m < k
  · rw [List.getElem?_take_of_lt hm] at e1 e2
    have q := s.cell m a c e1 e2
    cases c with
    | lst ds =>
      obtain ⟨vs, e3, t⟩ := q
      exact ⟨vs, e3, t.mono hide_take⟩
  · rw [List.getElem?_take_eq_none (by omega)] at e1
    cases e1
theorem StR.pop (s : StR K H (ι ++ [D]) (st ++ [.lst acc])) : StR K H ι st ∧ D ∉ ι ∧ ∃ vs, H D = some (.lst vs) ∧ DRs K (hide H (ι ++ [D])) acc vs := by
  have hl : ι.length = st.length := by
    have := s.len
    rw [List.length_append, List.length_append] at this
    exact Nat.add_right_cancel this
  have t := s.take ι.length
  rw [List.take_left' rfl, List.take_left' hl.symm] at t
  refine ⟨t, fun hm => (List.nodup_append.mp s.nd).2.2 D hm D (List.mem_singleton.mpr rfl) rfl, ?_⟩
  exact s.cell ι.length D _ (by rw [List.getElem?_append_right (Nat.le_refl _), Nat.sub_self]; rfl) (by rw [hl, List.getElem?_append_right (Nat.le_refl _), Nat.sub_self]; rfl)
end
theorem wipe_agree {σ σ' : L2.St} (own : List Nat) (hl : σ'.length = σ.length) (h : ∀ j, j ∉ own → σ'[j]? = σ[j]?) : L2.wipe σ' own = L2.wipe σ own := by
  refine List.ext_getElem? fun j => ?_
  have in_none : ∀ (τ : L2.St) (vs : List Nat), j ∈ vs → j < τ.length → (L2.wipe τ vs)[j]? = some none := by
    intro τ vs
    induction vs with
    | nil => intro h; cases h
    | cons v vs ih =>
      intro hm hj
      show ((L2.wipe τ vs).set v none)[j]? = _
      by_cases hv : v = j
      · subst hv
        rw [List.getElem?_set_self (by rw [wipe_length]; exact hj)]
      · rw [List.getElem?_set_ne hv]
        rcases List.mem_cons.mp hm with z | z
        · exact absurd z.symm hv
        · exact ih z hj
  have out : ∀ (τ : L2.St) (vs : List Nat), j ∉ vs → (L2.wipe τ vs)[j]? = τ[j]? := by
    intro τ vs
    induction vs with
    | nil => intro _; rfl
    | cons v vs ih =>
      intro hm
      rw [List.mem_cons, not_or] at hm
      show ((L2.wipe τ vs).set v none)[j]? = _
      rw [List.getElem?_set_ne (Ne.symm hm.1)]
      exact ih hm.2
  by_cases hj : j ∈ own
  · by_cases hb : j < σ.length
    · rw [in_none σ' own hj (by rw [hl]; exact hb), in_none σ own hj hb]
    · rw [List.getElem?_eq_none (by rw [wipe_length]; omega), List.getElem?_eq_none (by rw [wipe_length]; omega)]
  · rw [out σ' own hj, out σ own hj, h j hj]
theorem wipe_wipe {σ : L2.St} (own : List Nat) : L2.wipe (L2.wipe σ own) own = L2.wipe σ own := by
  refine wipe_agree own (wipe_length σ own) fun j hj => ?_
  exact wipe_out hj
section
variable {Γ : Gam} {S : Stat} {n : Nat} {N : List Str}
/-- one turn of a comprehension -/
def turnF (call : CallT) (own : List Nat) (tg : Tg) (c e : E) (ρ : Rho) (x : PyData) (st : Sto) : Res (Option PyData) := match asgTg tg (.d x) (wipeR ρ own) with
  | some ρ1 => (evE call c ρ1 st).bind fun w st => (truR w st).bind fun b st => if b then (evE call e ρ1 st).bind fun w st => match w with
      | .d y => .ok (some y) st
      | .loc _ => .bad
    else .ok none st
  | none => .bad
theorem evComp (call : CallT) (own : List Nat) (tg : Tg) (k : Src) (es : Es) (c e : E) (ρ : Rho) (st : Sto) : evE call (.comp own tg k es c e) ρ st = (evEs call es ρ st).bind fun ws st => match itemsD k ws with
    | some xs => noexc (compL (turnF call own tg c e ρ) xs [] st)
    | none => .bad := by
  rw [evE]
  rfl
theorem noexc_bind {α β : Type} {r : Res α} {f : α → Sto → Res β} {Q : Res β → Prop} (h : ¬ noexc (r.bind f) = .bad) : ∃ a st, r = .ok a st ∧ ¬ noexc (f a st) = .bad := by
  cases r with
  | ok a st => exact ⟨a, st, rfl, h⟩
  | exc x st => exact absurd rfl h
  | bad => exact absurd rfl h
theorem post_ne {α β : Type} {R : Hp → List Addr → α → β → Prop} {r : Res α} {H : Hp} {ι : List Addr} {Q : β → Hp → Prop} {E : XK} (h : Post Γ R (noexc r) H ι Q E) : ∃ a st, r = .ok a st := by
  cases r with
  | ok a st => exact ⟨a, st, rfl⟩
  | exc x st => exact h.elim
  | bad => exact h.elim
abbrev W0 : WX := fun _ _ _ _ => False
theorem blk_cok {X : Cx} {sc : Scope} {Wx : WX} (c : Cok Γ S n X N sc Wx) (s : Shared) (H : Hp) (C : Addr) (cl : List (Str × Addr)) (fp : List Addr) (scope : Scope) : Cok Γ S n (X.blk s H scope (compEnvC scope cl C X.env) fp) N (relS scope sc) W0 :=
  ⟨c.hK, c.hN, c.nd, by rw [← c.hsc]; rfl, c.calm, c.room, takes0, PassesOwn.never, c.facts⟩
/-- what a turn of the block does -/
theorem comp_turn {own : List Nat} {tg : Tg} {c e : E} {ρ : Rho} {tt : TT} {te : TE} (htt : ∀ σ H Q, (∃ ι ρ1 st, Sim Γ.K σ H ι ρ1 st ∧ ∃ b st', evT (callF Γ.FT n) c ρ1 st = .ok b st' ∧ ∀ H' ι', Ext H ι H' ι' → StR Γ.K H' ι' st' → Q b H') → tt σ H Q)
    (hte : ∀ σ H Q, tE Γ W0 (evE (callF Γ.FT n) e) σ H Q → te σ H Q) (hin : ∀ j, j ∈ tgSlots tg → j ∈ own)
    {σ : L2.St} {H1 : Hp} {ι1 : List Addr} {J : It} {xs : List PyData} {st1 : Sto} {E : XK} {Q : VK} {D : Addr} (hD : H1 D = none) (s1 : StR Γ.K H1 ι1 st1) (r1 : RhoR Γ.K H1 ι1 (wipeR ρ own) (L2.wipe σ own)) (it : ItOk Γ.K H1 ι1 J xs)
    (g : Post Γ (WR Γ.K) (noexc (compL (turnF (callF Γ.FT n) own tg c e ρ) xs [] st1)) H1 ι1 Q E) :
    ∃ W : Nat → Nat → Hp → Prop, (∃ m, W 0 m (upd H1 D (.lst []))) ∧ ∀ i m H, W i m H →
      (J.stop i H ∧ Q (.ref D) H) ∨ (J.go i H ∧ ∃ Nx : Hp → Prop, (∀ H', Nx H' → ∃ m', m' < m ∧ W (i + 1) m' H') ∧ ∀ x H', J.yld i H x H' → tG Γ tg x (L2.wipe σ own) H' fun σ2 H2 => L2.wipe σ2 own = L2.wipe σ own ∧ tt σ2 H2 fun b H3 =>
        if b = true then te σ2 H3 fun y H4 => ∃ acc, H4 D = some (.lst acc) ∧ acc.length < sizeLine ∧ Nx (upd H4 D (.lst (acc ++ [y]))) else Nx H3) := by
  let Wf : Nat → Nat → Hp → Prop := fun i m H => m = xs.length - i ∧ i ≤ xs.length ∧ ∃ ι' st' acc r, ι' = ι1 ++ r ∧ Ext H1 ι1 H (ι' ++ [D]) ∧ StR Γ.K H (ι' ++ [D]) (st' ++ [.lst acc]) ∧ RhoR Γ.K H (ι' ++ [D]) (wipeR ρ own) (L2.wipe σ own) ∧
    Post Γ (WR Γ.K) (noexc (compL (turnF (callF Γ.FT n) own tg c e ρ) (xs.drop i) acc st')) H1 ι1 Q E
  refine ⟨Wf, ⟨xs.length, rfl, Nat.zero_le _, ι1, st1, [], [], (List.append_nil _).symm, ext_push s1.trk hD, s1.push hD .nil, r1.ext (ext_push s1.trk hD), g⟩, ?_⟩
  rintro i m H ⟨rfl, hi, ι', st', acc, r, er, ex, s, rr, g⟩
  obtain ⟨sp, hDn, vs, eD, tD⟩ := s.pop
  have hl : ι'.length = st'.length := sp.len
  by_cases hlt : i < xs.length
  · have hx : xs[i]? = some xs[i] := List.getElem?_eq_getElem hlt
    rw [List.drop_eq_getElem_cons hlt] at g
    obtain ⟨io, _⟩ := it H (ι' ++ [D]) ex s.trk
    obtain ⟨go, yl⟩ := io i xs[i] hx
    refine .inr ⟨go, fun H' => Wf (i + 1) (xs.length - (i + 1)) H', fun H' w => ⟨_, by omega, w⟩, fun x H' y => ?_⟩
    obtain ⟨gr, rx⟩ := yl x H' y
    have ex' : Ext H (ι' ++ [D]) H' (ι' ++ [D]) := Ext.grow gr
    have s' := s.grow gr
    obtain ⟨a0, stf, eg⟩ := post_ne g
    -- the turn's own computation
    have g0 := g
    unfold compL at g0 eg
    obtain ⟨o, st4, et⟩ : ∃ o st4, turnF (callF Γ.FT n) own tg c e ρ xs[i] (st' ++ [.lst acc]) = .ok o st4 := by
      cases q : turnF (callF Γ.FT n) own tg c e ρ xs[i] (st' ++ [.lst acc]) with
      | ok o st4 => exact ⟨o, st4, rfl⟩
      | exc z st4 => rw [q] at eg; cases eg
      | bad => rw [q] at eg; cases eg
    rw [et] at g0 eg
    have et0 := et
    unfold turnF at et
    cases ea : asgTg tg (.d xs[i]) (wipeR ρ own) with
    | none => rw [ea] at et; cases et
    | some ρ1 =>
      rw [ea] at et
      dsimp only at et
      -- c
      cases ec : evT (callF Γ.FT n) c ρ1 (st' ++ [.lst acc]) with
      | exc z stc =>
        unfold evT at ec
        rw [← bind_bind, ec] at et
        cases et
      | bad =>
        unfold evT at ec
        rw [← bind_bind, ec] at et
        cases et
      | ok b st2 =>
        have ec' := ec
        unfold evT at ec'
        rw [← bind_bind, ec'] at et
        change (if b = true then _ else _) = _ at et
        refine ⟨ι' ++ [D], .d xs[i], wipeR ρ own, st' ++ [.lst acc], ρ1, ⟨s', rr.ext ex'⟩, rx, ea, fun σ2 sim2 ag hl2 => ⟨?_, ?_⟩⟩
        · rw [← wipe_wipe (σ := σ) own]
          exact wipe_agree own hl2 fun j hj => ag j fun z => hj (hin j z)
        · refine htt _ _ _ ⟨ι' ++ [D], ρ1, _, sim2, b, st2, ec, fun H3 ι3 x3 s3 => ?_⟩
          -- the next word
          have next : ∀ {H5 : Hp} {ι5 : List Addr} {st5 : Sto} {acc1 : List PyData}, Ext H' (ι' ++ [D]) H5 ι5 → StR Γ.K H5 ι5 st5 → st5[st'.length]? = some (.lst acc1) → ∃ vs1, H5 D = some (.lst vs1) ∧ DRs Γ.K (hide H5 (ι' ++ [D])) acc1 vs1 ∧ Ext H' (ι' ++ [D]) H5 (ι' ++ [D]) ∧ StR Γ.K H5 (ι' ++ [D]) (st5.take st'.length ++ [.lst acc1]) := by
            intro H5 ι5 st5 acc1 x5 s5 e5
            obtain ⟨r5, p5⟩ := x5.pre
            have tk : ι5.take (st'.length + 1) = ι' ++ [D] := by
              rw [p5]
              exact List.take_left' (by rw [List.length_append, hl]; rfl)
            have s6 := s5.take (st'.length + 1)
            rw [tk] at s6
            have tk2 : st5.take (st'.length + 1) = st5.take st'.length ++ [.lst acc1] := by
              rw [List.take_add_one, e5]
              rfl
            rw [tk2] at s6
            obtain ⟨_, _, vs1, f1, f2⟩ := s6.pop
            refine ⟨vs1, f1, f2, ⟨fun a o h => ?_, [], (List.append_nil _).symm⟩, s6⟩
            have h2 := x5.same a o h
            rw [← tk]
            exact hide_take a o h2
          cases b with
          | false =>
            rw [if_neg Bool.false_ne_true]
            rw [if_neg Bool.false_ne_true] at et
            cases et
            cases q5 : st4[st'.length]? with
            | none => rw [Res.bind, q5] at eg; cases eg
            | some cell =>
              cases cell with
              | lst acc1 =>
                obtain ⟨vs1, f1, f2, f3, f4⟩ := next x3 s3 q5
                change Post Γ (WR Γ.K) (noexc (match st4[st'.length]? with
                  | some (.lst acc1) => compL (turnF (callF Γ.FT n) own tg c e ρ) (xs.drop (i + 1)) acc1 (st4.take st'.length)
                  | none => .bad)) H1 ι1 Q E at g0
                rw [q5] at g0
                exact ⟨rfl, hlt, ι', _, acc1, r, er, (ex.trans ex').trans f3, f4, (rr.ext ex').ext f3, g0⟩
          | true =>
            rw [if_pos rfl]
            rw [if_pos rfl] at et
            refine hte _ _ _ ⟨ι3, ρ1, st2, sim2.next x3 s3, ?_⟩
            cases ee : evE (callF Γ.FT n) e ρ1 st2 with
            | exc z st5 => rw [ee] at et; cases et
            | bad => rw [ee] at et; cases et
            | ok w st5 =>
              rw [ee] at et
              cases w with
              | loc _ => cases et
              | d y =>
                cases et
                intro v H4 ι4 x4 s4 r4
                cases q5 : st4[st'.length]? with
                | none => rw [Res.bind, q5] at eg; cases eg
                | some cell =>
                  cases cell with
                  | lst acc1 =>
                    obtain ⟨vs1, f1, f2, f3, f4⟩ := next (x3.trans x4) s4 q5
                    change Post Γ (WR Γ.K) (noexc (match st4[st'.length]? with
                      | some (.lst acc1) => if lineOk (acc1.length + 1) then compL (turnF (callF Γ.FT n) own tg c e ρ) (xs.drop (i + 1)) (acc1 ++ [y]) (st4.take st'.length) else .bad
                      | none => .bad)) H1 ι1 Q E at g0
                    rw [q5] at g0
                    dsimp only at g0
                    split at g0
                    · rename_i lo
                      have lo := lineOk_iff.mp lo
                      rw [f2.length] at lo
                      have hm : D ∈ ι' ++ [D] := List.mem_append_right _ (List.mem_singleton.mpr rfl)
                      have ry : DR Γ.K (hide H4 (ι' ++ [D])) y v := by
                        obtain ⟨r5, p5⟩ := (x3.trans x4).pre
                        have r4' : DR Γ.K (hide H4 ι4) y v := r4
                        refine r4'.mono fun a o h => hide_of (fun hb => ?_) (hide_same a o h)
                        unfold hide at h
                        rw [if_pos (by rw [p5]; exact List.mem_append_left _ hb)] at h
                        cases h
                      have s6 := f4.upd (n := st'.length) (a := D) (es := acc1 ++ [y]) (us := vs1 ++ [v]) (by rw [← hl, List.getElem?_append_right (Nat.le_refl _), Nat.sub_self]; rfl) (f2.app (.cons ry .nil))
                      have tl : (st4.take st'.length).length = st'.length := by
                        have := (List.getElem?_eq_some_iff.mp q5).1
                        rw [List.length_take]
                        omega
                      rw [List.set_append_right _ _ (by rw [tl]; exact Nat.le_refl _), tl, Nat.sub_self] at s6
                      have x7 := ext_at (H := H4) (ι := ι' ++ [D]) (o := .lst (vs1 ++ [v])) hm
                      exact ⟨vs1, f1, lo, rfl, hlt, ι', _, acc1 ++ [y], r, er, ((ex.trans ex').trans f3).trans x7, s6, ((rr.ext ex').ext f3).ext x7, g0⟩
                    · exact g0.elim
  · have ei : i = xs.length := by omega
    subst ei
    rw [List.drop_length] at g
    obtain ⟨_, stp⟩ := it H (ι' ++ [D]) ex s.trk
    refine .inl ⟨stp, g (.ref D) H ι' ⟨fun a o h => hide_less a o (ex.same a o h), r, er⟩ sp ?_⟩
    exact .lst (.inl (.inl (hide_of hDn eD))) (tD.mono hide_less)
end
end Mp

set_option Elab.async false
set_option linter.all false
set_option maxRecDepth 100000
set_option maxHeartbeats 4000000
namespace Mp
open PySem PySem.Spec PyProof.Rows L2
section
variable {Γ : Gam} {S : Stat} {n : Nat} {N : List Str}
theorem noSet_it {e : Expr} (h : noSet e = true) (env : Env) (x : Value) : foldedSetIterable e env x = pure x := by
  cases e <;> first | rfl | (cases h)
theorem trueE_eq {c : E} (h : trueE c = true) : c = .lit (.bool true) := by
  unfold trueE at h
  split at h
  · rfl
  · cases h
theorem comp_read {own : List Nat} {tg : Tg} {k : Src} {es : Es} {c e : E} {Wx : WX} {tt : TT} {te : TE} (htt : ∀ σ H Q, (∃ ι ρ1 st, Sim Γ.K σ H ι ρ1 st ∧ ∃ b st', evT (callF Γ.FT n) c ρ1 st = .ok b st' ∧ ∀ H' ι', Ext H ι H' ι' → StR Γ.K H' ι' st' → Q b H') → tt σ H Q)
    (hte : ∀ σ H Q, tE Γ W0 (evE (callF Γ.FT n) e) σ H Q → te σ H Q) (hin : ∀ j, j ∈ tgSlots tg → j ∈ own) {σ : L2.St} {H : Hp} {Q : VK} (q : tE Γ Wx (evE (callF Γ.FT n) (.comp own tg k es c e)) σ H Q) :
    tLc (tI Γ Wx k (evEs (callF Γ.FT n) es)) (tG Γ tg) tt te own σ H Q := by
  obtain ⟨ι, ρ, st, s, g⟩ := q
  rw [evComp] at g
  refine ⟨ι, ρ, st, s, ?_⟩
  cases q1 : evEs (callF Γ.FT n) es ρ st with
  | exc z st1 => rw [q1] at g; exact g
  | bad => rw [q1] at g; exact g.elim
  | ok ws st1 =>
    rw [q1] at g
    change Post Γ (WR Γ.K) (match itemsD k ws with
      | some xs => noexc (compL (turnF (callF Γ.FT n) own tg c e ρ) xs [] st1)
      | none => .bad) H ι Q (WE Wx σ) at g
    show Post Γ _ (itemsR k ws st1) H ι _ (WE Wx σ)
    unfold itemsR
    cases q2 : itemsD k ws with
    | none => rw [q2] at g; exact g.elim
    | some xs =>
      rw [q2] at g
      intro J H1 ι1 x1 s1 it D hD
      exact comp_turn htt hte hin hD s1 ((s.rho.ext x1).wipe own) it (Post.shift x1 g)
theorem comp_pe {own : List Nat} {tg : Tg} {k : Src} {es : Es} {c e : E} (hs : EsAll (Snd Γ S n N) es) (hc : Snd Γ S n N c) (he : Snd Γ S n N e) (X : Cx) (sc : Scope) (Wx : WX) {elt tgE iter : Expr} {ifs : List Expr} {scope : Scope}
    (ck : Cok Γ S n X N sc Wx) (h2 : blkC N sc scope (ownN N own) = true) (h3 : (ownN N own).map (·.2) = own) (h4 : (tgSlots tg).all (fun i => own.contains i) = true)
    (h5 : chkTg N (relS scope sc) (fun x => scope.names.lookup x == some .cell) tg tgE = true) (h7 : chkSrc S N k es sc tgE iter = true)
    (h8 : (match ifs with
      | [] => trueE c
      | [x] => chkE S N c (relS scope sc) x
      | _ => false) = true) (h9 : chkE S N e (relS scope sc) elt = true) :
    ∃ (g : TG) (tt : TT) (te : TE), PI X tgE iter (tI Γ Wx k (evEs (callF Γ.FT n) es)) ∧ BlkOk X.N X.env.scope scope (ownN N own) ∧
      (∀ (s : Shared) (H : Hp) (C : Addr) (cl : List (Str × Addr)) (fp : List Addr), PG (X.blk s H scope (compEnvC scope cl C X.env) fp) tgE g) ∧
      (∀ (s : Shared) (H : Hp) (C : Addr) (cl : List (Str × Addr)) (fp : List Addr), PTs (X.blk s H scope (compEnvC scope cl C X.env) fp) ifs tt) ∧
      (∀ (s : Shared) (H : Hp) (C : Addr) (cl : List (Str × Addr)) (fp : List Addr), PE (X.blk s H scope (compEnvC scope cl C X.env) fp) elt te) ∧
      ∀ σ H Q, tE Γ Wx (evE (callF Γ.FT n) (.comp own tg k es c e)) σ H Q → tLc (tI Γ Wx k (evEs (callF Γ.FT n) es)) g tt te ((ownN N own).map (·.2)) σ H Q := by
  have hin : ∀ j, j ∈ tgSlots tg → j ∈ own := fun j hj => by
    have := List.all_eq_true.mp h4 j hj
    simpa using this
  have blk : BlkOk X.N X.env.scope scope (ownN N own) := by rw [ck.hN, ck.hsc]; exact blkOk_by h2
  have pg := fun (s : Shared) (H : Hp) (C : Addr) (cl : List (Str × Addr)) (fp : List Addr) => tg_pg (Γ := Γ) (X := X.blk s H scope (compEnvC scope cl C X.env) fp) ck.hK ck.hN ck.nd (by rw [← ck.hsc]; rfl) ck.calm (fun x hx => hx) h5
  have pe := fun (s : Shared) (H : Hp) (C : Addr) (cl : List (Str × Addr)) (fp : List Addr) => he.pe (X.blk s H scope (compEnvC scope cl C X.env) fp) (relS scope sc) W0 elt (blk_cok ck s H C cl fp scope) h9
  split at h8
  · have e1 := trueE_eq h8
    subst e1
    refine ⟨_, tYes, _, src_pi hs ck h7, blk, pg, fun _ _ _ _ _ => pts_nil, pe, fun σ H Q q => ?_⟩
    rw [h3]
    refine comp_read (fun σ H Q ⟨ι, ρ1, st, sim, b, st', e2, q⟩ => ?_) (fun _ _ _ q => q) hin q
    unfold evT evE at e2
    cases e2
    exact q H ι .refl sim.st
  · rename_i x
    refine ⟨_, _, _, src_pi hs ck h7, blk, pg, fun s H C cl fp => pts_one (hc.pt (X.blk s H scope (compEnvC scope cl C X.env) fp) (relS scope sc) W0 x (blk_cok ck s H C cl fp scope) h8), pe, fun σ H Q q => ?_⟩
    rw [h3]
    refine comp_read (fun σ H Q ⟨ι, ρ1, st, sim, b, st', e2, q⟩ => ⟨ι, ρ1, st, sim, ?_⟩) (fun _ _ _ q => q) hin q
    rw [e2]
    intro k H' ι' x' s' r
    cases r
    exact q H' ι' x' s'
  · cases h8
theorem comp_inv {own : List Nat} {tg : Tg} {k : Src} {es : Es} {c e : E} {sc : Scope} {ex : Expr} (h : chkE S N (.comp own tg k es c e) sc ex = true) : ∃ elt tgE iter ifs scope pos, ex = .ListComp elt [⟨tgE, iter, ifs, 0⟩] scope pos ∧ blkC N sc scope (ownN N own) = true ∧ (ownN N own).map (·.2) = own ∧ (tgSlots tg).all (fun i => own.contains i) = true ∧
    chkTg N (relS scope sc) (fun x => scope.names.lookup x == some .cell) tg tgE = true ∧ noSet iter = true ∧ chkSrc S N k es sc tgE iter = true ∧ (match ifs with
      | [] => trueE c
      | [x] => chkE S N c (relS scope sc) x
      | _ => false) = true ∧ chkE S N e (relS scope sc) elt = true := by
  unfold chkE at h
  split at h
  · simp only [Bool.and_eq_true] at h
    obtain ⟨⟨⟨⟨⟨⟨⟨⟨h1, h2⟩, h3⟩, h4⟩, h5⟩, h6⟩, h7⟩, h8⟩, h9⟩ := h
    have e1 := of_decide_eq_true h1
    subst e1
    exact ⟨_, _, _, _, _, _, rfl, h2, of_decide_eq_true h3, h4, h5, h6, srcL_chk h7, h8, h9⟩
  · cases h
theorem snd_comp {own : List Nat} {tg : Tg} {k : Src} {es : Es} {c e : E} (hs : EsAll (Snd Γ S n N) es) (hc : Snd Γ S n N c) (he : Snd Γ S n N e) : Snd Γ S n N (.comp own tg k es c e) := by
  refine snd_plain (fun X sc Wx ex ck h => ?_) fun sc e env h => ?_
  · obtain ⟨elt, tgE, iter, ifs, scope, pos, rfl, h2, h3, h4, h5, h6, h7, h8, h9⟩ := comp_inv h
    obtain ⟨g, tt, te, p1, p2, p3, p4, p5, p6⟩ := comp_pe hs hc he X sc Wx ck h2 h3 h4 h5 h7 h8 h9
    exact PE.weak (pe_lc ck.calm (by rw [ck.hN]; exact ck.nd) p1 p2 p3 p4 p5 (noSet_it h6 _)) p6
  · obtain ⟨elt, tgE, iter, ifs, scope, pos, rfl, _⟩ := comp_inv h
    intro _; rfl
mutual
theorem snd : ∀ ir : E, Snd Γ S n N ir
  | .var i => snd_var i
  | .glob x d => snd_glob x d
  | .lit d => snd_lit d
  | .pr p es => ⟨pr_pe (snds es), pr_pt (snds es)⟩
  | .new es => snd_new (snds es)
  | .act0 p o => snd_act0 (snd o)
  | .act1 p o e => snd_act1 (snd o) (snd e)
  | .and es => snd_and (snds es)
  | .or es => snd_or (snds es)
  | .not e => snd_not (snd e)
  | .ite c a b => snd_ite (snd c) (snd a) (snd b)
  | .chain p q a b c => snd_chain (snd a) (snd b) (snd c)
  | .sl a b c => snd_sl (snd a) (snd b) (snd c)
  | .call f es => snd_call (snds es)
  | .callk j f ix es => snd_callk (snds es)
  | .comp own tg k es c e => snd_comp (snds es) (snd c) (snd e)
theorem snds : ∀ es : Es, EsAll (Snd Γ S n N) es
  | .nil => .nil
  | .cons e es => .cons (snd e) (snds es)
end
end
end Mp

set_option Elab.async false
set_option linter.all false
set_option maxRecDepth 100000
set_option maxHeartbeats 4000000
namespace Mp
open PySem PySem.Spec PyProof.Rows L2
/-! ### a statement against the text -/
def isComp : Expr → Bool
  | .ListComp _ _ _ _ => true
  | .SetComp _ _ _ _ => true
  | .DictComp _ _ _ _ _ => true
  | _ => false
def isLComp : Expr → Bool
  | .ListComp _ _ _ _ => true
  | _ => false
def isStar : Expr → Bool
  | .Starred _ _ => true
  | _ => false
def swOk (sc : Scope) (y : Str) (py : Pos) : Expr → Bool
  | .ListComp _ _ scope pos => (py.line == pos.line) && !(scope.names.any fun (n, k) => n == y && (k == .local || k == .cell))
  | _ => false
/-- what swappedStores says of names and items -/
def swp (sc : Scope) (ts vs : List Expr) : Option (Option (List Str)) :=
  if !(ts.length == 2 || ts.length == 3) || vs.length != ts.length then some none
  else if vs.any fun | .Starred .. => true | _ => false then some none
  else
    let line := (ts.head?.map (·.pos.line)).getD 0
    let names := ts.filterMap fun
      | .Name id pos => if sc.names.lookup id == some .local && pos.line == line then some id else none
      | _ => none
    if names.length != ts.length || names.eraseDups.length != names.length then some none
    else if vs.all (foldedForSure 8) then some none
    else if vs.all (constantsAlone 8) then none
    else some (some names)
def tupItems : Expr → Option (List Expr)
  | .Tuple vs _ _ => some vs
  | _ => none
def noSwap (sc : Scope) (ts : List Expr) (e : Expr) : Bool := match tupItems e with
  | some vs => (match swp sc ts vs with
    | some none => true
    | _ => false)
  | none => true
def fnK (sc : Scope) : Bool := match sc.kind with
  | .function => true
  | _ => false
mutual
def chkS (T : Stat) (N : List Str) (sc : Scope) : S → Stmt → Bool
  | .asg i e, s => match s with
    | .Assign [.Name x p] v _ => chkNm N sc (fun _ => true) i (.Name x p) && chkE T N e sc v && (if isComp v then (if loclB sc x then swOk sc x p v else isLComp v) else true)
    | _ => false
  | .unp is e, s => match s with
    | .Assign [.Tuple ts k p] v _ => chkNms N sc (fun _ => true) is ts && chkE T N e sc v && noSwap sc ts v
    | _ => false
  | .par i j a b, s => match s with
    | .Assign [.Tuple [.Name x px, .Name y py] _ _] (.Tuple [u, v] _ _) _ => decide (N[i]? = some x) && decide (N[j]? = some y) && decide (i ≠ j) && loclB sc x && loclB sc y && chkE T N a sc u && chkE T N b sc v &&
        decide (swp sc [.Name x px, .Name y py] [u, v] = some (some [x, y]))
    | _ => false
  | .par3 i j l a b c, s => match s with
    | .Assign [.Tuple [.Name x px, .Name y py, .Name z pz] _ _] (.Tuple [u, v, w] _ _) _ => decide (N[i]? = some x) && decide (N[j]? = some y) && decide (N[l]? = some z) && decide (i ≠ j) && decide (i ≠ l) && decide (j ≠ l) && loclB sc x && loclB sc y && loclB sc z &&
        chkE T N a sc u && chkE T N b sc v && chkE T N c sc w && decide (swp sc [.Name x px, .Name y py, .Name z pz] [u, v, w] = some (some [x, y, z]))
    | _ => false
  | .setix o i e, s => match s with
    | .Assign [.Subscript x y _] v _ => noSlice y && chkE T N o sc x && chkE T N i sc y && chkE T N e sc v
    | _ => false
  | .aug i p e, s => match s with
    | .AugAssign (.Name x q) op v _ => chkNm N sc (fun _ => true) i (.Name x q) && ((decide (p = .add) && decide (op = .Add)) || (decide (p = .sub) && decide (op = .Sub))) && chkE T N e sc v
    | _ => false
  | .ex e, s => match s with
    | .Expr v _ => !isComp v && chkE T N e sc v
    | _ => false
  | .ite c a b, s => match s with
    | .If t x y _ => chkE T N c sc t && chkSs T N sc a x && chkSs T N sc b y
    | _ => false
  | .for_ tg k es body, s => match s with
    | .For t it x [] _ => chkTg N sc (fun _ => true) tg t && noSet it && chkSrc T N k es sc t it && chkSs T N sc body x
    | _ => false
  | .while_ c body, s => match s with
    | .While t x [] _ => chkE T N c sc t && chkSs T N sc body x
    | _ => false
  | .ret e, s => match s with
    | .Return (some v) _ => chkE T N e sc v
    | _ => false
  | .pass, s => match s with
    | .Pass _ => true
    | _ => false
  | .brk, s => match s with
    | .Break _ => true
    | _ => false
  | .cont, s => match s with
    | .Continue _ => true
    | _ => false
def chkSs (T : Stat) (N : List Str) (sc : Scope) : Ss → List Stmt → Bool
  | .nil, l => l.isEmpty
  | .cons s ss, l => match l with
    | a :: l => chkS T N sc s a && chkSs T N sc ss l
    | [] => false
end
end Mp

set_option Elab.async false
set_option linter.all false
set_option maxRecDepth 100000
set_option maxHeartbeats 4000000
namespace Mp
open PySem PySem.Spec PyProof.Rows L2
/-- what is wanted behind a statement's computation -/
def PostS (Γ : Gam) (o : Out) (H : Hp) (ι : List Addr) (D : Ends) (Wx : WX) : Prop :=
  match o with
  | .nx ρ st => ∀ σ' H' ι', Ext H ι H' ι' → Sim Γ.K σ' H' ι' ρ st → D.nx σ' H'
  | .bk ρ st => ∀ σ' H' ι', Ext H ι H' ι' → Sim Γ.K σ' H' ι' ρ st → D.bk σ' H'
  | .ct ρ st => ∀ σ' H' ι', Ext H ι H' ι' → Sim Γ.K σ' H' ι' ρ st → D.ct σ' H'
  | .rt w st => ∀ v H' ι', Ext H ι H' ι' → StR Γ.K H' ι' st → WR Γ.K H' ι' w v → D.rt v H'
  | .ex x ρ st => ∀ σ' H' ι', Ext H ι H' ι' → Sim Γ.K σ' H' ι' ρ st → ∀ C, Γ.xa x C → Wx (.ref C) none σ' H'
  | .bad => False
def tS (Γ : Gam) (Wx : WX) (c : Rho → Sto → Out) : TS := fun D σ H => ∃ ι ρ st, Sim Γ.K σ H ι ρ st ∧ PostS Γ (c ρ st) H ι D Wx
section
variable {Γ : Gam} {H H' : Hp} {ι ι' : List Addr} {D : Ends} {Wx : WX} {σ : L2.St} {ρ : Rho} {st : Sto}
theorem PostS.shift {o : Out} (x : Ext H ι H' ι') (h : PostS Γ o H ι D Wx) : PostS Γ o H' ι' D Wx := by
  cases o with
  | nx ρ st => exact fun σ1 H1 ι1 y => h σ1 H1 ι1 (x.trans y)
  | bk ρ st => exact fun σ1 H1 ι1 y => h σ1 H1 ι1 (x.trans y)
  | ct ρ st => exact fun σ1 H1 ι1 y => h σ1 H1 ι1 (x.trans y)
  | rt w st => exact fun v H1 ι1 y => h v H1 ι1 (x.trans y)
  | ex n ρ st => exact fun σ1 H1 ι1 y => h σ1 H1 ι1 (x.trans y)
  | bad => exact h
theorem out_bind {α β : Type} {R : Hp → List Addr → α → β → Prop} {r : Res α} {f : α → Sto → Out} {Q : β → Hp → Prop} (s : Sim Γ.K σ H ι ρ st) (h : PostS Γ (r.out ρ f) H ι D Wx)
    (k : ∀ a st' b H1 ι1, Ext H ι H1 ι1 → StR Γ.K H1 ι1 st' → R H1 ι1 a b → PostS Γ (f a st') H1 ι1 D Wx → Q b H1) : Post Γ R r H ι Q (WE Wx σ) := by
  cases r with
  | ok a st' => exact fun b H1 ι1 x s1 q => k a st' b H1 ι1 x s1 q (PostS.shift x h)
  | exc n st' => exact fun H1 ι1 x s1 C hc => h σ H1 ι1 x (s.next x s1) C hc
  | bad => exact h
end
structure CokS (Γ : Gam) (T : Stat) (n : Nat) (X : Cx) (N : List Str) (sc : Scope) (Wx : WX) : Prop where
  ck : Cok Γ T n X N sc Wx
  fnk : fnK sc = true
  fna : ∀ x, X.fn x = true
section
variable {Γ : Gam} {T : Stat} {n : Nat} {X : Cx} {N : List Str} {sc : Scope} {Wx : WX}
theorem CokS.kind (c : CokS Γ T n X N sc Wx) : X.env.scope.kind = .function := by
  have h := c.fnk
  rw [c.ck.hsc]
  unfold fnK at h
  split at h
  · assumption
  · cases h
theorem CokS.nm (c : CokS Γ T n X N sc Wx) {i : Nat} {e : Expr} (h : chkNm N sc (fun _ => true) i e = true) : ∃ x pos, e = .Name x pos ∧ X.N[i]? = some x ∧ Loc X.env.scope x ∧ (X.fn x = true ∨ X.env.scope.names.lookup x = some .local) :=
  nm_of c.ck.hN c.ck.hsc (fun x _ => c.fna x) h
theorem CokS.nd (c : CokS Γ T n X N sc Wx) : X.N.Nodup := by rw [c.ck.hN]; exact c.ck.nd
theorem CokS.locl (c : CokS Γ T n X N sc Wx) {x : Str} (h : loclB sc x = true) : X.env.scope.names.lookup x = some .local := by rw [c.ck.hsc]; exact locl_of h
theorem CokS.blk (c : CokS Γ T n X N sc Wx) : X.env.blockKind = .function := by
  unfold Env.blockKind
  rw [c.kind]
  rfl
/-- no swap for what is no comprehension -/
theorem sw_plain {v : Expr} (h : isComp v = false) (t : Option Expr) (l : Nat) (env : Env) : swapsWith v t l env = pure false := by
  cases v <;> first | rfl | (cases h)
theorem sw_cell {elt : Expr} {gs : List Comprehension} {scope : Scope} {pos py : Pos} {y : Str} {l : Nat} {env : Env} (h : env.scope.names.lookup y ≠ some .local) : swapsWith (.ListComp elt gs scope pos) (some (.Name y py)) l env = pure false := by
  have ky : (env.kindOf y == some .local) = false := by
    have : env.kindOf y = env.scope.names.lookup y := rfl
    rw [this, beq_eq_false_iff_ne]
    exact h
  unfold swapsWith
  simp only [ky, Bool.and_false, Bool.false_and]
theorem sw_tup {v : Expr} {ts : List Expr} {k l : Nat} {p : Pos} {env : Env} : swapsWithSole [.Tuple ts k p] v l env = pure false := by
  cases v <;> rfl
theorem sw_sub {v a b : Expr} {l : Nat} {p : Pos} {env : Env} : swapsWithSole [.Subscript a b p] v l env = pure false := by
  cases v <;> rfl
theorem swp_none {ts : List Expr} {k : Nat} {p : Pos} {v : Expr} (c : CokS Γ T n X N sc Wx) (h : noSwap sc ts v = true) : swappedStores [.Tuple ts k p] v X.env = pure none := by
  unfold noSwap at h
  cases v with
  | Tuple vs k2 p2 =>
    simp only [tupItems] at h
    have bk : (X.env.blockKind != .function) = false := by rw [c.blk]; rfl
    have ko : ∀ id, X.env.kindOf id = sc.names.lookup id := fun id => by rw [← c.ck.hsc]; rfl
    unfold swappedStores
    unfold swp at h
    simp only [bk, Bool.or_false, ko]
    split at h
    · rename_i q
      split at q
      · rename_i e
        exact if_pos e
      · rename_i e
        refine (if_neg e).trans ?_
        split at q
        · rename_i e2
          exact if_pos e2
        · rename_i e2
          refine (if_neg e2).trans ?_
          dsimp only at q
          split at q
          · rename_i e3
            exact if_pos e3
          · rename_i e3
            refine (if_neg e3).trans ?_
            split at q
            · rename_i e4
              exact if_pos e4
            · rename_i e4
              split at q <;> cases q
    · cases h
  | _ => rfl
theorem swp_some {ts vs : List Expr} {k k2 : Nat} {p p2 : Pos} {r : List Str} (c : CokS Γ T n X N sc Wx) (h : swp sc ts vs = some (some r)) : swappedStores [.Tuple ts k p] (.Tuple vs k2 p2) X.env = pure (some r) := by
  have bk : (X.env.blockKind != .function) = false := by rw [c.blk]; rfl
  have ko : ∀ id, X.env.kindOf id = sc.names.lookup id := fun id => by rw [← c.ck.hsc]; rfl
  unfold swappedStores
  unfold swp at h
  simp only [bk, Bool.or_false, ko]
  split at h
  · cases h
  · rename_i e
    refine (if_neg e).trans ?_
    split at h
    · cases h
    · rename_i e2
      refine (if_neg e2).trans ?_
      dsimp only at h
      split at h
      · cases h
      · rename_i e3
        refine (if_neg e3).trans ?_
        split at h
        · cases h
        · rename_i e4
          refine (if_neg e4).trans ?_
          split at h
          · cases h
          · rename_i e5
            refine (if_neg e5).trans ?_
            cases h
            rfl
end
end Mp

set_option Elab.async false
set_option linter.all false
set_option maxRecDepth 100000
set_option maxHeartbeats 4000000
namespace Mp
open PySem PySem.Spec PyProof.Rows L2
def SndS (Γ : Gam) (T : Stat) (n : Nat) (N : List Str) (ir : S) : Prop := ∀ (X : Cx) (sc : Scope) (Wx : WX) (s : Stmt), CokS Γ T n X N sc Wx → chkS T N sc ir s = true → PS X s (tS Γ Wx (evS (callF Γ.FT n) ir))
def SndSs (Γ : Gam) (T : Stat) (n : Nat) (N : List Str) (ir : Ss) : Prop := ∀ (X : Cx) (sc : Scope) (Wx : WX) (s : List Stmt), CokS Γ T n X N sc Wx → chkSs T N sc ir s = true → PSs X s (tS Γ Wx (evSs (callF Γ.FT n) ir))
theorem PSs.weak {X : Cx} {st : List Stmt} {t t' : TS} (h : PSs X st t) (w : ∀ D σ H, t' D σ H → t D σ H) : PSs X st t' := ⟨fun pins s σ H D I q => h.run pins s σ H D I (w _ _ _ q)⟩
section
variable {Γ : Gam} {T : Stat} {n : Nat} {N : List Str}
theorem CokS.nloc {X : Cx} {sc : Scope} {Wx : WX} (c : CokS Γ T n X N sc Wx) {x : Str} (hl : ¬ loclB sc x = true) : X.env.scope.names.lookup x ≠ some .local := fun z => hl (by
  rw [c.ck.hsc] at z
  unfold loclB
  rw [z])
theorem asg_sub {x y : Expr} {pos : Pos} {env : Env} (h : noSlice y = true) (v : Value) : assign (.Subscript x y pos) env v = (do
      let ov ← holding [v] (eval x env)
      let iv ← holding [v, ov] (eval y env)
      standAt pos
      holding [v, ov, iv] (setItem ov iv v)
      release [v, ov, iv] []) := by
  cases y <;> first | rfl | (cases h)
theorem ss_nil : SndSs Γ T n N .nil := by
  intro X sc Wx s c h
  unfold chkSs at h
  cases s with
  | nil => exact PSs.weak pss_nil fun D σ H ⟨ι, ρ, st, s, q⟩ => q σ H ι .refl s
  | cons _ _ => cases h
theorem seq_read {Wx : WX} {c1 c2 : Rho → Sto → Out} {D : Ends} {σ : L2.St} {H : Hp} (q : tS Γ Wx (fun ρ st => (c1 ρ st).seq c2) D σ H) : tS Γ Wx c1 { D with nx := tS Γ Wx c2 D } σ H := by
  obtain ⟨ι, ρ, st, s, q⟩ := q
  refine ⟨ι, ρ, st, s, ?_⟩
  dsimp only at q
  cases e : c1 ρ st with
  | nx ρ1 st1 =>
    rw [e] at q
    exact fun σ1 H1 ι1 x s1 => ⟨ι1, ρ1, st1, s1, PostS.shift x q⟩
  | bk _ _ => rw [e] at q; exact q
  | ct _ _ => rw [e] at q; exact q
  | rt _ _ => rw [e] at q; exact q
  | ex _ _ _ => rw [e] at q; exact q
  | bad => rw [e] at q; exact q.elim
theorem ss_cons {s1 : S} {ss : Ss} (h1 : SndS Γ T n N s1) (h2 : SndSs Γ T n N ss) : SndSs Γ T n N (.cons s1 ss) := by
  intro X sc Wx s c h
  unfold chkSs at h
  cases s with
  | nil => cases h
  | cons a l =>
    rw [Bool.and_eq_true] at h
    refine PSs.weak (pss_cons (h1 X sc Wx a c h.1) (h2 X sc Wx l c h.2)) fun D σ H ⟨ι, ρ, st, s, q⟩ => ?_
    rw [evSs] at q
    exact seq_read ⟨ι, ρ, st, s, q⟩
theorem s_ex {e : E} : SndS Γ T n N (.ex e) := by
  intro X sc Wx s c h
  unfold chkS at h
  split at h
  · rw [Bool.and_eq_true] at h
    refine PS.weak (ps_expr ((snd e).pe X sc Wx _ c.ck h.2) (sw_plain (by simpa using h.1) _ _ _)) fun D σ H ⟨ι, ρ, st, s, q⟩ => ⟨ι, ρ, st, s, ?_⟩
    rw [evS] at q
    exact out_bind s q fun w st1 v H1 ι1 x1 s1 r1 q1 => q1 σ H1 ι1 .refl (s.next x1 s1)
  · cases h
theorem s_ret {e : E} : SndS Γ T n N (.ret e) := by
  intro X sc Wx s c h
  unfold chkS at h
  split at h
  · refine PS.weak (ps_ret ((snd e).pe X sc Wx _ c.ck h)) fun D σ H ⟨ι, ρ, st, s, q⟩ => ⟨ι, ρ, st, s, ?_⟩
    rw [evS] at q
    exact out_bind s q fun w st1 v H1 ι1 x1 s1 r1 q1 => q1 v H1 ι1 .refl s1 r1
  · cases h
theorem s_pass : SndS Γ T n N .pass := by
  intro X sc Wx s c h
  unfold chkS at h
  split at h
  · exact PS.weak ps_pass fun D σ H ⟨ι, ρ, st, s, q⟩ => q σ H ι .refl s
  · cases h
theorem s_brk : SndS Γ T n N .brk := by
  intro X sc Wx s c h
  unfold chkS at h
  split at h
  · exact PS.weak ps_break fun D σ H ⟨ι, ρ, st, s, q⟩ => q σ H ι .refl s
  · cases h
theorem s_cont : SndS Γ T n N .cont := by
  intro X sc Wx s c h
  unfold chkS at h
  split at h
  · exact PS.weak ps_continue fun D σ H ⟨ι, ρ, st, s, q⟩ => q σ H ι .refl s
  · cases h
theorem s_ite {c : E} {a b : Ss} (ha : SndSs Γ T n N a) (hb : SndSs Γ T n N b) : SndS Γ T n N (.ite c a b) := by
  intro X sc Wx s k h
  unfold chkS at h
  split at h
  · simp only [Bool.and_eq_true] at h
    obtain ⟨⟨h1, h2⟩, h3⟩ := h
    refine PS.weak (ps_if ((snd c).pt X sc Wx _ k.ck h1) (ha X sc Wx _ k h2) (hb X sc Wx _ k h3)) fun D σ H ⟨ι, ρ, st, s, q⟩ => ⟨ι, ρ, st, s, ?_⟩
    rw [evS] at q
    refine out_bind s q fun w st1 v H1 ι1 x1 s1 r1 q1 => ?_
    cases r1
    cases w with
    | true => exact iteT ⟨ι1, ρ, st1, s.next x1 s1, q1⟩
    | false => exact iteF ⟨ι1, ρ, st1, s.next x1 s1, q1⟩
  · cases h
theorem s_asg {i : Nat} {e : E} : SndS Γ T n N (.asg i e) := by
  intro X sc Wx s c h
  unfold chkS at h
  split at h
  · simp only [Bool.and_eq_true] at h
    obtain ⟨⟨h1, h2⟩, h3⟩ := h
    obtain ⟨x, pos, e1, e2, e3, e4⟩ := c.nm h1
    cases e1
    have fin : ∀ {D : Ends} {σ : L2.St} {H : Hp}, tS Γ Wx (evS (callF Γ.FT n) (.asg i e)) D σ H → tE Γ Wx (evE (callF Γ.FT n) e) σ H fun v H1 => D.nx (σ.set i (some v)) H1 := fun {D σ H} ⟨ι, ρ, st, s, q⟩ => ⟨ι, ρ, st, s, by
      rw [evS] at q
      exact out_bind s q fun w st1 v H1 ι1 x1 s1 r1 q1 => q1 _ H1 ι1 .refl ⟨s1, (s.rho.ext x1).set r1 i⟩⟩
    split at h3
    · rename_i v p3 ic
      split at h3
      · -- a comprehension, stored as it is made
        rename_i hl
        unfold swOk at h3
        split at h3
        · simp only [Bool.and_eq_true] at h3
          rename_i elt gs scope pos2
          cases e with
          | comp own tg k es cc ee =>
            obtain ⟨elt', tgE, iter, ifs, scope', pos', ex, k2, k3, k4, k5, k6, k7, k8, k9⟩ := comp_inv h2
            cases ex
            obtain ⟨g, tt, te, p1, p2, p3, p4, p5, p6⟩ := comp_pe (snds es) (snd cc) (snd ee) X sc Wx c.ck k2 k3 k4 k5 k7 k8 k9
            exact PS.weak (ps_setLc c.ck.calm c.nd e2 (c.locl hl) (sw_true c.kind (c.locl hl) h3.1 (by simpa using h3.2)) p1 p2 p3 p4 p5 (noSet_it k6 _)) fun D σ H q => p6 σ H _ (fin q)
          | _ => exfalso; unfold chkE at h2; cases h2
        · cases h3
      · rename_i hl
        have hx := c.nloc hl
        unfold isLComp at h3
        split at h3
        · exact PS.weak (ps_set c.nd e2 e3 ((snd e).pe X sc Wx _ c.ck h2) (sw_cell hx) e4) fun D σ H q => fin q
        · cases h3
    · rename_i ic
      exact PS.weak (ps_set c.nd e2 e3 ((snd e).pe X sc Wx _ c.ck h2) (sw_plain (by simpa using ic) _ _ _) e4) fun D σ H q => fin q
  · cases h
theorem s_unp {is : List Nat} {e : E} : SndS Γ T n N (.unp is e) := by
  intro X sc Wx s c h
  unfold chkS at h
  split at h
  · simp only [Bool.and_eq_true] at h
    obtain ⟨⟨h1, h2⟩, h3⟩ := h
    rename_i ts kk pp _ _
    have pg := tg_pg (Γ := Γ) (X := X) (tg := .many is) c.ck.hK c.ck.hN c.ck.nd c.ck.hsc c.ck.calm (fun x _ => c.fna x) (e := .Tuple ts kk pp) (show chkTg N sc (fun _ => true) (.many is) (.Tuple ts kk pp) = true from h1)
    refine PS.weak (ps_asg ((snd e).pe X sc Wx _ c.ck h2) pg sw_tup (swp_none c h3)) fun D σ H ⟨ι, ρ, st, s, q⟩ => ⟨ι, ρ, st, s, ?_⟩
    rw [evS] at q
    refine out_bind s q fun w st1 v H1 ι1 x1 s1 r1 q1 => ?_
    split at q1
    · rename_i ρ2 e5
      exact ⟨ι1, w, ρ, st1, ρ2, s.next x1 s1, r1, e5, fun σ' s' _ _ => q1 σ' H1 ι1 .refl s'⟩
    · exact q1.elim
  · cases h
theorem s_par {i j : Nat} {a b : E} : SndS Γ T n N (.par i j a b) := by
  intro X sc Wx s c h
  unfold chkS at h
  split at h
  · simp only [Bool.and_eq_true] at h
    obtain ⟨⟨⟨⟨⟨⟨⟨h1, h2⟩, h3⟩, h4⟩, h5⟩, h6⟩, h7⟩, h8⟩ := h
    have pa := pa_cons ((snd a).pe X sc Wx _ c.ck h6) (pa_cons ((snd b).pe X sc Wx _ c.ck h7) pa_nil (chk_star h7 _ _)) (chk_star h6 _ _)
    refine PS.weak (ps_par c.ck.calm c.nd (by rw [c.ck.hN]; exact of_decide_eq_true h1) (by rw [c.ck.hN]; exact of_decide_eq_true h2) (of_decide_eq_true h3) (c.locl h4) (c.locl h5) pa (swp_some c (of_decide_eq_true h8))) fun D σ H ⟨ι, ρ, st, s, q⟩ => ⟨ι, ρ, st, s, ?_⟩
    rw [evS] at q
    refine out_bind s q fun w st1 v H1 ι1 x1 s1 r1 q1 => ⟨ι1, ρ, st1, s.next x1 s1, out_bind (s.next x1 s1) q1 fun w2 st2 v2 H2 ι2 x2 s2 r2 q2 => ?_⟩
    exact ⟨v, v2, rfl, q2 _ H2 ι2 .refl ⟨s2, ((((s.rho.ext x1).ext x2).set (r1.ext x2) i).set r2 j)⟩⟩
  · cases h
theorem s_par3 {i j l : Nat} {a b e : E} : SndS Γ T n N (.par3 i j l a b e) := by
  intro X sc Wx s c h
  unfold chkS at h
  split at h
  · simp only [Bool.and_eq_true] at h
    obtain ⟨⟨⟨⟨⟨⟨⟨⟨⟨⟨⟨⟨h1, h2⟩, h3⟩, h4⟩, h5⟩, h6⟩, h7⟩, h8⟩, h9⟩, g1⟩, g2⟩, g3⟩, g4⟩ := h
    have pa := pa_cons ((snd a).pe X sc Wx _ c.ck g1) (pa_cons ((snd b).pe X sc Wx _ c.ck g2) (pa_cons ((snd e).pe X sc Wx _ c.ck g3) pa_nil (chk_star g3 _ _)) (chk_star g2 _ _)) (chk_star g1 _ _)
    refine PS.weak (ps_par3 c.ck.calm c.nd (by rw [c.ck.hN]; exact of_decide_eq_true h1) (by rw [c.ck.hN]; exact of_decide_eq_true h2) (by rw [c.ck.hN]; exact of_decide_eq_true h3) (of_decide_eq_true h4) (of_decide_eq_true h5) (of_decide_eq_true h6) (c.locl h7) (c.locl h8) (c.locl h9) pa (swp_some c (of_decide_eq_true g4)))
      fun D σ H ⟨ι, ρ, st, s, q⟩ => ⟨ι, ρ, st, s, ?_⟩
    rw [evS] at q
    refine out_bind s q fun w st1 v H1 ι1 x1 s1 r1 q1 => ⟨ι1, ρ, st1, s.next x1 s1, out_bind (s.next x1 s1) q1 fun w2 st2 v2 H2 ι2 x2 s2 r2 q2 => ⟨ι2, ρ, st2, (s.next x1 s1).next x2 s2, out_bind ((s.next x1 s1).next x2 s2) q2 fun w3 st3 v3 H3 ι3 x3 s3 r3 q3 => ?_⟩⟩
    exact ⟨v, v2, v3, rfl, q3 _ H3 ι3 .refl ⟨s3, ((((((s.rho.ext x1).ext x2).ext x3).set ((r1.ext x2).ext x3) i).set (r2.ext x3) j).set r3 l)⟩⟩
  · cases h
theorem set_of {o i v : W} {ov iv vv : V} {H : Hp} {ι : List Addr} {st st' : Sto} {Q : Hp → Prop} (s : StR Γ.K H ι st) (r1 : WR Γ.K H ι o ov) (r2 : WR Γ.K H ι i iv) (r3 : WR Γ.K H ι v vv) (e : setD o i v st = some st')
    (q : ∀ H', Ext H ι H' ι → StR Γ.K H' ι st' → Q H') : rSetL ov iv vv H Q := by
  unfold setD at e
  split at e
  · rename_i m k x
    split at e
    · rename_i xs e1
      split at e
      · rename_i j e2
        cases e
        obtain ⟨a, rfl, ea⟩ := r1
        cases r2
        obtain ⟨vs, f1, t⟩ := s.cell m a _ ea e1
        have hm : a ∈ ι := List.mem_of_getElem? ea
        rw [t.length] at e2
        exact ⟨a, vs, k, j, rfl, rfl, f1, e2, q _ (ext_at hm) (s.upd ea (t.set j r3))⟩
      · cases e
    · cases e
  · cases e
theorem s_setix {o i e : E} : SndS Γ T n N (.setix o i e) := by
  intro X sc Wx s c h
  unfold chkS at h
  split at h
  · simp only [Bool.and_eq_true] at h
    obtain ⟨⟨⟨h1, h2⟩, h3⟩, h4⟩ := h
    refine PS.weak (ps_asg ((snd e).pe X sc Wx _ c.ck h4) (pg_sub ((snd o).pe X sc Wx _ c.ck h2) ((snd i).pe X sc Wx _ c.ck h3) set_list (asg_sub h1)) sw_sub rfl rfl) fun D σ H ⟨ι, ρ, st, s, q⟩ => ⟨ι, ρ, st, s, ?_⟩
    rw [evS] at q
    refine out_bind s q fun w st1 v H1 ι1 x1 s1 r1 q1 => ⟨ι1, ρ, st1, s.next x1 s1, out_bind (s.next x1 s1) q1 fun w2 st2 v2 H2 ι2 x2 s2 r2 q2 => ⟨ι2, ρ, st2, (s.next x1 s1).next x2 s2, out_bind ((s.next x1 s1).next x2 s2) q2 fun w3 st3 v3 H3 ι3 x3 s3 r3 q3 => ?_⟩⟩
    split at q3
    · rename_i st4 e5
      exact set_of s3 (r2.ext x3) r3 ((r1.ext x2).ext x3) e5 fun H' x' s' => q3 σ H' ι3 x' ((((s.next x1 s1).next x2 s2).next x3 s3).next x' s')
    · exact q3.elim
  · cases h
theorem s_aug {i : Nat} {p : P1} {e : E} : SndS Γ T n N (.aug i p e) := by
  intro X sc Wx s c h
  unfold chkS at h
  split at h
  · simp only [Bool.and_eq_true, Bool.or_eq_true] at h
    obtain ⟨⟨h1, h2⟩, h3⟩ := h
    obtain ⟨x, pos, e1, e2, e3, e4⟩ := c.nm h1
    cases e1
    have fin : ∀ (f : Int → Int → Int) {D : Ends} {σ : L2.St} {H : Hp}, (∀ x y z, augD p x y = some z → ∃ a b, x = .d (.int a) ∧ y = .d (.int b) ∧ z = .d (.int (f a b))) → tS Γ Wx (evS (callF Γ.FT n) (.aug i p e)) D σ H →
        ∃ x, σ[i]? = some (some x) ∧ tE Γ Wx (evE (callF Γ.FT n) e) σ H fun y H1 => ipI f x y H1 fun z H2 => D.nx (σ.set i (some z)) H2 := fun f {D σ H} hf ⟨ι, ρ, st, s, q⟩ => by
      rw [evS] at q
      split at q
      · rename_i w ew
        obtain ⟨v, ev, rv⟩ := s.rho.at_ i w ew
        refine ⟨v, ev, ι, ρ, st, s, out_bind s q fun w2 st1 v2 H1 ι1 x1 s1 r1 q1 => ?_⟩
        split at q1
        · rename_i z ez
          obtain ⟨a, b, rfl, rfl, rfl⟩ := hf _ _ _ ez
          cases rv
          cases r1
          exact ⟨a, b, rfl, rfl, q1 _ H1 ι1 .refl ⟨s1, (s.rho.ext x1).set (w := .d (.int (f a b))) (.int _) i⟩⟩
        · exact q1.elim
      · exact q.elim
    rcases h2 with h2 | h2
    · have k1 := of_decide_eq_true h2.1
      have k2 := of_decide_eq_true h2.2
      subst k1 k2
      refine PS.weak (ps_aug c.nd e2 e3 ((snd e).pe X sc Wx _ c.ck h3) ip_add e4) fun D σ H q => fin (fun a b => a + b) (fun x y z hz => ?_) q
      unfold augD at hz
      split at hz <;> first | (cases hz; done) | (rename_i z2; cases z2; done) | skip
      all_goals first | (cases hz; exact ⟨_, _, rfl, rfl, rfl⟩) | (rename_i z2; cases z2)
    · have k1 := of_decide_eq_true h2.1
      have k2 := of_decide_eq_true h2.2
      subst k1 k2
      refine PS.weak (ps_aug c.nd e2 e3 ((snd e).pe X sc Wx _ c.ck h3) ip_sub e4) fun D σ H q => fin (fun a b => a - b) (fun x y z hz => ?_) q
      unfold augD at hz
      split at hz <;> first | (cases hz; done) | (rename_i z2; cases z2; done) | skip
      all_goals first | (cases hz; exact ⟨_, _, rfl, rfl, rfl⟩) | (rename_i z2; cases z2)
  · cases h
theorem s_while {c : E} {body : Ss} (hb : SndSs Γ T n N body) : SndS Γ T n N (.while_ c body) := by
  intro X sc Wx s k h
  unfold chkS at h
  split at h
  · rw [Bool.and_eq_true] at h
    refine PS.weak (ps_while k.ck.own ((snd c).pt X sc Wx _ k.ck h.1) (hb X sc Wx _ k h.2)) fun D σ H ⟨ι, ρ, st, s, q⟩ => ?_
    rw [evS] at q
    refine ⟨fun m σ H => ∃ ι ρ st, Sim Γ.K σ H ι ρ st ∧ PostS Γ (whileL (evT (callF Γ.FT n) c) (evSs (callF Γ.FT n) body) m ρ st) H ι D Wx, ⟨wFuel, ι, ρ, st, s, q⟩, ?_⟩
    rintro m σ H ⟨ι, ρ, st, s, q⟩
    cases m with
    | zero => exact q.elim
    | succ m =>
      unfold whileL at q
      refine ⟨ι, ρ, st, s, out_bind s q fun w st1 v H1 ι1 x1 s1 r1 q1 => ?_⟩
      cases r1
      cases w with
      | false => exact iteF (q1 σ H1 ι1 .refl (s.next x1 s1))
      | true =>
        refine iteT ⟨_, fun σ' H' w => ⟨m, Nat.lt_succ_self m, w⟩, ι1, ρ, st1, s.next x1 s1, ?_⟩
        rw [if_pos rfl] at q1
        cases e : evSs (callF Γ.FT n) body ρ st1 with
        | nx ρ2 st2 => rw [e] at q1; exact fun σ2 H2 ι2 x2 s2 => ⟨ι2, ρ2, st2, s2, PostS.shift x2 q1⟩
        | ct ρ2 st2 => rw [e] at q1; exact fun σ2 H2 ι2 x2 s2 => ⟨ι2, ρ2, st2, s2, PostS.shift x2 q1⟩
        | bk ρ2 st2 => rw [e] at q1; exact q1
        | rt _ _ => rw [e] at q1; exact q1
        | ex _ _ _ => rw [e] at q1; exact q1
        | bad => rw [e] at q1; exact q1.elim
  · cases h
theorem s_for {tg : Tg} {k : Src} {es : Es} {body : Ss} (hb : SndSs Γ T n N body) : SndS Γ T n N (.for_ tg k es body) := by
  intro X sc Wx s c h
  unfold chkS at h
  split at h
  · simp only [Bool.and_eq_true] at h
    obtain ⟨⟨⟨h1, h2⟩, h3⟩, h4⟩ := h
    have pg := tg_pg (Γ := Γ) (X := X) c.ck.hK c.ck.hN c.ck.nd c.ck.hsc c.ck.calm (fun x _ => c.fna x) h1
    refine PS.weak (ps_for c.ck.own c.ck.calm (src_pi (snds es) c.ck h3) pg (hb X sc Wx _ c h4) (noSet_it h2 _)) fun D σ H ⟨ι, ρ, st, s, q⟩ => ⟨ι, ρ, st, s, ?_⟩
    rw [evS] at q
    cases e1 : evEs (callF Γ.FT n) es ρ st with
    | exc z st1 => rw [e1] at q; exact fun H1 ι1 x1 s1 C hc => q σ H1 ι1 x1 (s.next x1 s1) C hc
    | bad => rw [e1] at q; exact q.elim
    | ok ws st1 =>
      rw [e1] at q
      change PostS Γ (match itemsD k ws with
        | some xs => forL (fun x ρ st => match asgTg tg (.d x) ρ with
          | some ρ => evSs (callF Γ.FT n) body ρ st
          | none => .bad) xs ρ st1
        | none => .bad) H ι D Wx at q
      show Post Γ _ (itemsR k ws st1) H ι _ (WE Wx σ)
      unfold itemsR
      cases e2 : itemsD k ws with
      | none => rw [e2] at q; exact q.elim
      | some xs =>
        rw [e2] at q
        intro J H1 ι1 x1 s1 it
        refine ⟨fun i m σ H => m = xs.length - i ∧ i ≤ xs.length ∧ ∃ ι ρ st, Ext H1 ι1 H ι ∧ Sim Γ.K σ H ι ρ st ∧ PostS Γ (forL (fun x ρ st => match asgTg tg (.d x) ρ with
          | some ρ => evSs (callF Γ.FT n) body ρ st
          | none => .bad) (xs.drop i) ρ st) H ι D Wx, ⟨_, rfl, Nat.zero_le _, ι1, ρ, st1, .refl, s.next x1 s1, PostS.shift x1 q⟩, ?_⟩
        rintro i m σ2 H2 ⟨rfl, hi, ι2, ρ2, st2, x2, s2, q2⟩
        obtain ⟨io, stp⟩ := it H2 ι2 x2 s2.st.trk
        by_cases hlt : i < xs.length
        · obtain ⟨go, yl⟩ := io i xs[i] (List.getElem?_eq_getElem hlt)
          rw [List.drop_eq_getElem_cons hlt] at q2
          unfold forL at q2
          refine .inr ⟨go, _, fun σ' H' w => ⟨xs.length - (i + 1), by omega, rfl, hlt, w⟩, fun v H3 y => ?_⟩
          obtain ⟨gr, rx⟩ := yl v H3 y
          have x3 := Ext.grow gr
          cases ea : asgTg tg (.d xs[i]) ρ2 with
          | none => rw [ea] at q2; exact q2.elim
          | some ρ3 =>
            rw [ea] at q2
            dsimp only at q2
            refine ⟨ι2, .d xs[i], ρ2, st2, ρ3, s2.next x3 (s2.st.grow gr), rx, ea, fun σ4 s4 _ _ => ⟨ι2, ρ3, st2, s4, ?_⟩⟩
            have q3 := PostS.shift x3 q2
            cases e : evSs (callF Γ.FT n) body ρ3 st2 with
            | nx ρ5 st5 => rw [e] at q3; exact fun σ5 H5 ι5 x5 s5 => ⟨ι5, ρ5, st5, (x2.trans x3).trans x5, s5, PostS.shift x5 q3⟩
            | ct ρ5 st5 => rw [e] at q3; exact fun σ5 H5 ι5 x5 s5 => ⟨ι5, ρ5, st5, (x2.trans x3).trans x5, s5, PostS.shift x5 q3⟩
            | bk ρ5 st5 => rw [e] at q3; exact q3
            | rt _ _ => rw [e] at q3; exact q3
            | ex _ _ _ => rw [e] at q3; exact q3
            | bad => rw [e] at q3; exact q3.elim
        · have ei : i = xs.length := by omega
          subst ei
          rw [List.drop_length] at q2
          exact .inl ⟨stp, q2 σ2 H2 ι2 .refl s2⟩
  · cases h
mutual
theorem sndS : ∀ ir : S, SndS Γ T n N ir
  | .asg i e => s_asg
  | .unp is e => s_unp
  | .par i j a b => s_par
  | .par3 i j l a b c => s_par3
  | .setix o i e => s_setix
  | .aug i p e => s_aug
  | .ex e => s_ex
  | .ite c a b => s_ite (sndSs a) (sndSs b)
  | .for_ tg k es body => s_for (sndSs body)
  | .while_ c body => s_while (sndSs body)
  | .ret e => s_ret
  | .pass => s_pass
  | .brk => s_brk
  | .cont => s_cont
theorem sndSs : ∀ ir : Ss, SndSs Γ T n N ir
  | .nil => ss_nil
  | .cons s ss => ss_cons (sndS s) (sndSs ss)
end
end
end Mp

set_option Elab.async false
set_option linter.all false
set_option maxRecDepth 100000
set_option maxHeartbeats 4000000
namespace Mp
open PySem PySem.Spec PyProof.Rows L2
theorem hide_sub {H : Hp} {ι ι' : List Addr} (h : ∀ a ∈ ι', a ∈ ι) : Same (hide H ι) (hide H ι') := fun a o e => by
  have n : a ∉ ι := fun z => by
    unfold hide at e
    rw [if_pos z] at e
    cases e
  exact hide_of (fun z => n (h a z)) (hide_same _ _ e)
section
variable {K : PySem.W.Frag} {H H' : Hp} {ι ι' : List Addr} {st : Sto}
theorem CellR.mono {G G' : Hp} {a : Addr} {c : Cell} (s : Same G G') (h : CellR K H G a c) : CellR K H G' a c := by
  cases c with
  | lst ds =>
    obtain ⟨vs, e, t⟩ := h
    exact ⟨vs, e, t.mono s⟩
theorem StR.cut (h : StR K H (ι ++ ι') st) : StR K H ι (st.take ι.length) := by
  have hl := h.len
  rw [List.length_append] at hl
  refine ⟨by rw [List.length_take]; omega, (List.nodup_append.mp h.nd).1, fun n a c e1 e2 => ?_⟩
  have hn : n < ι.length := (List.getElem?_eq_some_iff.mp e1).1
  rw [List.getElem?_take_of_lt hn] at e2
  exact CellR.mono (hide_sub fun a z => List.mem_append_left _ z) (h.cell n a c (by rw [List.getElem?_append_left hn]; exact e1) e2)
theorem StR.keep1 {n : Nat} {a : Addr} {c : Cell} (h : StR K H (ι ++ ι') st) (hn : ¬ n < ι.length) (ha : (ι ++ ι')[n]? = some a) (hc : st[n]? = some c) : StR K H (ι ++ [a]) (st.take ι.length ++ [c]) := by
  have hl := h.len
  rw [List.length_append] at hl
  have sub : ∀ x ∈ ι ++ [a], x ∈ ι ++ ι' := fun x z => by
    rcases List.mem_append.mp z with z | z
    · exact List.mem_append_left _ z
    · rw [List.mem_singleton] at z
      subst z
      exact List.mem_of_getElem? ha
  have hlt : (st.take ι.length).length = ι.length := by rw [List.length_take]; omega
  have ha' : ι'[n - ι.length]? = some a := by rw [List.getElem?_append_right (by omega)] at ha; exact ha
  refine ⟨by rw [List.length_append, List.length_append, hlt]; rfl, ?_, fun m b d e1 e2 => ?_⟩
  · rw [List.nodup_append] at *
    refine ⟨(List.nodup_append.mp h.nd).1, by simp, fun x hx y hy => ?_⟩
    rw [List.mem_singleton] at hy
    subst hy
    exact (List.nodup_append.mp h.nd).2.2 x hx y (List.mem_of_getElem? ha')
  · by_cases hm : m < ι.length
    · rw [List.getElem?_append_left hm] at e1
      rw [List.getElem?_append_left (by omega), List.getElem?_take_of_lt hm] at e2
      exact CellR.mono (hide_sub sub) (h.cell m b d (by rw [List.getElem?_append_left hm]; exact e1) e2)
    · rw [List.getElem?_append_right (by omega)] at e1
      rw [List.getElem?_append_right (by omega), hlt] at e2
      have hm0 : m - ι.length = 0 := by
        have := (List.getElem?_eq_some_iff.mp e1).1
        simpa using this
      rw [hm0] at e1 e2
      cases e1
      cases e2
      exact CellR.mono (hide_sub sub) (h.cell n _ _ ha hc)
theorem Ext.cut {r q : List Addr} (x : Ext H ι H' (ι ++ r)) (h : ∀ a ∈ q, a ∈ r) : Ext H ι H' (ι ++ q) :=
  ⟨fun a o e => hide_sub (fun b z => by
    rcases List.mem_append.mp z with z | z
    · exact List.mem_append_left _ z
    · exact List.mem_append_right _ (h b z)) a o (x.same a o e), q, rfl⟩
end
theorem fin_post {Γ : Gam} {H : Hp} {ι : List Addr} {st0 : Sto} {mu : Bool} {o : Out} {Q : VK} {E : XK} (hs : StR Γ.K H ι st0) (h : Post Γ (WR Γ.K) (finish mu st0.length o) H ι Q E) : PostS Γ o H ι { nx := fun _ H' => Q .non H', rt := Q } fun c d _ H => E c d H := by
  have hk : st0.length = ι.length := hs.len.symm
  rw [hk] at h
  cases o with
  | nx ρ st =>
    intro σ' H' ι' x s
    obtain ⟨r, rfl⟩ := x.pre
    exact h .non H' ι (by simpa using x.cut (q := []) (fun _ z => absurd z (by simp))) s.st.cut .non
  | ex n ρ st =>
    intro σ' H' ι' x s C hc
    obtain ⟨r, rfl⟩ := x.pre
    exact h H' ι (by simpa using x.cut (q := []) (fun _ z => absurd z (by simp))) s.st.cut C hc
  | rt w st =>
    intro v H' ι' x s hw
    obtain ⟨r, rfl⟩ := x.pre
    have x0 : Ext H ι H' ι := by simpa using x.cut (q := []) (fun _ z => absurd z (by simp))
    cases w with
    | d z => exact h v H' ι x0 s.cut (DR.mono (hide_sub fun a z => List.mem_append_left _ z) hw)
    | loc n =>
      obtain ⟨a, rfl, ha⟩ := hw
      unfold finish packR at h
      dsimp only at h
      by_cases hn : n < ι.length
      · rw [if_pos hn] at h
        exact h _ H' ι x0 s.cut ⟨a, rfl, by rw [List.getElem?_append_left hn] at ha; exact ha⟩
      · rw [if_neg hn] at h
        split at h
        · rename_i xs hc
          have har : a ∈ r := by
            rw [List.getElem?_append_right (by omega)] at ha
            exact List.mem_of_getElem? ha
          cases mu with
          | true =>
            rw [if_pos rfl] at h
            refine h _ H' (ι ++ [a]) (x.cut fun b z => by rw [List.mem_singleton] at z; subst z; exact har) (s.keep1 hn ha hc) ⟨a, rfl, ?_⟩
            rw [List.getElem?_append_right (by omega), Nat.sub_self]
            rfl
          | false =>
            rw [if_neg (by decide)] at h
            obtain ⟨vs, e, t⟩ := s.cell n a _ ha hc
            have hna : a ∉ ι := fun z => (List.nodup_append.mp s.nd).2.2 a z a har rfl
            exact h _ H' ι x0 s.cut (.lst (.inl (.inl (hide_of hna e))) (t.mono (hide_sub fun a z => List.mem_append_left _ z)))
        · exact h.elim
  | bk _ _ => exact h.elim
  | ct _ _ => exact h.elim
  | bad => exact h.elim
theorem start_rho {K : PySem.W.Frag} {H : Hp} {ι : List Addr} {ws : List W} {vs : List V} (h : WRs K H ι ws vs) (N : List Str) : RhoR K H ι (startR N.length ws) (L2.start N vs) := by
  have hl : ws.length = vs.length := by
    induction h with
    | nil => rfl
    | cons _ _ ih => rw [List.length_cons, List.length_cons, ih]
  refine ⟨by unfold L2.start startR; simp only [List.length_append, List.length_map, List.length_replicate, hl], fun i w e => ?_⟩
  unfold startR at e
  unfold L2.start
  by_cases hi : i < ws.length
  · rw [List.getElem?_append_left (by simpa using hi), List.getElem?_map] at e
    have : ∀ {ws : List W} {vs : List V}, WRs K H ι ws vs → ∀ (i : Nat) (w : W), ws[i]? = some w → ∃ v, vs[i]? = some v ∧ WR K H ι w v := by
      intro ws vs h
      induction h with
      | nil => intro i w e; cases e
      | cons r t ih =>
        intro i w e
        cases i with
        | zero => cases e; exact ⟨_, rfl, r⟩
        | succ i => exact ih i w e
    cases q : ws[i]? with
    | none => rw [q] at e; cases e
    | some u =>
      rw [q] at e
      cases e
      obtain ⟨v, e1, e2⟩ := this h i w q
      exact ⟨v, by rw [List.getElem?_append_left (by rw [List.length_map, ← hl]; exact hi), List.getElem?_map, e1]; rfl, e2⟩
  · rw [List.getElem?_append_right (by simpa using hi), List.getElem?_replicate] at e
    split at e <;> cases e
/-! ### the defs of a table -/
def scB (N P : List Str) (sc : Scope) : Bool :=
  decide (sc.kind = .function) && (!sc.isCoroutine && (!sc.isGenerator && (decide N.Nodup && (decide (N.take P.length = P) && (P.all (fun x => match sc.names.lookup x with
    | some .local => true
    | some .cell => true
    | _ => false) && sc.names.all fun y => match y.2 with
    | .free => false
    | _ => true)))))
theorem sc_fun {N P : List Str} {sc : Scope} (h : scB N P sc = true) : FnScope N P sc ∧ fnK sc = true := by
  unfold scB at h
  simp only [Bool.and_eq_true, Bool.not_eq_true', decide_eq_true_eq, List.all_eq_true] at h
  obtain ⟨h1, h2, h3, h4, h5, h6, h7⟩ := h
  refine ⟨⟨h1, h2, h3, h4, h5, fun x hx => ?_, fun y hy e => ?_⟩, ?_⟩
  · have := h6 x hx
    split at this
    · exact .inl (by assumption)
    · exact .inr (by assumption)
    · cases this
  · have := h7 y hy
    rw [e] at this
    cases this
  · unfold fnK
    rw [h1]
/-- a look at one def of the table -/
def okDef (FT : List Fn) (S : Stat) (f : Nat) (ps N : List Str) (st : Stmt) : Bool :=
  match FT[f]? with
  | some fn => scB N ps (defScope st) && (Nat.beq fn.np ps.length && (Nat.beq fn.n N.length && (chkSs S N (defScope st) fn.body (defBody st))))
  | none => false
structure Ground (Γ : Gam) (S : Stat) (mg : Str → Option Value) : Prop where
  fn : ∀ (f : Nat) (x : Str) (ps : List Str), S.fns[f]? = some (x, ps) → ∃ a fd st N, mg x = some (.ref a) ∧ PySem.W.keepIn Γ.K (.ref a) = true ∧ Binds Γ.K fd ps [] ∧
    (∀ (j : Nat) (ks : List Str) (ix : List Nat), S.kws[j]? = some (f, ks, ix) → ∀ (s : Shared) (us : List Value), us.length = ks.length → BindsTo s fd ⟨[], ks.zip us⟩ (ps.zip (ix.map fun i => us.getD i .none))) ∧
    Fun Γ.K x x st a fd ∧ okDef Γ.FT S f ps N st = true
  gl : ∀ (x : Str) (d : PyData), S.gls.lookup x = some d → ∃ u v, mg x = some u ∧ RelV v u ∧ DR Γ.K (fun _ => none) d v
  bl : ∀ x ∈ bNames, mg x = none
theorem wrs_len {K : PySem.W.Frag} {H : Hp} {ι : List Addr} {ws : List W} {vs : List V} (h : WRs K H ι ws vs) : ws.length = vs.length := by
  induction h with
  | nil => rfl
  | cons _ _ ih => rw [List.length_cons, List.length_cons, ih]
theorem fn_ok {Γ : Gam} {S : Stat} {P : Program} {w : World} {mg : Str → Option Value} {base : Heap} {n f : Nat} {ps N : List Str} {st : Stmt} {a : Addr} {fd : FuncData} {x : Str} (F : Facts Γ S n P w mg base) (G : Fun Γ.K x x st a fd) (ok : okDef Γ.FT S f ps N st = true) :
    FnOk P w Γ.K mg base (L2.CX P w) (n + 1) a fd ps (spF Γ (n + 1) f) := by
  unfold okDef at ok
  split at ok
  · rename_i fn hf
    simp only [Bool.and_eq_true] at ok
    obtain ⟨h1, h2, h3, h4⟩ := ok
    have h2 := Nat.eq_of_beq_eq_true h2
    have h3 := Nat.eq_of_beq_eq_true h3
    obtain ⟨S1, S2⟩ := sc_fun h1
    refine G.okX S1 (fun vs H Q E h => ?_) (fun cdv A outer s H vs Q E hr h => ⟨tS Γ (fun c d _ H => E c d H) (evSs (callF Γ.FT n) fn.body), ?_, ?_⟩)
    · obtain ⟨ι, ws, st, hs, hw, q⟩ := h
      unfold callF at q
      rw [hf] at q
      dsimp only at q
      split at q
      · rename_i e
        rw [← wrs_len hw, e, h2]
      · exact q.elim
    · refine (sndSs fn.body) _ _ _ _ ⟨⟨rfl, rfl, S1.nd, rfl, rfl, hr, takes_of rfl rfl rfl rfl, passes_of rfl, F⟩, S2, fun _ => rfl⟩ h4
    · obtain ⟨ι, ws, st, hs, hw, q⟩ := h
      unfold callF at q
      rw [hf] at q
      dsimp only at q
      split at q
      · refine ⟨ι, startR fn.n ws, st, ⟨hs, ?_⟩, fin_post hs q⟩
        rw [h3]
        exact start_rho hw N
      · exact q.elim
  · cases ok
theorem facts {Γ : Gam} {S : Stat} {P : Program} {w : World} {mg : Str → Option Value} {base : Heap} (G : Ground Γ S mg) : ∀ n, Facts Γ S n P w mg base
  | 0 => ⟨fun f x ps e => by
      obtain ⟨a, fd, st, N, h1, h2, h3, h4, h5, h6⟩ := G.fn f x ps e
      exact ⟨a, fd, h1, h2, h3, h4, fun vs H Q E h => by
        obtain ⟨_, _, _, _, _, q⟩ := h
        exact q.elim, fun _ _ _ _ _ _ _ _ _ _ _ _ _ h => by
        obtain ⟨_, _, _, _, _, q⟩ := h
        exact q.elim⟩, G.gl, G.bl⟩
  | n + 1 => ⟨fun f x ps e => by
      obtain ⟨a, fd, st, N, h1, h2, h3, h4, h5, h6⟩ := G.fn f x ps e
      exact ⟨a, fd, h1, h2, h3, h4, fn_ok (facts G n) h5 h6⟩, G.gl, G.bl⟩
end Mp

set_option Elab.async false
set_option linter.all false
set_option maxRecDepth 100000
set_option maxHeartbeats 4000000
namespace Mp
open PySem PySem.Spec PyProof.Rows L2
theorem gl_of {K : PySem.W.Frag} {mg : Str → Option Value} {gls : List (Str × PyData)} (h : ∀ p ∈ gls, ∃ u v, mg p.1 = some u ∧ RelV v u ∧ DR K (fun _ => none) p.2 v) (x : Str) (d : PyData) (e : gls.lookup x = some d) : ∃ u v, mg x = some u ∧ RelV v u ∧ DR K (fun _ => none) d v :=
  h (x, d) (PySem.mem_of_lookup e)
theorem ints_rel {K : PySem.W.Frag} {G : Hp} : ∀ ns : List Int, DRs K G (ns.map PyData.int) (ns.map V.int)
  | [] => .nil
  | _ :: r => .cons (.int _) (ints_rel r)
theorem sp_law {Γ : Gam} {n f : Nat} {H : Hp} {a : Addr} {ns : List Int} (hS : SqL Γ.K H a (ns.map V.int)) (h : callF Γ.FT n f [.d (.list (ns.map PyData.int))] [] = .ok (.d (.bool true)) []) : spF Γ n f [.ref a] H (fun v _ => v = .bl true) fun _ _ _ => False := by
  refine ⟨[], [.d (.list (ns.map PyData.int))], [], ⟨rfl, List.nodup_nil, fun n a c e => by cases e⟩, .cons (.lst (by rw [hide_nil]; exact hS) (ints_rel ns)) .nil, ?_⟩
  rw [h]
  intro b H' ι' _ _ r
  cases r
  rfl
theorem cx_none {P : Program} {w : World} {outer : List Env} {H : Hp} {s : Shared} {e : Value} {s' : Shared} (h : L2.CX P w outer H s (fun _ _ _ => False) e s') : False := by
  obtain ⟨_, _, _, _, _, _, _, _, _, _, _, _, z⟩ := h
  exact z.elim
theorem law_fn {Γ : Gam} {S : Stat} {P : Program} {w : World} {mg : Str → Option Value} {n f : Nat} {p x : Str} {N : List Str} {st : Stmt} {a fa : Addr} {fd : FuncData} (G : Ground Γ S mg) (hm : mg x = some (.ref fa)) (e : mg x = some (.ref a)) (F : Fun Γ.K x x st a fd)
    (ok : okDef Γ.FT S f [p] N st = true) (hb : ∀ (s : Shared) (u : Value), BindsTo s fd ⟨[u], []⟩ [(p, u)]) :
    ∃ fd : FuncData, (∀ (s : Shared) (u : Value), BindsTo s fd ⟨[u], []⟩ [(p, u)]) ∧ ∀ base : Heap, Γ.K.In base → base.Ns mainGlobals mg → FnOk P w Γ.K mg base (L2.CX P w) (n + 1) fa fd [p] (spF Γ (n + 1) f) := by
  cases hm.symm.trans e
  exact ⟨fd, hb, fun base _ _ => fn_ok (facts G n) F ok⟩
end Mp

set_option Elab.async false
set_option linter.all false
set_option maxRecDepth 100000
set_option maxHeartbeats 4000000
namespace Mp
open PySem PySem.Spec L2
/-! ### rules by which a run is computed -/
theorem get_top (st : Sto) (c : Cell) : (st ++ [c])[st.length]? = some c := by simp
theorem set_top (st : Sto) (c d : Cell) : (st ++ [c]).set st.length d = st ++ [d] := by simp
theorem take_top (st : Sto) (c : Cell) : (st ++ [c]).take st.length = st := by simp
theorem take_own (st : Sto) : st.take st.length = st := by simp
section
variable {α β : Type}
theorem rb_ok (a : α) (st : Sto) (f : α → Sto → Res β) : (Res.ok a st).bind f = f a st := (rfl)
theorem rb_exc (x : Nat) (st : Sto) (f : α → Sto → Res β) : (Res.exc x st : Res α).bind f = .exc x st := (rfl)
theorem rb_bad (f : α → Sto → Res β) : (Res.bad : Res α).bind f = .bad := (rfl)
theorem ro_ok (ρ : Rho) (a : α) (st : Sto) (f : α → Sto → Out) : (Res.ok a st).out ρ f = f a st := (rfl)
theorem ro_exc (ρ : Rho) (x : Nat) (st : Sto) (f : α → Sto → Out) : (Res.exc x st : Res α).out ρ f = .ex x ρ st := (rfl)
theorem ro_bad (ρ : Rho) (f : α → Sto → Out) : (Res.bad : Res α).out ρ f = .bad := (rfl)
theorem sq_nx (ρ : Rho) (st : Sto) (f : Rho → Sto → Out) : (Out.nx ρ st).seq f = f ρ st := (rfl)
theorem sq_rt (w : W) (st : Sto) (f : Rho → Sto → Out) : (Out.rt w st).seq f = .rt w st := (rfl)
theorem sq_bk (ρ : Rho) (st : Sto) (f : Rho → Sto → Out) : (Out.bk ρ st).seq f = .bk ρ st := (rfl)
theorem sq_ct (ρ : Rho) (st : Sto) (f : Rho → Sto → Out) : (Out.ct ρ st).seq f = .ct ρ st := (rfl)
end
def vgo : Option (Option W) → Sto → Res W
  | some (some w), st => .ok w st
  | some none, _ => .bad
  | none, _ => .bad
def pfin : Option PyData → Sto → Res W
  | some x, st => .ok (.d x) st
  | none, _ => .bad
def pgo (p : P1) : Option (List PyData) → Sto → Res W
  | some ds, st => pfin (pureD p ds) st
  | none, _ => .bad
def cellD : Option Cell → Option PyData
  | some (.lst xs) => some (.list xs)
  | none => none
def cons2 {α : Type} : Option α → Option (List α) → Option (List α)
  | some x, some xs => some (x :: xs)
  | none, _ => none
  | some _, none => none
def tfin : Option Bool → Sto → Res Bool
  | some b, st => .ok b st
  | none, _ => .bad
def tgo : Option PyData → Sto → Res Bool
  | some x, st => tfin (truD x) st
  | none, _ => .bad
def isCell : Option Cell → Bool
  | some (.lst _) => true
  | none => false
def appGo (n : Nat) (x : PyData) : Option Cell → Sto → Res W
  | some (.lst xs), st => if lineOk (xs.length + 1) then .ok (.d .none) (st.set n (.lst (xs ++ [x]))) else .bad
  | none, _ => .bad
def extGo (n : Nat) (ys : List PyData) : Option Cell → Sto → Res W
  | some (.lst xs), st => if lineOk (xs.length + ys.length) then .ok (.d .none) (st.set n (.lst (xs ++ ys))) else .bad
  | none, _ => .bad
def popFin (n : Nat) (xs : List PyData) : Option PyData → Sto → Res W
  | some y, st => .ok (.d y) (st.set n (.lst xs.dropLast))
  | none, _ => .bad
def popGo (n : Nat) : Option Cell → Sto → Res W
  | some (.lst xs), st => popFin n xs (xs[xs.length - 1]?) st
  | none, _ => .bad
def newGo : Option (List PyData) → Sto → Res W
  | some ds, st => if lineOk ds.length then .ok (.loc st.length) (st ++ [.lst ds]) else .bad
  | none, _ => .bad
def setFin (n : Nat) (xs : List PyData) (x : PyData) : Option Nat → Sto → Option Sto
  | some j, st => some (st.set n (.lst (xs.set j x)))
  | none, _ => none
def setGo (n : Nat) (k : Int) (x : PyData) : Option Cell → Sto → Option Sto
  | some (.lst xs), st => setFin n xs x (L2.ixN xs.length k) st
  | none, _ => none
def chn (k : Sto → Res W) : W → Sto → Res W
  | .d (.bool true), st => k st
  | .d (.bool false), st => .ok (.d (.bool false)) st
  | .d .none, _ => .bad
  | .d (.int _), _ => .bad
  | .d (.str _), _ => .bad
  | .d (.list _), _ => .bad
  | .d (.tuple _), _ => .bad
  | .d (.dict _), _ => .bad
  | .loc _, _ => .bad
def okTo (f : W → Option PyData) (w : W) (st : Sto) : Res (Option PyData) := match f w with
  | some y => .ok (some y) st
  | none => .bad
def yld : W → Sto → Res (Option PyData)
  | .d y, st => .ok (some y) st
  | .loc _, _ => .bad
def compF (call : CallT) (own : List Nat) (tg : Tg) (c e : E) (ρ : Rho) (x : PyData) (st : Sto) : Res (Option PyData) :=
  match asgTg tg (.d x) (wipeR ρ own) with
      | some ρ1 => (evE call c ρ1 st).bind fun w st => (truR w st).bind fun b st => if b then (evE call e ρ1 st).bind fun w st => match w with
          | .d y => .ok (some y) st
          | .loc _ => .bad
        else .ok none st
      | none => .bad
def compGo (f : PyData → Sto → Res (Option PyData)) : Option (List PyData) → Sto → Res W
  | some xs, st => noexc (compL f xs [] st)
  | none, _ => .bad
def ckGo (call : CallT) (f : Nat) : Option (List W) → Sto → Res W
  | some us, st => call f us st
  | none, _ => .bad
section
variable (call : CallT) (ρ : Rho) (st : Sto)
theorem e_var (i : Nat) : evE call (.var i) ρ st = vgo ρ[i]? st := by
  rw [evE]
  split
  · rename_i h; rw [h]; rfl
  · rename_i h
    rcases q : ρ[i]? with _ | _ | w
    · rfl
    · rfl
    · exact absurd q (h w)
theorem e_glob (x : Str) (d : PyData) : evE call (.glob x d) ρ st = .ok (.d d) st := (rfl)
theorem e_lit (d : PyData) : evE call (.lit d) ρ st = .ok (.d d) st := (rfl)
theorem e_pr (p : P1) (es : Es) : evE call (.pr p es) ρ st = (evEs call es ρ st).bind fun ws st => primD p ws st := (rfl)
theorem e_new (es : Es) : evE call (.new es) ρ st = (evEs call es ρ st).bind fun ws st => newD ws st := (rfl)
theorem e_act0 (p : P2) (o : E) : evE call (.act0 p o) ρ st = (evE call o ρ st).bind fun w st => if isLst w st then doD p [w] st else .bad := (rfl)
theorem e_act1 (p : P2) (o e : E) : evE call (.act1 p o e) ρ st = (evE call o ρ st).bind fun w st => if isLst w st then (evE call e ρ st).bind fun x st => doD p [w, x] st else .bad := (rfl)
theorem e_and (es : Es) : evE call (.and es) ρ st = evAnd call es ρ st := (rfl)
theorem e_or (es : Es) : evE call (.or es) ρ st = evOr call es ρ st := (rfl)
theorem e_not (e : E) : evE call (.not e) ρ st = (evE call e ρ st).bind fun w st => (truR w st).bind fun b st => .ok (.d (.bool (!b))) st := (rfl)
theorem e_ite (c a b : E) : evE call (.ite c a b) ρ st = (evE call c ρ st).bind fun w st => (truR w st).bind fun k st => if k then evE call a ρ st else evE call b ρ st := (rfl)
theorem e_chain (p q : P1) (a b c : E) : evE call (.chain p q a b c) ρ st = (evE call a ρ st).bind fun x st => (evE call b ρ st).bind fun y st => (primD p [x, y] st).bind (chn fun st => (evE call c ρ st).bind fun u st => primD q [y, u] st) := by
  rw [evE]
  refine congrArg _ (funext fun x => funext fun st => congrArg _ (funext fun y => funext fun st => congrArg _ (funext fun z => funext fun st => ?_)))
  rcases z with (_ | b | _ | _ | _ | _ | _) | _
  case d.bool => cases b <;> rfl
  all_goals rfl
theorem e_call (f : Nat) (es : Es) : evE call (.call f es) ρ st = (evEs call es ρ st).bind fun ws st => call f ws st := (rfl)
theorem e_callk (j f : Nat) (ix : List Nat) (es : Es) : evE call (.callk j f ix es) ρ st = (evEs call es ρ st).bind fun ws st => ckGo call f (pickW ws ix) st := by
  rw [evE]
  refine congrArg _ (funext fun ws => funext fun st => ?_)
  cases pickW ws ix <;> rfl
theorem e_comp (own : List Nat) (tg : Tg) (k : Src) (es : Es) (c e : E) : evE call (.comp own tg k es c e) ρ st = (evEs call es ρ st).bind fun ws st => compGo (compF call own tg c e ρ) (itemsD k ws) st := by
  rw [evE]
  refine congrArg _ (funext fun ws => funext fun st => ?_)
  cases itemsD k ws <;> rfl
theorem es_nil : evEs call .nil ρ st = .ok [] st := (rfl)
theorem es_cons (e : E) (es : Es) : evEs call (.cons e es) ρ st = (evE call e ρ st).bind fun w st => (evEs call es ρ st).bind fun ws st => .ok (w :: ws) st := (rfl)
theorem an_one (e : E) : evAnd call (.cons e .nil) ρ st = evE call e ρ st := (rfl)
theorem an_more (e f : E) (es : Es) : evAnd call (.cons e (.cons f es)) ρ st = (evE call e ρ st).bind fun w st => (truR w st).bind fun b st => if b then evAnd call (.cons f es) ρ st else .ok w st := (rfl)
theorem or_one (e : E) : evOr call (.cons e .nil) ρ st = evE call e ρ st := (rfl)
theorem or_more (e f : E) (es : Es) : evOr call (.cons e (.cons f es)) ρ st = (evE call e ρ st).bind fun w st => (truR w st).bind fun b st => if b then .ok w st else evOr call (.cons f es) ρ st := (rfl)
theorem e_T (e : E) : evT call e ρ st = (evE call e ρ st).bind fun w st => truR w st := (rfl)
theorem compF_one (own : List Nat) (i : Nat) (c e : E) (x : PyData) : compF call own (.one i) c e ρ x st = (evE call c ((wipeR ρ own).set i (some (.d x))) st).bind fun w st => (truR w st).bind fun b st => if b then (evE call e ((wipeR ρ own).set i (some (.d x))) st).bind yld else .ok none st := by
  unfold compF asgTg
  dsimp only
  refine congrArg _ (funext fun w => funext fun st => congrArg _ (funext fun b => funext fun st => ?_))
  refine congrArg (fun z => if b = true then Res.bind _ z else _) (funext fun w => funext fun st => ?_)
  cases w <;> rfl
theorem compF_many (own is : List Nat) (c e : E) (xs : List PyData) (h : xs.length = is.length) : compF call own (.many is) c e ρ (.tuple xs) st = (evE call c (setMany (wipeR ρ own) is xs) st).bind fun w st => (truR w st).bind fun b st => if b then (evE call e (setMany (wipeR ρ own) is xs) st).bind yld else .ok none st := by
  unfold compF asgTg
  simp only [h, if_true]
  refine congrArg _ (funext fun w => funext fun st => congrArg _ (funext fun b => funext fun st => ?_))
  refine congrArg (fun z => if b = true then Res.bind _ z else _) (funext fun w => funext fun st => ?_)
  cases w <;> rfl
end
theorem yld_d (y : PyData) (st : Sto) : yld (.d y) st = .ok (some y) st := (rfl)
theorem prim_eq (p : P1) (ws : List W) (st : Sto) : primD p ws st = pgo p (argsD p ws st) st := by
  unfold primD pgo
  cases argsD p ws st with
  | none => rfl
  | some ds =>
    dsimp only
    cases pureD p ds <;> rfl
theorem args_tup (ws : List W) (st : Sto) : argsD .tup ws st = dsOf ws := (rfl)
theorem args_lst (ws : List W) (st : Sto) : argsD .lst ws st = dsOf ws := (rfl)
theorem deref_d (st : Sto) (x : PyData) : deref st (.d x) = some x := (rfl)
theorem deref_loc (st : Sto) (n : Nat) : deref st (.loc n) = cellD st[n]? := by
  rw [deref]
  generalize st[n]? = o
  rcases o with _ | c
  · rfl
  · cases c; rfl
theorem derefs_nil (st : Sto) : derefs st [] = some [] := (rfl)
theorem derefs_cons (st : Sto) (w : W) (ws : List W) : derefs st (w :: ws) = cons2 (deref st w) (derefs st ws) := by
  rw [derefs]
  cases deref st w <;> cases derefs st ws <;> rfl
theorem dsOf_nil : dsOf [] = some [] := (rfl)
theorem dsOf_cons (x : PyData) (ws : List W) : dsOf (.d x :: ws) = cons2 (some x) (dsOf ws) := by
  rw [dsOf]
  cases dsOf ws <;> rfl
theorem tru_eq (w : W) (st : Sto) : truR w st = tgo (deref st w) st := by
  unfold truR tgo
  cases deref st w with
  | none => rfl
  | some x => dsimp only; cases truD x <;> rfl
theorem isLst_loc (n : Nat) (st : Sto) : isLst (.loc n) st = isCell st[n]? := by
  unfold isLst
  dsimp only
  generalize st[n]? = o
  rcases o with _ | c
  · rfl
  · cases c; rfl
theorem do_app (n : Nat) (x : PyData) (st : Sto) : doD .append [.loc n, .d x] st = appGo n x st[n]? st := by
  unfold doD
  dsimp only
  generalize st[n]? = o
  rcases o with _ | c
  · rfl
  · cases c; rfl
theorem do_ext (n : Nat) (ys : List PyData) (st : Sto) : doD .extend [.loc n, .d (.list ys)] st = extGo n ys st[n]? st := by
  unfold doD
  dsimp only
  generalize st[n]? = o
  rcases o with _ | c
  · rfl
  · cases c; rfl
theorem do_pop (n : Nat) (st : Sto) : doD .pop [.loc n] st = popGo n st[n]? st := by
  unfold doD
  dsimp only
  generalize st[n]? = o
  rcases o with _ | c
  · rfl
  · cases c with
    | lst xs =>
      dsimp only [popGo]
      cases xs[xs.length - 1]? <;> rfl
theorem new_eq (ws : List W) (st : Sto) : newD ws st = newGo (dsOf ws) st := by
  unfold newD
  cases dsOf ws <;> rfl
theorem set_eq (n : Nat) (k : Int) (x : PyData) (st : Sto) : setD (.loc n) (.d (.int k)) (.d x) st = setGo n k x st[n]? st := by
  unfold setD
  dsimp only
  generalize st[n]? = o
  rcases o with _ | c
  · rfl
  · cases c with
    | lst xs =>
      dsimp only [setGo]
      cases L2.ixN xs.length k <;> rfl
theorem p_tup (ds : List PyData) : pureD .tup ds = if lineOk ds.length then some (.tuple ds) else none := (rfl)
theorem p_lst (ds : List PyData) : pureD .lst ds = if lineOk ds.length then some (.list ds) else none := (rfl)
theorem p_add (a b : PyData) : pureD .add [a, b] = addD a b := (rfl)
theorem p_sub (i j : Int) : pureD .sub [.int i, .int j] = some (.int (i - j)) := (rfl)
theorem p_mul (i j : Int) : pureD .mul [.int i, .int j] = if mulOk i j then some (.int (i * j)) else none := (rfl)
theorem p_fdiv (i j : Int) : pureD .fdiv [.int i, .int j] = if divOk j then some (.int (i / j)) else none := (rfl)
theorem p_mod (i j : Int) : pureD .mod [.int i, .int j] = if decide (0 < j) then some (.int (i % j)) else none := (rfl)
theorem p_pow (i j : Int) : pureD .pow [.int i, .int j] = if powOk i j then some (.int (i ^ j.toNat)) else none := (rfl)
theorem p_lt (i j : Int) : pureD .lt [.int i, .int j] = some (.bool (decide (i < j))) := (rfl)
theorem p_le (i j : Int) : pureD .le [.int i, .int j] = some (.bool (decide (i ≤ j))) := (rfl)
theorem p_gt (i j : Int) : pureD .gt [.int i, .int j] = some (.bool (decide (j < i))) := (rfl)
theorem p_ge (i j : Int) : pureD .ge [.int i, .int j] = some (.bool (decide (j ≤ i))) := (rfl)
theorem p_max (i j : Int) : pureD .max2 [.int i, .int j] = some (.int (if j > i then j else i)) := (rfl)
theorem p_min (i j : Int) : pureD .min2 [.int i, .int j] = some (.int (if j < i then j else i)) := (rfl)
theorem p_eq (a b : PyData) : pureD .eq [a, b] = if eqOk a b then some (.bool (PyData.eqv a b)) else none := (rfl)
theorem p_ne (a b : PyData) : pureD .ne [a, b] = if eqOk a b then some (.bool (!PyData.eqv a b)) else none := (rfl)
theorem p_in (a b : PyData) : pureD .isin [a, b] = (isinD a b).map .bool := (rfl)
theorem p_nin (a b : PyData) : pureD .notin [a, b] = (isinD a b).map fun k => .bool (!k) := (rfl)
theorem p_ix (a b : PyData) : pureD .ix [a, b] = ixD a b := (rfl)
theorem p_slTo (a : PyData) (i : Int) : pureD .slTo [a, .int i] = slD a none (some i) := (rfl)
theorem p_slFrom (a : PyData) (i : Int) : pureD .slFrom [a, .int i] = slD a (some i) none := (rfl)
theorem p_slB (a : PyData) (i j : Int) : pureD .slB [a, .int i, .int j] = slD a (some i) (some j) := (rfl)
theorem p_neg (i : Int) : pureD .neg [.int i] = some (.int (-i)) := (rfl)
theorem p_len (a : PyData) : pureD .len [a] = (lenD a).map .int := (rfl)
theorem p_int (i : Int) : pureD .int [.int i] = some (.int i) := (rfl)
theorem p_sum (ds : List PyData) : pureD .sum [.list ds] = (sumD ds).map .int := (rfl)
theorem p_all (ds : List PyData) : pureD .all [.list ds] = (allD ds).map .bool := (rfl)
theorem p_tupL (ds : List PyData) : pureD .tupleOf [.list ds] = some (.tuple ds) := (rfl)
theorem p_tupT (ds : List PyData) : pureD .tupleOf [.tuple ds] = some (.tuple ds) := (rfl)
theorem p_lstL (ds : List PyData) : pureD .listOf [.list ds] = some (.list ds) := (rfl)
theorem p_lstT (ds : List PyData) : pureD .listOf [.tuple ds] = some (.list ds) := (rfl)
theorem p_isi (t : Ty) (a : PyData) : pureD (.isinst t) [a] = some (.bool (isTy t a)) := (rfl)
theorem p_isN (a : PyData) : pureD .isN [a] = some (.bool (match a with | .none => true | _ => false)) := (rfl)
theorem p_notN (a : PyData) : pureD .notN [a] = some (.bool (match a with | .none => false | _ => true)) := (rfl)
theorem isin_str (x z : Str) : isinD (.str x) (.str z) = match x.cps.toList with
      | [c] => some (decide (c ∈ z.cps.toList))
      | _ => none := (rfl)
theorem isin_ch (c : Nat) (z : Str) : isinD (.str ⟨#[c]⟩) (.str z) = some (decide (c ∈ z.cps.toList)) := (rfl)
theorem isin_tup (x : PyData) (ds : List PyData) : isinD x (.tuple ds) = if flatD x && ds.all flatD then some (inD x ds) else none := (rfl)
theorem isin_list (x : PyData) (ds : List PyData) : isinD x (.list ds) = if flatD x && ds.all flatD then some (inD x ds) else none := (rfl)
/-! statements -/
def fstep (k : Rho → Sto → Out) : Out → Out
  | .nx ρ st => k ρ st
  | .ct ρ st => k ρ st
  | .bk ρ st => .nx ρ st
  | .rt w st => .rt w st
  | .ex x ρ st => .ex x ρ st
  | .bad => .bad
def ugo : Option Rho → Sto → Out
  | some ρ, st => .nx ρ st
  | none, _ => .bad
def sgo (ρ : Rho) : Option Sto → Out
  | some st => .nx ρ st
  | none => .bad
def agoF (i : Nat) (ρ : Rho) (st : Sto) : Option W → Out
  | some z => .nx (ρ.set i (some z)) st
  | none => .bad
def ago (call : CallT) (i : Nat) (p : P1) (e : E) (ρ : Rho) (st : Sto) : Option (Option W) → Out
  | some (some x) => (evE call e ρ st).out ρ fun y st => agoF i ρ st (augD p x y)
  | some none => .bad
  | none => .bad
def forF (call : CallT) (tg : Tg) (body : Ss) (x : PyData) (ρ : Rho) (st : Sto) : Out :=
  match asgTg tg (.d x) ρ with
      | some ρ => evSs call body ρ st
      | none => .bad
def fgo (f : PyData → Rho → Sto → Out) (ρ : Rho) : Option (List PyData) → Sto → Out
  | some xs, st => forL f xs ρ st
  | none, _ => .bad
section
variable (call : CallT) (ρ : Rho) (st : Sto)
theorem s_asg' (i : Nat) (e : E) : evS call (.asg i e) ρ st = (evE call e ρ st).out ρ fun w st => .nx (ρ.set i (some w)) st := (rfl)
theorem s_unp' (is : List Nat) (e : E) : evS call (.unp is e) ρ st = (evE call e ρ st).out ρ fun w st => ugo (asgTg (.many is) w ρ) st := by
  rw [evS]
  refine congrArg _ (funext fun w => funext fun st => ?_)
  cases asgTg (.many is) w ρ <;> rfl
theorem s_par' (i j : Nat) (a b : E) : evS call (.par i j a b) ρ st = (evE call a ρ st).out ρ fun v st => (evE call b ρ st).out ρ fun w st => .nx ((ρ.set i (some v)).set j (some w)) st := (rfl)
theorem s_par3' (i j l : Nat) (a b c : E) : evS call (.par3 i j l a b c) ρ st = (evE call a ρ st).out ρ fun u st => (evE call b ρ st).out ρ fun v st => (evE call c ρ st).out ρ fun w st => .nx (((ρ.set i (some u)).set j (some v)).set l (some w)) st := (rfl)
theorem s_setix' (o i e : E) : evS call (.setix o i e) ρ st = (evE call e ρ st).out ρ fun v st => (evE call o ρ st).out ρ fun ow st => (evE call i ρ st).out ρ fun iw st => sgo ρ (setD ow iw v st) := by
  rw [evS]
  refine congrArg _ (funext fun v => funext fun st => congrArg _ (funext fun ow => funext fun st => congrArg _ (funext fun iw => funext fun st => ?_)))
  cases setD ow iw v st <;> rfl
theorem s_aug' (i : Nat) (p : P1) (e : E) : evS call (.aug i p e) ρ st = ago call i p e ρ st ρ[i]? := by
  rw [evS]
  generalize ρ[i]? = o
  rcases o with _ | _ | x
  · rfl
  · rfl
  · dsimp only [ago]
    refine congrArg _ (funext fun y => funext fun st => ?_)
    cases augD p x y <;> rfl
theorem s_ex' (e : E) : evS call (.ex e) ρ st = (evE call e ρ st).out ρ fun _ st => .nx ρ st := (rfl)
theorem s_ite' (c : E) (a b : Ss) : evS call (.ite c a b) ρ st = (evT call c ρ st).out ρ fun k st => if k then evSs call a ρ st else evSs call b ρ st := (rfl)
theorem s_for' (tg : Tg) (k : Src) (es : Es) (body : Ss) : evS call (.for_ tg k es body) ρ st = (evEs call es ρ st).out ρ fun ws st => fgo (forF call tg body) ρ (itemsD k ws) st := by
  rw [evS]
  refine congrArg _ (funext fun ws => funext fun st => ?_)
  cases itemsD k ws <;> rfl
theorem s_while' (c : E) (body : Ss) : evS call (.while_ c body) ρ st = whileL (evT call c) (evSs call body) wFuel ρ st := (rfl)
theorem s_ret' (e : E) : evS call (.ret e) ρ st = (evE call e ρ st).out ρ fun w st => .rt w st := (rfl)
theorem ss_nil' : evSs call .nil ρ st = .nx ρ st := (rfl)
theorem ss_cons' (s : S) (ss : Ss) : evSs call (.cons s ss) ρ st = (evS call s ρ st).seq fun ρ st => evSs call ss ρ st := (rfl)
theorem forF_one (i : Nat) (body : Ss) (x : PyData) : forF call (.one i) body x ρ st = evSs call body (ρ.set i (some (.d x))) st := (rfl)
theorem forF_many (is : List Nat) (body : Ss) (xs : List PyData) (h : xs.length = is.length) : forF call (.many is) body (.tuple xs) ρ st = evSs call body (setMany ρ is xs) st := by
  unfold forF asgTg
  simp only [h, if_true]
theorem forL_nil (f : PyData → Rho → Sto → Out) : forL f [] ρ st = .nx ρ st := (rfl)
theorem forL_cons (f : PyData → Rho → Sto → Out) (x : PyData) (xs : List PyData) : forL f (x :: xs) ρ st = fstep (forL f xs) (f x ρ st) := by
  rw [forL]
  cases f x ρ st <;> rfl
theorem asg_one (i : Nat) (w : W) : asgTg (.one i) w ρ = some (ρ.set i (some w)) := (rfl)
theorem asg_many (is : List Nat) (xs : List PyData) : asgTg (.many is) (.d (.tuple xs)) ρ = if xs.length = is.length then some (setMany ρ is xs) else none := (rfl)
end
theorem wh_step (c : Rho → Sto → Res Bool) (body : Rho → Sto → Out) (n : Nat) (ρ : Rho) (st : Sto) : whileL c body (n + 1) ρ st = (c ρ st).out ρ fun b st => if b then fstep (whileL c body n) (body ρ st) else .nx ρ st := by
  rw [whileL]
  refine congrArg _ (funext fun b => funext fun st => ?_)
  cases b with
  | false => rfl
  | true =>
    rw [if_pos rfl, if_pos rfl]
    cases body ρ st <;> rfl
theorem pk_d (mu : Bool) (k : Nat) (x : PyData) (st : Sto) : packR mu k (.d x) st = .ok (.d x) (st.take k) := (rfl)
theorem fin_rt (mu : Bool) (k : Nat) (w : W) (st : Sto) : Mp.finish mu k (.rt w st) = packR mu k w st := (rfl)
theorem fin_nx (mu : Bool) (k : Nat) (ρ : Rho) (st : Sto) : Mp.finish mu k (.nx ρ st) = .ok (.d .none) (st.take k) := (rfl)
theorem fin_ex (mu : Bool) (k x : Nat) (ρ : Rho) (st : Sto) : Mp.finish mu k (.ex x ρ st) = .exc x (st.take k) := (rfl)
theorem nx_ok {α : Type} (a : α) (st : Sto) : noexc (.ok a st) = .ok a st := (rfl)
theorem pick_nil (ws : List W) : pickW ws [] = some [] := (rfl)
theorem pick_cons (ws : List W) (i : Nat) (is : List Nat) : pickW ws (i :: is) = cons2 ws[i]? (pickW ws is) := by
  rw [pickW]
  cases ws[i]? <;> cases pickW ws is <;> rfl
theorem cf {FT : List Fn} {f : Nat} {fn : Fn} (h : FT[f]? = some fn) (n : Nat) (ws : List W) (st : Sto) : callF FT (n + 1) f ws st = if ws.length = fn.np then Mp.finish fn.mu st.length (evSs (callF FT n) fn.body (startR fn.n ws) st) else .bad := by
  rw [callF, h]
theorem compL_map {f : PyData → Sto → Res (Option PyData)} {g : PyData → PyData} : ∀ {xs acc : List PyData} {st : Sto}, (∀ x ∈ xs, ∀ st', f x st' = .ok (some (g x)) st') → acc.length + xs.length ≤ sizeLine → compL f xs acc st = .ok (.d (.list (acc ++ xs.map g))) st
  | [], acc, st, _, _ => by simp [compL]
  | x :: xs, acc, st, h, hl => by
    rw [List.length_cons] at hl
    unfold compL
    rw [h x (by simp)]
    simp only [Res.bind, get_top]
    rw [if_pos (by unfold lineOk; exact decide_eq_true (by omega)), take_top, compL_map (fun y hy => h y (by simp [hy])) (by rw [List.length_append]; simp; omega)]
    simp
theorem compL_pick {f : PyData → Sto → Res (Option PyData)} {p : PyData → Bool} {g : PyData → PyData} : ∀ {xs acc : List PyData} {st : Sto}, (∀ x ∈ xs, ∀ st', f x st' = .ok (if p x then some (g x) else none) st') → acc.length + xs.length ≤ sizeLine → compL f xs acc st = .ok (.d (.list (acc ++ (xs.filter p).map g))) st
  | [], acc, st, _, _ => by simp [compL]
  | x :: xs, acc, st, h, hl => by
    rw [List.length_cons] at hl
    unfold compL
    rw [h x (by simp)]
    simp only [Res.bind, get_top]
    by_cases hp : p x = true
    · simp only [hp, if_true]
      rw [if_pos (by unfold lineOk; exact decide_eq_true (by omega)), take_top, compL_pick (fun y hy => h y (by simp [hy])) (by rw [List.length_append]; simp; omega)]
      simp [hp]
    · have hp : p x = false := by simpa using hp
      simp only [hp, Bool.false_eq_true, if_false]
      rw [take_top, compL_pick (fun y hy => h y (by simp [hy])) (by omega)]
      simp [hp]
theorem allD_map {α : Type} (p : α → Bool) : ∀ l : List α, allD (l.map fun x => .bool (p x)) = some (l.all p)
  | [] => rfl
  | x :: l => by simp [allD, allD_map p l]
theorem lineOk_small {n : Nat} (h : n ≤ 16777216) : lineOk n = true := by unfold lineOk; exact decide_eq_true h
theorem eqOk_str (a b : Str) : eqOk (.str a) (.str b) = (PyData.strOk a && PyData.strOk b) := by
  simp [eqOk, PyData.canLay0, PyData.depth]
theorem eqv_str (a b : Str) : PyData.eqv (.str a) (.str b) = (a == b) := by simp [PyData.eqv]
theorem eqOk_int (a b : Int) : eqOk (.int a) (.int b) = true := (rfl)
theorem eqv_int (a b : Int) : PyData.eqv (.int a) (.int b) = (a == b) := by simp [PyData.eqv]
theorem eqOk_bool (a b : Bool) : eqOk (.bool a) (.bool b) = true := (rfl)
theorem eqv_bool (a b : Bool) : PyData.eqv (.bool a) (.bool b) = (a == b) := by simp [PyData.eqv]
end Mp
namespace Mp
open PySem PySem.Spec L2
theorem aug_add (i j : Int) : augD .add (.d (.int i)) (.d (.int j)) = some (.d (.int (i + j))) := (rfl)
theorem aug_sub (i j : Int) : augD .sub (.d (.int i)) (.d (.int j)) = some (.d (.int (i - j))) := (rfl)
theorem it_seq (a : PyData) : itemsD .seq [.d a] = seqD a := (rfl)
theorem it_r1 (j : Int) : itemsD .range1 [.d (.int j)] = if rngOk j then some (rangeD 0 j.toNat) else none := (rfl)
theorem it_r2 (i j : Int) : itemsD .range2 [.d (.int i), .d (.int j)] = if rngOk i && rngOk j then some (rangeD i (j - i).toNat) else none := (rfl)
theorem it_el (ds : List PyData) : itemsD .enum [.d (.list ds)] = some (enumD 0 ds) := (rfl)
theorem it_et (ds : List PyData) : itemsD .enum [.d (.tuple ds)] = some (enumD 0 ds) := (rfl)
theorem it_zip (xs ys : List PyData) : itemsD .zip [.d (.list xs), .d (.list ys)] = some (zipD xs ys) := (rfl)
theorem it_rev (ds : List PyData) : itemsD .rev [.d (.list ds)] = some ds.reverse := (rfl)
end Mp
namespace Mp
open PySem PySem.Spec L2
theorem atI_n {α : Type} (xs : List α) (k : Nat) : atI xs (k : Int) = xs[k]? := by
  unfold atI ixN
  rw [if_pos (Int.natCast_nonneg k)]
  by_cases h : (k : Int) < xs.length
  · rw [if_pos h, Int.toNat_natCast]
    rfl
  · rw [if_neg h, List.getElem?_eq_none (by omega)]
    rfl
theorem atI_0 {α : Type} (xs : List α) : atI xs 0 = xs[0]? := atI_n xs 0
theorem atI_1 {α : Type} (xs : List α) : atI xs 1 = xs[1]? := atI_n xs 1
theorem atI_2 {α : Type} (xs : List α) : atI xs 2 = xs[2]? := atI_n xs 2
theorem atI_3 {α : Type} (xs : List α) : atI xs 3 = xs[3]? := atI_n xs 3
theorem cut_1 (x : PyData) (xs : List PyData) : cutD (x :: xs) (some 1) none = xs := by
  unfold cutD
  rw [show HT.sIx (x :: xs).length 0 (some 1) = min 1 (x :: xs).length from HT.sIx_nat _ _ 1, HT.sIx_none, List.length_cons]
  rw [show min 1 (xs.length + 1) = 1 by omega]
  simp
theorem cut_to1 (x : PyData) (xs : List PyData) : cutD (x :: xs) none (some 1) = [x] := by
  unfold cutD
  rw [show HT.sIx (x :: xs).length (x :: xs).length (some 1) = min 1 (x :: xs).length from HT.sIx_nat _ _ 1, HT.sIx_none, List.length_cons]
  rw [show min 1 (xs.length + 1) = 1 by omega]
  simp
theorem cut_to (xs : List PyData) (k : Nat) : cutD xs none (some (k : Int)) = xs.take k := by
  unfold cutD
  rw [HT.sIx_nat, HT.sIx_none, List.drop_zero, Nat.sub_zero]
  rw [List.take_eq_take_iff]
  omega
end Mp
namespace Mp
open PySem PySem.Spec L2
theorem nc0 : ((0 : Nat) : Int) = 0 := (rfl)
theorem nc1 : ((1 : Nat) : Int) = 1 := (rfl)
theorem nc2 : ((2 : Nat) : Int) = 2 := (rfl)
theorem nc3 : ((3 : Nat) : Int) = 3 := (rfl)
theorem nc4 : ((4 : Nat) : Int) = 4 := (rfl)
theorem tup_fit (x : PyData) : lineOk 1 = true := (rfl)
theorem lineOk1 : lineOk 1 = true := lineOk_small (by omega)
theorem lineOk2 : lineOk 2 = true := lineOk_small (by omega)
theorem lineOk3 : lineOk 3 = true := lineOk_small (by omega)
theorem lineOk0 : lineOk 0 = true := lineOk_small (by omega)
end Mp
namespace Mp
open PySem PySem.Spec L2
theorem take_fd (c : Cell) (r : Sto) : (c :: r).take (r.length + 1) = c :: r := by simp
end Mp
namespace Mp
open PySem PySem.Spec L2
def cEnd (f : PyData → Sto → Res (Option PyData)) (xs acc : List PyData) (k : Nat) (st : Sto) : Option PyData → Res W
  | some y => if lineOk (acc.length + 1) then compL f xs (acc ++ [y]) (st.take k) else .bad
  | none => compL f xs acc (st.take k)
def cStep (f : PyData → Sto → Res (Option PyData)) (xs : List PyData) (k : Nat) (o : Option PyData) (st : Sto) : Option Cell → Res W
  | some (.lst acc) => cEnd f xs acc k st o
  | none => .bad
theorem cl_nil (f : PyData → Sto → Res (Option PyData)) (acc : List PyData) (st : Sto) : compL f [] acc st = .ok (.d (.list acc)) st := (rfl)
theorem cl_cons (f : PyData → Sto → Res (Option PyData)) (x : PyData) (xs acc : List PyData) (st : Sto) : compL f (x :: xs) acc st = (f x (st ++ [.lst acc])).bind fun o st1 => cStep f xs st.length o st1 st1[st.length]? := by
  rw [compL]
  refine congrArg _ (funext fun o => funext fun st1 => ?_)
  generalize st1[st.length]? = c
  rcases c with _ | ⟨acc⟩
  · rfl
  · cases o <;> rfl
theorem take_fd2 (c d : Cell) (r : Sto) : (c :: (r ++ [d])).take (r.length + 1) = c :: r := by simp
theorem len_fd (c : Cell) (r : Sto) : (c :: r).length = r.length + 1 := (rfl)
theorem eqNilT (xs : List PyData) (h : PyData.canLayAll0 xs = true) : eqOk (.tuple xs) (.tuple []) = true := by
  unfold eqOk
  simp [PyData.canLay0, h, PyData.canLayAll0, PyData.depth, PyData.depthAll]
theorem eqvNilT (xs : List PyData) : PyData.eqv (.tuple xs) (.tuple []) = xs.isEmpty := by
  cases xs <;> simp [PyData.eqv, PyData.eqvAll]
theorem range_len (lo : Int) (n : Nat) : (rangeD lo n).length = n := by simp [rangeD]
end Mp
namespace Mp
theorem lineOk4 : lineOk 4 = true := lineOk_small (by omega)
theorem lineOk5 : lineOk 5 = true := lineOk_small (by omega)
theorem lineOk6 : lineOk 6 = true := lineOk_small (by omega)
theorem lineOk7 : lineOk 7 = true := lineOk_small (by omega)
theorem lineOk8 : lineOk 8 = true := lineOk_small (by omega)
theorem lineOk9 : lineOk 9 = true := lineOk_small (by omega)
theorem lineOk10 : lineOk 10 = true := lineOk_small (by omega)
theorem lineOk11 : lineOk 11 = true := lineOk_small (by omega)
theorem lineOk12 : lineOk 12 = true := lineOk_small (by omega)
theorem lineOk13 : lineOk 13 = true := lineOk_small (by omega)
theorem lineOk14 : lineOk 14 = true := lineOk_small (by omega)
theorem lineOk15 : lineOk 15 = true := lineOk_small (by omega)
theorem lineOk16 : lineOk 16 = true := lineOk_small (by omega)
theorem lineOk17 : lineOk 17 = true := lineOk_small (by omega)
theorem lineOk18 : lineOk 18 = true := lineOk_small (by omega)
theorem lineOk19 : lineOk 19 = true := lineOk_small (by omega)
theorem lineOk20 : lineOk 20 = true := lineOk_small (by omega)
theorem lineOk21 : lineOk 21 = true := lineOk_small (by omega)
theorem lineOk22 : lineOk 22 = true := lineOk_small (by omega)
theorem lineOk23 : lineOk 23 = true := lineOk_small (by omega)
theorem lineOk24 : lineOk 24 = true := lineOk_small (by omega)
theorem lineOk25 : lineOk 25 = true := lineOk_small (by omega)
theorem lineOk26 : lineOk 26 = true := lineOk_small (by omega)
theorem lineOk27 : lineOk 27 = true := lineOk_small (by omega)
theorem lineOk28 : lineOk 28 = true := lineOk_small (by omega)
theorem lineOk29 : lineOk 29 = true := lineOk_small (by omega)
theorem lineOk30 : lineOk 30 = true := lineOk_small (by omega)
theorem lineOk31 : lineOk 31 = true := lineOk_small (by omega)
theorem lineOk32 : lineOk 32 = true := lineOk_small (by omega)
theorem lineOk33 : lineOk 33 = true := lineOk_small (by omega)
theorem lineOk34 : lineOk 34 = true := lineOk_small (by omega)
theorem lineOk35 : lineOk 35 = true := lineOk_small (by omega)
theorem lineOk36 : lineOk 36 = true := lineOk_small (by omega)
theorem lineOk37 : lineOk 37 = true := lineOk_small (by omega)
theorem lineOk38 : lineOk 38 = true := lineOk_small (by omega)
theorem lineOk39 : lineOk 39 = true := lineOk_small (by omega)
theorem lineOk40 : lineOk 40 = true := lineOk_small (by omega)
end Mp
namespace Mp
theorem q_vgo1 : type_of% @vgo.eq_1 := id @vgo.eq_1
theorem q_vgo2 : type_of% @vgo.eq_2 := id @vgo.eq_2
theorem q_vgo3 : type_of% @vgo.eq_3 := id @vgo.eq_3
theorem q_pfin1 : type_of% @pfin.eq_1 := id @pfin.eq_1
theorem q_pfin2 : type_of% @pfin.eq_2 := id @pfin.eq_2
theorem q_pgo1 : type_of% @pgo.eq_1 := id @pgo.eq_1
theorem q_pgo2 : type_of% @pgo.eq_2 := id @pgo.eq_2
theorem q_cellD1 : type_of% @cellD.eq_1 := id @cellD.eq_1
theorem q_cellD2 : type_of% @cellD.eq_2 := id @cellD.eq_2
theorem q_cons21 {α : Type} : type_of% (@cons2.eq_1 α) := id (@cons2.eq_1 α)
theorem q_cons22 {α : Type} : type_of% (@cons2.eq_2 α) := id (@cons2.eq_2 α)
theorem q_cons23 {α : Type} : type_of% (@cons2.eq_3 α) := id (@cons2.eq_3 α)
theorem q_tfin1 : type_of% @tfin.eq_1 := id @tfin.eq_1
theorem q_tfin2 : type_of% @tfin.eq_2 := id @tfin.eq_2
theorem q_tgo1 : type_of% @tgo.eq_1 := id @tgo.eq_1
theorem q_tgo2 : type_of% @tgo.eq_2 := id @tgo.eq_2
theorem q_isCell1 : type_of% @isCell.eq_1 := id @isCell.eq_1
theorem q_isCell2 : type_of% @isCell.eq_2 := id @isCell.eq_2
theorem q_appGo1 : type_of% @appGo.eq_1 := id @appGo.eq_1
theorem q_appGo2 : type_of% @appGo.eq_2 := id @appGo.eq_2
theorem q_extGo1 : type_of% @extGo.eq_1 := id @extGo.eq_1
theorem q_extGo2 : type_of% @extGo.eq_2 := id @extGo.eq_2
theorem q_popFin1 : type_of% @popFin.eq_1 := id @popFin.eq_1
theorem q_popFin2 : type_of% @popFin.eq_2 := id @popFin.eq_2
theorem q_popGo1 : type_of% @popGo.eq_1 := id @popGo.eq_1
theorem q_popGo2 : type_of% @popGo.eq_2 := id @popGo.eq_2
theorem q_newGo1 : type_of% @newGo.eq_1 := id @newGo.eq_1
theorem q_newGo2 : type_of% @newGo.eq_2 := id @newGo.eq_2
theorem q_setFin1 : type_of% @setFin.eq_1 := id @setFin.eq_1
theorem q_setFin2 : type_of% @setFin.eq_2 := id @setFin.eq_2
theorem q_setGo1 : type_of% @setGo.eq_1 := id @setGo.eq_1
theorem q_setGo2 : type_of% @setGo.eq_2 := id @setGo.eq_2
theorem q_chn1 : type_of% @chn.eq_1 := id @chn.eq_1
theorem q_chn2 : type_of% @chn.eq_2 := id @chn.eq_2
theorem q_compGo1 : type_of% @compGo.eq_1 := id @compGo.eq_1
theorem q_compGo2 : type_of% @compGo.eq_2 := id @compGo.eq_2
theorem q_ckGo1 : type_of% @ckGo.eq_1 := id @ckGo.eq_1
theorem q_ckGo2 : type_of% @ckGo.eq_2 := id @ckGo.eq_2
theorem q_ugo1 : type_of% @ugo.eq_1 := id @ugo.eq_1
theorem q_ugo2 : type_of% @ugo.eq_2 := id @ugo.eq_2
theorem q_sgo1 : type_of% @sgo.eq_1 := id @sgo.eq_1
theorem q_sgo2 : type_of% @sgo.eq_2 := id @sgo.eq_2
theorem q_agoF1 : type_of% @agoF.eq_1 := id @agoF.eq_1
theorem q_agoF2 : type_of% @agoF.eq_2 := id @agoF.eq_2
theorem q_ago1 : type_of% @ago.eq_1 := id @ago.eq_1
theorem q_ago2 : type_of% @ago.eq_2 := id @ago.eq_2
theorem q_ago3 : type_of% @ago.eq_3 := id @ago.eq_3
theorem q_fgo1 : type_of% @fgo.eq_1 := id @fgo.eq_1
theorem q_fgo2 : type_of% @fgo.eq_2 := id @fgo.eq_2
theorem q_fstep1 : type_of% @fstep.eq_1 := id @fstep.eq_1
theorem q_fstep2 : type_of% @fstep.eq_2 := id @fstep.eq_2
theorem q_fstep3 : type_of% @fstep.eq_3 := id @fstep.eq_3
theorem q_fstep4 : type_of% @fstep.eq_4 := id @fstep.eq_4
theorem q_fstep5 : type_of% @fstep.eq_5 := id @fstep.eq_5
theorem q_fstep6 : type_of% @fstep.eq_6 := id @fstep.eq_6
theorem q_truD1 : type_of% @truD.eq_1 := id @truD.eq_1
theorem q_truD2 : type_of% @truD.eq_2 := id @truD.eq_2
theorem q_truD3 : type_of% @truD.eq_3 := id @truD.eq_3
theorem q_truD4 : type_of% @truD.eq_4 := id @truD.eq_4
theorem q_truD5 : type_of% @truD.eq_5 := id @truD.eq_5
theorem q_truD6 : type_of% @truD.eq_6 := id @truD.eq_6
theorem q_truD7 : type_of% @truD.eq_7 := id @truD.eq_7
theorem q_addD1 : type_of% @addD.eq_1 := id @addD.eq_1
theorem q_addD2 : type_of% @addD.eq_2 := id @addD.eq_2
theorem q_addD3 : type_of% @addD.eq_3 := id @addD.eq_3
theorem q_addD4 : type_of% @addD.eq_4 := id @addD.eq_4
theorem q_ixD1 : type_of% @ixD.eq_1 := id @ixD.eq_1
theorem q_ixD2 : type_of% @ixD.eq_2 := id @ixD.eq_2
theorem q_ixD3 : type_of% @ixD.eq_3 := id @ixD.eq_3
theorem q_slD1 : type_of% @slD.eq_1 := id @slD.eq_1
theorem q_slD2 : type_of% @slD.eq_2 := id @slD.eq_2
theorem q_lenD1 : type_of% @lenD.eq_1 := id @lenD.eq_1
theorem q_lenD2 : type_of% @lenD.eq_2 := id @lenD.eq_2
theorem q_lenD3 : type_of% @lenD.eq_3 := id @lenD.eq_3
theorem q_seqD1 : type_of% @seqD.eq_1 := id @seqD.eq_1
theorem q_seqD2 : type_of% @seqD.eq_2 := id @seqD.eq_2
theorem q_seqD3 : type_of% @seqD.eq_3 := id @seqD.eq_3
end Mp
namespace Mp
theorem q_cStep1 : type_of% @cStep.eq_1 := id @cStep.eq_1
theorem q_cEnd1 : type_of% @cEnd.eq_1 := id @cEnd.eq_1
theorem q_cEnd2 : type_of% @cEnd.eq_2 := id @cEnd.eq_2
end Mp
namespace Mp
open PySem PySem.Spec L2
/-- a store with one cell told apart -/
def stq (pre : Sto) (c : Cell) (rest : Sto) : Sto := pre ++ c :: rest
theorem stq_get (pre rest : Sto) (c : Cell) : (stq pre c rest)[pre.length]? = some c := by simp [stq]
theorem stq_set (pre rest : Sto) (c d : Cell) : (stq pre c rest).set pre.length d = stq pre d rest := by simp [stq]
theorem stq_len (pre rest : Sto) (c : Cell) : (stq pre c rest).length = pre.length + rest.length + 1 := by simp [stq]; omega
theorem stq_app (pre rest : Sto) (c x : Cell) : stq pre c rest ++ [x] = stq pre c (rest ++ [x]) := by simp [stq]
theorem stq_top (pre rest : Sto) (c x : Cell) : (stq pre c (rest ++ [x]))[pre.length + rest.length + 1]? = some x := by
  unfold stq
  rw [List.getElem?_append_right (by omega), show pre.length + rest.length + 1 - pre.length = rest.length + 1 by omega, List.getElem?_cons_succ]
  simp
theorem stq_take (pre rest : Sto) (c : Cell) : (stq pre c rest).take (pre.length + rest.length + 1) = stq pre c rest := by
  rw [List.take_of_length_le]
  rw [stq_len]
  omega
theorem stq_take2 (pre rest : Sto) (c x : Cell) : (stq pre c (rest ++ [x])).take (pre.length + rest.length + 1) = stq pre c rest := by
  unfold stq
  rw [List.take_append, List.take_of_length_le (by omega), show pre.length + rest.length + 1 - pre.length = rest.length + 1 by omega]
  simp
end Mp

set_option Elab.async false
set_option linter.all false
set_option maxRecDepth 100000
set_option maxHeartbeats 4000000
namespace K60
open PySem PySem.Spec PyProof.Rows L2 Mp
def txt (i : Nat) : Stmt := PySem.Challenge.pw_seekunder_k60_whole_raw_terms_and_loose.main.body.getD i (.Pass ⟨0, 0, 0, 0⟩)
/-- is_integer(thing, least, most) -/
def b0 : Ss := (.cons (.ret (.and (.cons (.pr (.isinst .int) (.cons (.var 0) .nil)) (.cons (.not (.pr (.isinst .bool) (.cons (.var 0) .nil))) (.cons (.chain .le .le (.var 1) (.var 0) (.var 2)) .nil)))))
    .nil)
abbrev s0 : Stmt := txt 6
abbrev n0 : List Str := ["thing", "least", "most"]
/-- is_word(thing, sign) -/
def b1 : Ss := (.cons (.ite (.or (.cons (.not (.pr (.isinst .str) (.cons (.var 0) .nil))) (.cons (.not (.chain .le .le (.lit (.int 1)) (.pr .len (.cons (.var 0) .nil)) (.glob "MOST_SIGNS" (.int 12)))) (.cons (.pr .notin (.cons (.pr .ix (.cons (.var 0) (.cons (.lit (.int 0)) .nil))) (.cons (.glob "LETTERS" (.str "abcdefghijklmnopqrstuvwxyz")) .nil))) .nil)))) (.cons (.ret (.lit (.bool false)))
    .nil) .nil)
    (.cons (.ret (.pr .all (.cons (.comp [1] (.one 1) .seq (.cons (.var 0) .nil) (.lit (.bool true)) (.or (.cons (.pr .isin (.cons (.var 1) (.cons (.glob "LETTERS" (.str "abcdefghijklmnopqrstuvwxyz")) .nil))) (.cons (.pr .isin (.cons (.var 1) (.cons (.glob "FIGURES" (.str "0123456789")) .nil))) .nil)))) .nil)))
    .nil))
abbrev s1 : Stmt := txt 7
abbrev n1 : List Str := ["thing", "sign"]
/-- is_kind_node(thing) -/
def b2 : Ss := (.cons (.ite (.or (.cons (.not (.pr (.isinst .tuple) (.cons (.var 0) .nil))) (.cons (.pr .lt (.cons (.pr .len (.cons (.var 0) .nil)) (.cons (.lit (.int 2)) .nil))) (.cons (.not (.pr (.isinst .str) (.cons (.pr .ix (.cons (.var 0) (.cons (.lit (.int 0)) .nil))) .nil))) .nil)))) (.cons (.ret (.lit (.bool false)))
    .nil) .nil)
    (.cons (.ite (.pr .eq (.cons (.pr .ix (.cons (.var 0) (.cons (.lit (.int 0)) .nil))) (.cons (.lit (.str "base")) .nil))) (.cons (.ret (.and (.cons (.pr .eq (.cons (.pr .len (.cons (.var 0) .nil)) (.cons (.lit (.int 2)) .nil))) (.cons (.call 1 (.cons (.pr .ix (.cons (.var 0) (.cons (.lit (.int 1)) .nil))) .nil)) .nil))))
    .nil) .nil)
    (.cons (.ret (.and (.cons (.pr .eq (.cons (.pr .ix (.cons (.var 0) (.cons (.lit (.int 0)) .nil))) (.cons (.lit (.str "arrow")) .nil))) (.cons (.pr .eq (.cons (.pr .len (.cons (.var 0) .nil)) (.cons (.lit (.int 3)) .nil))) .nil))))
    .nil)))
abbrev s2 : Stmt := txt 8
abbrev n2 : List Str := ["thing"]
/-- is_kind_form(thing, left, many, here, deep) -/
def b3 : Ss := (.cons (.par 1 2 (.new (.cons (.pr .tup (.cons (.var 0) (.cons (.lit (.int 1)) .nil))) .nil)) (.lit (.int 0)))
    (.cons (.while_ (.pr .ne (.cons (.var 1) (.cons (.pr .lst .nil) .nil))) (.cons (.unp [3, 4] (.act0 .pop (.var 1)))
    (.cons (.aug 2 .add (.lit (.int 1)))
    (.cons (.ite (.or (.cons (.pr .gt (.cons (.var 2) (.cons (.glob "MOST_KIND_NODES" (.int 200)) .nil))) (.cons (.pr .gt (.cons (.var 4) (.cons (.glob "MOST_KIND_DEEP" (.int 20)) .nil))) (.cons (.not (.call 2 (.cons (.var 3) .nil))) .nil)))) (.cons (.ret (.lit (.bool false)))
    .nil) .nil)
    (.cons (.ite (.pr .eq (.cons (.pr .ix (.cons (.var 3) (.cons (.lit (.int 0)) .nil))) (.cons (.lit (.str "arrow")) .nil))) (.cons (.ex (.act1 .extend (.var 1) (.pr .lst (.cons (.pr .tup (.cons (.pr .ix (.cons (.var 3) (.cons (.lit (.int 2)) .nil))) (.cons (.pr .add (.cons (.var 4) (.cons (.lit (.int 1)) .nil))) .nil))) (.cons (.pr .tup (.cons (.pr .ix (.cons (.var 3) (.cons (.lit (.int 1)) .nil))) (.cons (.pr .add (.cons (.var 4) (.cons (.lit (.int 1)) .nil))) .nil))) .nil)))))
    .nil) .nil)
    .nil)))))
    (.cons (.ret (.lit (.bool true)))
    .nil)))
abbrev s3 : Stmt := txt 9
abbrev n3 : List Str := ["thing", "left", "many", "here", "deep"]
/-- is_raw_node(thing) -/
def b4 : Ss := (.cons (.ite (.or (.cons (.not (.pr (.isinst .tuple) (.cons (.var 0) .nil))) (.cons (.pr .lt (.cons (.pr .len (.cons (.var 0) .nil)) (.cons (.lit (.int 2)) .nil))) (.cons (.not (.pr (.isinst .str) (.cons (.pr .ix (.cons (.var 0) (.cons (.lit (.int 0)) .nil))) .nil))) .nil)))) (.cons (.ret (.lit (.bool false)))
    .nil) .nil)
    (.cons (.ite (.pr .eq (.cons (.pr .ix (.cons (.var 0) (.cons (.lit (.int 0)) .nil))) (.cons (.lit (.str "var")) .nil))) (.cons (.ret (.and (.cons (.pr .eq (.cons (.pr .len (.cons (.var 0) .nil)) (.cons (.lit (.int 2)) .nil))) (.cons (.call 0 (.cons (.pr .ix (.cons (.var 0) (.cons (.lit (.int 1)) .nil))) (.cons (.lit (.int 0)) (.cons (.glob "MOST_VARIABLE" (.int 999)) .nil)))) .nil))))
    .nil) .nil)
    (.cons (.ite (.pr .eq (.cons (.pr .ix (.cons (.var 0) (.cons (.lit (.int 0)) .nil))) (.cons (.lit (.str "con")) .nil))) (.cons (.ret (.and (.cons (.pr .eq (.cons (.pr .len (.cons (.var 0) .nil)) (.cons (.lit (.int 2)) .nil))) (.cons (.call 1 (.cons (.pr .ix (.cons (.var 0) (.cons (.lit (.int 1)) .nil))) .nil)) .nil))))
    .nil) .nil)
    (.cons (.ret (.ite (.pr .eq (.cons (.pr .ix (.cons (.var 0) (.cons (.lit (.int 0)) .nil))) (.cons (.lit (.str "lam")) .nil))) (.pr .eq (.cons (.pr .len (.cons (.var 0) .nil)) (.cons (.lit (.int 2)) .nil))) (.and (.cons (.pr .eq (.cons (.pr .ix (.cons (.var 0) (.cons (.lit (.int 0)) .nil))) (.cons (.lit (.str "app")) .nil))) (.cons (.pr .eq (.cons (.pr .len (.cons (.var 0) .nil)) (.cons (.lit (.int 3)) .nil))) .nil)))))
    .nil))))
abbrev s4 : Stmt := txt 15
abbrev n4 : List Str := ["thing"]
/-- raw_parts(raw) -/
def b5 : Ss := (.cons (.ret (.ite (.pr .isin (.cons (.pr .ix (.cons (.var 0) (.cons (.lit (.int 0)) .nil))) (.cons (.pr .tup (.cons (.lit (.str "lam")) (.cons (.lit (.str "app")) .nil))) .nil))) (.pr .slFrom (.cons (.var 0) (.cons (.lit (.int 1)) .nil))) (.pr .tup .nil)))
    .nil)
abbrev s5 : Stmt := txt 16
abbrev n5 : List Str := ["raw"]
/-- is_raw_form(thing, left, many, here, deep, part) -/
def b6 : Ss := (.cons (.par 1 2 (.new (.cons (.pr .tup (.cons (.var 0) (.cons (.lit (.int 1)) .nil))) .nil)) (.lit (.int 0)))
    (.cons (.while_ (.pr .ne (.cons (.var 1) (.cons (.pr .lst .nil) .nil))) (.cons (.unp [3, 4] (.act0 .pop (.var 1)))
    (.cons (.aug 2 .add (.lit (.int 1)))
    (.cons (.ite (.or (.cons (.pr .gt (.cons (.var 2) (.cons (.glob "MOST_NODES" (.int 2000)) .nil))) (.cons (.pr .gt (.cons (.var 4) (.cons (.glob "MOST_DEEP" (.int 60)) .nil))) (.cons (.not (.call 4 (.cons (.var 3) .nil))) .nil)))) (.cons (.ret (.lit (.bool false)))
    .nil) .nil)
    (.cons (.for_ (.one 5) .seq (.cons (.call 5 (.cons (.var 3) .nil)) .nil) (.cons (.ex (.act1 .append (.var 1) (.pr .tup (.cons (.var 5) (.cons (.pr .add (.cons (.var 4) (.cons (.lit (.int 1)) .nil))) .nil)))))
    .nil))
    .nil)))))
    (.cons (.ret (.lit (.bool true)))
    .nil)))
abbrev s6 : Stmt := txt 17
abbrev n6 : List Str := ["thing", "left", "many", "here", "deep", "part"]
/-- is_loose_node(thing) -/
def b7 : Ss := (.cons (.ite (.call 2 (.cons (.var 0) .nil)) (.cons (.ret (.lit (.bool true)))
    .nil) .nil)
    (.cons (.ret (.and (.cons (.pr (.isinst .tuple) (.cons (.var 0) .nil)) (.cons (.pr .eq (.cons (.pr .len (.cons (.var 0) .nil)) (.cons (.lit (.int 2)) .nil))) (.cons (.pr .eq (.cons (.pr .ix (.cons (.var 0) (.cons (.lit (.int 0)) .nil))) (.cons (.lit (.str "any")) .nil))) (.cons (.call 0 (.cons (.pr .ix (.cons (.var 0) (.cons (.lit (.int 1)) .nil))) (.cons (.lit (.int 0)) (.cons (.glob "LAST_ANY" (.int 999)) .nil)))) .nil))))))
    .nil))
abbrev s7 : Stmt := txt 18
abbrev n7 : List Str := ["thing"]
/-- is_loose_form(thing, left, many, here, deep) -/
def b8 : Ss := (.cons (.par 1 2 (.new (.cons (.pr .tup (.cons (.var 0) (.cons (.lit (.int 1)) .nil))) .nil)) (.lit (.int 0)))
    (.cons (.while_ (.pr .ne (.cons (.var 1) (.cons (.pr .lst .nil) .nil))) (.cons (.unp [3, 4] (.act0 .pop (.var 1)))
    (.cons (.aug 2 .add (.lit (.int 1)))
    (.cons (.ite (.or (.cons (.pr .gt (.cons (.var 2) (.cons (.glob "MOST_KIND_NODES" (.int 200)) .nil))) (.cons (.pr .gt (.cons (.var 4) (.cons (.glob "MOST_KIND_DEEP" (.int 20)) .nil))) (.cons (.not (.call 7 (.cons (.var 3) .nil))) .nil)))) (.cons (.ret (.lit (.bool false)))
    .nil) .nil)
    (.cons (.ite (.pr .eq (.cons (.pr .ix (.cons (.var 3) (.cons (.lit (.int 0)) .nil))) (.cons (.lit (.str "arrow")) .nil))) (.cons (.ex (.act1 .extend (.var 1) (.pr .lst (.cons (.pr .tup (.cons (.pr .ix (.cons (.var 3) (.cons (.lit (.int 2)) .nil))) (.cons (.pr .add (.cons (.var 4) (.cons (.lit (.int 1)) .nil))) .nil))) (.cons (.pr .tup (.cons (.pr .ix (.cons (.var 3) (.cons (.lit (.int 1)) .nil))) (.cons (.pr .add (.cons (.var 4) (.cons (.lit (.int 1)) .nil))) .nil))) .nil)))))
    .nil) .nil)
    .nil)))))
    (.cons (.ret (.lit (.bool true)))
    .nil)))
abbrev s8 : Stmt := txt 19
abbrev n8 : List Str := ["thing", "left", "many", "here", "deep"]
/-- is_raw(thing) -/
def b9 : Ss := (.cons (.ret (.call 6 (.cons (.var 0) .nil)))
    .nil)
abbrev s9 : Stmt := txt 21
abbrev n9 : List Str := ["thing"]
/-- is_loose_kind(thing) -/
def b10 : Ss := (.cons (.ret (.call 8 (.cons (.var 0) .nil)))
    .nil)
abbrev s10 : Stmt := txt 22
abbrev n10 : List Str := ["thing"]
/-- is_kind(thing) -/
def b11 : Ss := (.cons (.ret (.call 3 (.cons (.var 0) .nil)))
    .nil)
abbrev s11 : Stmt := txt 24
abbrev n11 : List Str := ["thing"]
/-- _law_feed(script, k, cell) -/
def b12 : Ss := (.cons (.asg 2 (.pr .add (.cons (.pr .mul (.cons (.lit (.int 1409)) (.cons (.var 1) .nil))) (.cons (.pr .mul (.cons (.lit (.int 5)) (.cons (.pr .sum (.cons (.pr .slTo (.cons (.var 0) (.cons (.lit (.int 3)) .nil))) .nil)) .nil))) .nil))))
    (.cons (.ite (.pr .lt (.cons (.var 1) (.cons (.pr .len (.cons (.var 0) .nil)) .nil))) (.cons (.asg 2 (.pr .ix (.cons (.var 0) (.cons (.var 1) .nil))))
    .nil) .nil)
    (.cons (.ret (.new (.cons (.pr .max2 (.cons (.lit (.int 0)) (.cons (.pr .sub (.cons (.var 2) (.cons (.pr .pow (.cons (.lit (.int 10)) (.cons (.lit (.int 18)) .nil))) .nil))) .nil))) (.cons (.pr .mod (.cons (.pr .int (.cons (.pr .add (.cons (.pr .add (.cons (.pr .mul (.cons (.var 2) (.cons (.lit (.int 41)) .nil))) (.cons (.pr .mul (.cons (.lit (.int 23)) (.cons (.var 1) .nil))) .nil))) (.cons (.lit (.int 3)) .nil))) .nil)) (.cons (.pr .add (.cons (.pr .pow (.cons (.lit (.int 10)) (.cons (.lit (.int 40)) .nil))) (.cons (.lit (.int 121)) .nil))) .nil))) (.cons (.lit (.int 0)) .nil)))))
    .nil)))
abbrev s12 : Stmt := txt 26
abbrev n12 : List Str := ["script", "k", "cell"]
/-- _law_draw(feed, many, rest, got, stir) -/
def b13 : Ss := (.cons (.ite (.pr .gt (.cons (.pr .ix (.cons (.var 0) (.cons (.lit (.int 0)) .nil))) (.cons (.lit (.int 0)) .nil))) (.cons (.asg 2 (.pr .fdiv (.cons (.pr .ix (.cons (.var 0) (.cons (.lit (.int 0)) .nil))) (.cons (.var 1) .nil))))
    (.cons (.asg 3 (.pr .sub (.cons (.pr .ix (.cons (.var 0) (.cons (.lit (.int 0)) .nil))) (.cons (.pr .mul (.cons (.var 2) (.cons (.var 1) .nil))) .nil))))
    (.cons (.setix (.var 0) (.lit (.int 0)) (.var 2))
    (.cons (.ret (.var 3))
    .nil)))) .nil)
    (.cons (.setix (.var 0) (.lit (.int 2)) (.pr .add (.cons (.pr .ix (.cons (.var 0) (.cons (.lit (.int 2)) .nil))) (.cons (.lit (.int 1)) .nil))))
    (.cons (.asg 4 (.pr .add (.cons (.pr .ix (.cons (.var 0) (.cons (.lit (.int 1)) .nil))) (.cons (.pr .mul (.cons (.lit (.int 86028121)) (.cons (.pr .ix (.cons (.var 0) (.cons (.lit (.int 2)) .nil))) .nil))) .nil))))
    (.cons (.asg 4 (.pr .mod (.cons (.pr .int (.cons (.pr .add (.cons (.pr .add (.cons (.pr .mul (.cons (.pr .mul (.cons (.var 4) (.cons (.var 4) .nil))) (.cons (.var 4) .nil))) (.cons (.pr .mul (.cons (.lit (.int 49979693)) (.cons (.pr .ix (.cons (.var 0) (.cons (.lit (.int 2)) .nil))) .nil))) .nil))) (.cons (.lit (.int 7)) .nil))) .nil)) (.cons (.pr .add (.cons (.pr .pow (.cons (.lit (.int 10)) (.cons (.lit (.int 41)) .nil))) (.cons (.lit (.int 81)) .nil))) .nil))))
    (.cons (.asg 4 (.pr .mod (.cons (.pr .int (.cons (.pr .add (.cons (.pr .mul (.cons (.var 4) (.cons (.var 4) .nil))) (.cons (.lit (.int 982451653)) .nil))) .nil)) (.cons (.pr .add (.cons (.pr .pow (.cons (.lit (.int 10)) (.cons (.lit (.int 38)) .nil))) (.cons (.lit (.int 133)) .nil))) .nil))))
    (.cons (.ret (.pr .mod (.cons (.pr .int (.cons (.pr .fdiv (.cons (.var 4) (.cons (.pr .pow (.cons (.lit (.int 10)) (.cons (.lit (.int 9)) .nil))) .nil))) .nil)) (.cons (.var 1) .nil))))
    .nil))))))
abbrev s13 : Stmt := txt 27
abbrev n13 : List Str := ["feed", "many", "rest", "got", "stir"]
/-- _law_one(feed, things) -/
def b14 : Ss := (.cons (.ret (.pr .ix (.cons (.var 1) (.cons (.call 13 (.cons (.var 0) (.cons (.pr .len (.cons (.var 1) .nil)) .nil))) .nil))))
    .nil)
abbrev s14 : Stmt := txt 28
abbrev n14 : List Str := ["feed", "things"]
/-- _law_is(told, due) -/
def b15 : Ss := (.cons (.ret (.and (.cons (.pr (.isinst .bool) (.cons (.var 0) .nil)) (.cons (.pr .eq (.cons (.var 0) (.cons (.var 1) .nil))) .nil))))
    .nil)
abbrev s15 : Stmt := txt 29
abbrev n15 : List Str := ["told", "due"]
/-- _law_word(feed, signs, word, turn) -/
def b16 : Ss := (.cons (.asg 1 (.lit (.str "abcdefghijklmnopqrstuvwxyz0123456789")))
    (.cons (.asg 2 (.pr .ix (.cons (.var 1) (.cons (.call 13 (.cons (.var 0) (.cons (.lit (.int 26)) .nil))) .nil))))
    (.cons (.for_ (.one 3) .range1 (.cons (.call 14 (.cons (.var 0) (.cons (.pr .lst (.cons (.lit (.int 0)) (.cons (.lit (.int 1)) (.cons (.lit (.int 4)) (.cons (.lit (.int 11)) .nil))))) .nil))) .nil) (.cons (.asg 2 (.pr .add (.cons (.var 2) (.cons (.pr .ix (.cons (.var 1) (.cons (.call 13 (.cons (.var 0) (.cons (.lit (.int 36)) .nil))) .nil))) .nil))))
    .nil))
    (.cons (.ret (.var 2))
    .nil))))
abbrev s16 : Stmt := txt 30
abbrev n16 : List Str := ["feed", "signs", "word", "turn"]
/-- _law_parts(node) -/
def b17 : Ss := (.cons (.ret (.ite (.pr .isin (.cons (.pr .ix (.cons (.var 0) (.cons (.lit (.int 0)) .nil))) (.cons (.pr .tup (.cons (.lit (.str "lam")) (.cons (.lit (.str "app")) (.cons (.lit (.str "arrow")) .nil)))) .nil))) (.pr .slFrom (.cons (.var 0) (.cons (.lit (.int 1)) .nil))) (.pr .tup .nil)))
    .nil)
abbrev s17 : Stmt := txt 31
abbrev n17 : List Str := ["node"]
/-- _law_swapped(feed, node, other, deep, parts, at, index, part) -/
def b18 : Ss := (.cons (.asg 4 (.call 17 (.cons (.var 1) .nil)))
    (.cons (.ite (.or (.cons (.pr .eq (.cons (.var 4) (.cons (.pr .tup .nil) .nil))) (.cons (.pr .lt (.cons (.var 3) (.cons (.lit (.int 1)) .nil))) (.cons (.pr .eq (.cons (.call 13 (.cons (.var 0) (.cons (.lit (.int 4)) .nil))) (.cons (.lit (.int 0)) .nil))) .nil)))) (.cons (.ret (.var 2))
    .nil) .nil)
    (.cons (.asg 5 (.call 13 (.cons (.var 0) (.cons (.pr .len (.cons (.var 4) .nil)) .nil))))
    (.cons (.ret (.pr .add (.cons (.pr .slTo (.cons (.var 1) (.cons (.lit (.int 1)) .nil))) (.cons (.pr .tupleOf (.cons (.comp [6, 7] (.many [6, 7]) .enum (.cons (.var 4) .nil) (.lit (.bool true)) (.ite (.pr .eq (.cons (.var 6) (.cons (.var 5) .nil))) (.call 18 (.cons (.var 0) (.cons (.var 7) (.cons (.var 2) (.cons (.pr .sub (.cons (.var 3) (.cons (.lit (.int 1)) .nil))) .nil))))) (.var 7))) .nil)) .nil))))
    .nil))))
abbrev s18 : Stmt := txt 32
abbrev n18 : List Str := ["feed", "node", "other", "deep", "parts", "at", "index", "part"]
/-- _law_leaf(feed) -/
def b19 : Ss := (.cons (.ite (.pr .eq (.cons (.call 13 (.cons (.var 0) (.cons (.lit (.int 2)) .nil))) (.cons (.lit (.int 0)) .nil))) (.cons (.ret (.pr .tup (.cons (.lit (.str "con")) (.cons (.call 16 (.cons (.var 0) .nil)) .nil))))
    .nil) .nil)
    (.cons (.ret (.pr .tup (.cons (.lit (.str "var")) (.cons (.call 14 (.cons (.var 0) (.cons (.pr .lst (.cons (.lit (.int 0)) (.cons (.lit (.int 1)) (.cons (.lit (.int 999)) (.cons (.call 13 (.cons (.var 0) (.cons (.lit (.int 1000)) .nil))) .nil))))) .nil))) .nil))))
    .nil))
abbrev s19 : Stmt := txt 33
abbrev n19 : List Str := ["feed"]
/-- _law_small(feed, deep, way) -/
def b20 : Ss := (.cons (.asg 2 (.ite (.pr .gt (.cons (.var 1) (.cons (.lit (.int 0)) .nil))) (.call 13 (.cons (.var 0) (.cons (.lit (.int 5)) .nil))) (.lit (.int 0))))
    (.cons (.ite (.pr .eq (.cons (.var 2) (.cons (.lit (.int 0)) .nil))) (.cons (.ret (.call 19 (.cons (.var 0) .nil)))
    .nil) .nil)
    (.cons (.ite (.pr .lt (.cons (.var 2) (.cons (.lit (.int 3)) .nil))) (.cons (.ret (.pr .tup (.cons (.lit (.str "lam")) (.cons (.call 20 (.cons (.var 0) (.cons (.pr .sub (.cons (.var 1) (.cons (.lit (.int 1)) .nil))) .nil))) .nil))))
    .nil) .nil)
    (.cons (.ret (.pr .tup (.cons (.lit (.str "app")) (.cons (.call 20 (.cons (.var 0) (.cons (.pr .sub (.cons (.var 1) (.cons (.lit (.int 1)) .nil))) .nil))) (.cons (.call 20 (.cons (.var 0) (.cons (.pr .sub (.cons (.var 1) (.cons (.lit (.int 1)) .nil))) .nil))) .nil)))))
    .nil))))
abbrev s20 : Stmt := txt 34
abbrev n20 : List Str := ["feed", "deep", "way"]
/-- _law_flat(leaf, many, first) -/
def b21 : Ss := (.cons (.ite (.pr .lt (.cons (.var 1) (.cons (.lit (.int 3)) .nil))) (.cons (.ret (.ite (.pr .eq (.cons (.var 1) (.cons (.lit (.int 2)) .nil))) (.pr .tup (.cons (.lit (.str "lam")) (.cons (.var 0) .nil))) (.var 0)))
    .nil) .nil)
    (.cons (.asg 2 (.pr .fdiv (.cons (.pr .sub (.cons (.var 1) (.cons (.lit (.int 1)) .nil))) (.cons (.lit (.int 2)) .nil))))
    (.cons (.ret (.pr .tup (.cons (.lit (.str "app")) (.cons (.call 21 (.cons (.var 0) (.cons (.var 2) .nil))) (.cons (.call 21 (.cons (.var 0) (.cons (.pr .sub (.cons (.pr .sub (.cons (.var 1) (.cons (.lit (.int 1)) .nil))) (.cons (.var 2) .nil))) .nil))) .nil)))))
    .nil)))
abbrev s21 : Stmt := txt 35
abbrev n21 : List Str := ["leaf", "many", "first"]
/-- _law_thin(feed, leaf, deep, term, turn) -/
def b22 : Ss := (.cons (.asg 3 (.var 1))
    (.cons (.for_ (.one 4) .range1 (.cons (.pr .sub (.cons (.var 2) (.cons (.lit (.int 1)) .nil))) .nil) (.cons (.asg 3 (.call 14 (.cons (.var 0) (.cons (.pr .lst (.cons (.pr .tup (.cons (.lit (.str "lam")) (.cons (.var 3) .nil))) (.cons (.pr .tup (.cons (.lit (.str "app")) (.cons (.var 3) (.cons (.var 1) .nil)))) (.cons (.pr .tup (.cons (.lit (.str "app")) (.cons (.var 1) (.cons (.var 3) .nil)))) .nil)))) .nil))))
    .nil))
    (.cons (.ret (.var 3))
    .nil)))
abbrev s22 : Stmt := txt 36
abbrev n22 : List Str := ["feed", "leaf", "deep", "term", "turn"]
/-- _law_no_raw(feed, leaf, things) -/
def b23 : Ss := (.cons (.asg 2 (.pr .lst (.cons (.lit .none) (.cons (.lit (.int 0)) (.cons (.lit (.bool true)) (.cons (.lit (.str "var")) (.cons (.lit (.str "")) (.cons (.pr .tup .nil) (.cons (.pr .lst .nil) (.cons (.pr .tup (.cons (.lit (.str "var")) .nil)) (.cons (.pr .tup (.cons (.lit (.str "lam")) .nil)) (.cons (.pr .tup (.cons (.lit (.str "app")) (.cons (.var 1) .nil))) (.cons (.pr .tup (.cons (.lit (.str "app")) (.cons (.var 1) (.cons (.var 1) (.cons (.var 1) .nil))))) (.cons (.pr .tup (.cons (.lit (.str "lam")) (.cons (.var 1) (.cons (.var 1) .nil)))) .nil))))))))))))))
    (.cons (.asg 2 (.pr .add (.cons (.var 2) (.cons (.pr .lst (.cons (.pr .tup (.cons (.lit (.str "var")) (.cons (.pr .neg (.cons (.lit (.int 1)) .nil)) .nil))) (.cons (.pr .tup (.cons (.lit (.str "var")) (.cons (.lit (.int 1000)) .nil))) (.cons (.pr .tup (.cons (.lit (.str "var")) (.cons (.lit (.bool true)) .nil))) (.cons (.pr .tup (.cons (.lit (.str "var")) (.cons (.lit (.str "0")) .nil))) (.cons (.pr .tup (.cons (.lit (.str "var")) (.cons (.lit (.int 0)) (.cons (.lit (.int 0)) .nil)))) (.cons (.pr .lst (.cons (.lit (.str "var")) (.cons (.lit (.int 0)) .nil))) (.cons (.pr .lst (.cons (.lit (.str "lam")) (.cons (.var 1) .nil))) (.cons (.pr .tup (.cons (.var 1) .nil)) .nil))))))))) .nil))))
    (.cons (.asg 2 (.pr .add (.cons (.var 2) (.cons (.pr .lst (.cons (.pr .tup (.cons (.lit (.str "con")) (.cons (.lit (.str "")) .nil))) (.cons (.pr .tup (.cons (.lit (.str "con")) (.cons (.lit (.str "A")) .nil))) (.cons (.pr .tup (.cons (.lit (.str "con")) (.cons (.lit (.str "9a")) .nil))) (.cons (.pr .tup (.cons (.lit (.str "con")) (.cons (.lit (.str "abcdefghijklm")) .nil))) (.cons (.pr .tup (.cons (.lit (.str "con")) (.cons (.lit (.str "a_")) .nil))) (.cons (.pr .tup (.cons (.lit (.str "con")) (.cons (.lit (.str "a ")) .nil))) (.cons (.pr .tup (.cons (.lit (.str "con")) (.cons (.lit (.int 3)) .nil))) .nil)))))))) .nil))))
    (.cons (.asg 2 (.pr .add (.cons (.var 2) (.cons (.pr .lst (.cons (.pr .tup (.cons (.lit (.str "con")) (.cons (.pr .tup (.cons (.lit (.str "a")) .nil)) .nil))) (.cons (.pr .tup (.cons (.lit (.str "hole")) (.cons (.lit (.int 0)) .nil))) (.cons (.pr .tup (.cons (.lit (.str "any")) (.cons (.lit (.int 0)) .nil))) (.cons (.pr .tup (.cons (.lit (.str "Lam")) (.cons (.var 1) .nil))) (.cons (.pr .tup (.cons (.lit (.str "fun")) (.cons (.pr .tup (.cons (.lit (.str "base")) (.cons (.lit (.str "a")) .nil))) (.cons (.var 1) .nil)))) (.cons (.pr .tup (.cons (.lit (.str "fun")) (.cons (.var 1) .nil))) (.cons (.pr .lst (.cons (.lit (.str "app")) (.cons (.var 1) (.cons (.var 1) .nil)))) .nil)))))))) .nil))))
    (.cons (.ret (.call 14 (.cons (.var 0) (.cons (.var 2) .nil))))
    .nil)))))
abbrev s23 : Stmt := txt 37
abbrev n23 : List Str := ["feed", "leaf", "things"]
/-- _law_terms(feed, leaf, many, deep, things, thing, due) -/
def b24 : Ss := (.cons (.asg 1 (.call 19 (.cons (.var 0) .nil)))
    (.cons (.par 2 3 (.pr .add (.cons (.lit (.int 1999)) (.cons (.call 13 (.cons (.var 0) (.cons (.lit (.int 3)) .nil))) .nil))) (.pr .add (.cons (.lit (.int 59)) (.cons (.call 13 (.cons (.var 0) (.cons (.lit (.int 3)) .nil))) .nil))))
    (.cons (.asg 4 (.pr .lst (.cons (.pr .tup (.cons (.call 20 (.cons (.var 0) (.cons (.call 13 (.cons (.var 0) (.cons (.lit (.int 7)) .nil))) .nil))) (.cons (.lit (.bool true)) .nil))) (.cons (.pr .tup (.cons (.call 21 (.cons (.var 1) (.cons (.var 2) .nil))) (.cons (.pr .lt (.cons (.var 2) (.cons (.lit (.int 2001)) .nil))) .nil))) (.cons (.pr .tup (.cons (.call 22 (.cons (.var 0) (.cons (.var 1) (.cons (.var 3) .nil)))) (.cons (.pr .lt (.cons (.var 3) (.cons (.lit (.int 61)) .nil))) .nil))) .nil)))))
    (.cons (.for_ (.many [5, 6]) .seq (.cons (.var 4) .nil) (.cons (.ite (.or (.cons (.not (.call 15 (.cons (.call 9 (.cons (.var 5) .nil)) (.cons (.var 6) .nil)))) (.cons (.not (.call 15 (.cons (.callk 0 9 [0] (.cons (.var 5) .nil)) (.cons (.var 6) .nil)))) .nil))) (.cons (.ret (.lit (.bool false)))
    .nil) .nil)
    (.cons (.ite (.not (.call 15 (.cons (.call 9 (.cons (.call 18 (.cons (.var 0) (.cons (.var 5) (.cons (.call 23 (.cons (.var 0) (.cons (.var 1) .nil))) (.cons (.lit (.int 70)) .nil))))) .nil)) (.cons (.lit (.bool false)) .nil)))) (.cons (.ret (.lit (.bool false)))
    .nil) .nil)
    .nil)))
    (.cons (.ret (.lit (.bool true)))
    .nil)))))
abbrev s24 : Stmt := txt 38
abbrev n24 : List Str := ["feed", "leaf", "many", "deep", "things", "thing", "due"]
/-- _law_loose_leaf(feed) -/
def b25 : Ss := (.cons (.ite (.pr .eq (.cons (.call 13 (.cons (.var 0) (.cons (.lit (.int 2)) .nil))) (.cons (.lit (.int 0)) .nil))) (.cons (.ret (.pr .tup (.cons (.lit (.str "base")) (.cons (.call 14 (.cons (.var 0) (.cons (.pr .lst (.cons (.lit (.str "claim")) (.cons (.call 16 (.cons (.var 0) .nil)) .nil))) .nil))) .nil))))
    .nil) .nil)
    (.cons (.ret (.pr .tup (.cons (.lit (.str "any")) (.cons (.call 14 (.cons (.var 0) (.cons (.pr .lst (.cons (.lit (.int 0)) (.cons (.lit (.int 1)) (.cons (.lit (.int 999)) (.cons (.call 13 (.cons (.var 0) (.cons (.lit (.int 1000)) .nil))) .nil))))) .nil))) .nil))))
    .nil))
abbrev s25 : Stmt := txt 39
abbrev n25 : List Str := ["feed"]
/-- _law_small_kind(feed, deep) -/
def b26 : Ss := (.cons (.ite (.or (.cons (.pr .lt (.cons (.var 1) (.cons (.lit (.int 1)) .nil))) (.cons (.pr .eq (.cons (.call 13 (.cons (.var 0) (.cons (.lit (.int 4)) .nil))) (.cons (.lit (.int 0)) .nil))) .nil))) (.cons (.ret (.call 25 (.cons (.var 0) .nil)))
    .nil) .nil)
    (.cons (.ret (.pr .tup (.cons (.lit (.str "arrow")) (.cons (.call 26 (.cons (.var 0) (.cons (.pr .sub (.cons (.var 1) (.cons (.lit (.int 1)) .nil))) .nil))) (.cons (.call 26 (.cons (.var 0) (.cons (.pr .sub (.cons (.var 1) (.cons (.lit (.int 1)) .nil))) .nil))) .nil)))))
    .nil))
abbrev s26 : Stmt := txt 40
abbrev n26 : List Str := ["feed", "deep"]
/-- _law_flat_kind(leaf, many) -/
def b27 : Ss := (.cons (.ite (.pr .eq (.cons (.var 1) (.cons (.lit (.int 1)) .nil))) (.cons (.ret (.var 0))
    .nil) .nil)
    (.cons (.ret (.pr .tup (.cons (.lit (.str "arrow")) (.cons (.call 27 (.cons (.var 0) (.cons (.pr .fdiv (.cons (.var 1) (.cons (.lit (.int 2)) .nil))) .nil))) (.cons (.call 27 (.cons (.var 0) (.cons (.pr .sub (.cons (.var 1) (.cons (.pr .fdiv (.cons (.var 1) (.cons (.lit (.int 2)) .nil))) .nil))) .nil))) .nil)))))
    .nil))
abbrev s27 : Stmt := txt 41
abbrev n27 : List Str := ["leaf", "many"]
/-- _law_thin_kind(feed, leaf, deep, kind, turn) -/
def b28 : Ss := (.cons (.asg 3 (.var 1))
    (.cons (.for_ (.one 4) .range1 (.cons (.pr .sub (.cons (.var 2) (.cons (.lit (.int 1)) .nil))) .nil) (.cons (.asg 3 (.call 14 (.cons (.var 0) (.cons (.pr .lst (.cons (.pr .tup (.cons (.lit (.str "arrow")) (.cons (.var 3) (.cons (.var 1) .nil)))) (.cons (.pr .tup (.cons (.lit (.str "arrow")) (.cons (.var 1) (.cons (.var 3) .nil)))) .nil))) .nil))))
    .nil))
    (.cons (.ret (.var 3))
    .nil)))
abbrev s28 : Stmt := txt 42
abbrev n28 : List Str := ["feed", "leaf", "deep", "kind", "turn"]
/-- _law_no_kind(feed, leaf, things) -/
def b29 : Ss := (.cons (.asg 2 (.pr .lst (.cons (.lit .none) (.cons (.lit (.int 0)) (.cons (.lit (.bool true)) (.cons (.lit (.str "any")) (.cons (.lit (.str "")) (.cons (.pr .tup .nil) (.cons (.pr .lst .nil) (.cons (.pr .tup (.cons (.lit (.str "any")) .nil)) (.cons (.pr .tup (.cons (.lit (.str "arrow")) .nil)) (.cons (.pr .tup (.cons (.lit (.str "arrow")) (.cons (.var 1) .nil))) (.cons (.pr .tup (.cons (.lit (.str "arrow")) (.cons (.var 1) (.cons (.var 1) (.cons (.var 1) .nil))))) (.cons (.pr .tup (.cons (.var 1) .nil)) .nil))))))))))))))
    (.cons (.asg 2 (.pr .add (.cons (.var 2) (.cons (.pr .lst (.cons (.pr .tup (.cons (.lit (.str "any")) (.cons (.pr .neg (.cons (.lit (.int 1)) .nil)) .nil))) (.cons (.pr .tup (.cons (.lit (.str "any")) (.cons (.lit (.int 1000)) .nil))) (.cons (.pr .tup (.cons (.lit (.str "any")) (.cons (.lit (.bool false)) .nil))) (.cons (.pr .tup (.cons (.lit (.str "any")) (.cons (.lit (.str "0")) .nil))) (.cons (.pr .tup (.cons (.lit (.str "any")) (.cons (.lit (.int 0)) (.cons (.lit (.int 0)) .nil)))) (.cons (.pr .lst (.cons (.lit (.str "any")) (.cons (.lit (.int 0)) .nil))) (.cons (.pr .tup (.cons (.lit (.str "any")) (.cons (.lit .none) .nil))) (.cons (.pr .tup (.cons (.lit (.str "any")) (.cons (.pr .tup (.cons (.lit (.int 0)) .nil)) .nil))) .nil))))))))) .nil))))
    (.cons (.asg 2 (.pr .add (.cons (.var 2) (.cons (.pr .lst (.cons (.pr .tup (.cons (.lit (.str "base")) (.cons (.lit (.str "")) .nil))) (.cons (.pr .tup (.cons (.lit (.str "base")) (.cons (.lit (.str "A")) .nil))) (.cons (.pr .tup (.cons (.lit (.str "base")) (.cons (.lit (.str "0a")) .nil))) (.cons (.pr .tup (.cons (.lit (.str "base")) (.cons (.lit (.str "abcdefghijklm")) .nil))) (.cons (.pr .tup (.cons (.lit (.str "base")) (.cons (.lit (.str "a-")) .nil))) (.cons (.pr .tup (.cons (.lit (.str "base")) (.cons (.lit (.int 3)) .nil))) (.cons (.pr .lst (.cons (.lit (.str "base")) (.cons (.lit (.str "a")) .nil))) .nil)))))))) .nil))))
    (.cons (.asg 2 (.pr .add (.cons (.var 2) (.cons (.pr .lst (.cons (.pr .tup (.cons (.lit (.str "base")) .nil)) (.cons (.pr .tup (.cons (.lit (.str "base")) (.cons (.lit (.str "a")) (.cons (.lit (.str "a")) .nil)))) (.cons (.pr .tup (.cons (.lit (.str "var")) (.cons (.lit (.int 0)) .nil))) (.cons (.pr .tup (.cons (.lit (.str "Any")) (.cons (.lit (.int 0)) .nil))) (.cons (.pr .lst (.cons (.lit (.str "arrow")) (.cons (.var 1) (.cons (.var 1) .nil)))) (.cons (.pr .tup (.cons (.lit (.str "base")) (.cons (.pr .tup (.cons (.lit (.str "a")) .nil)) .nil))) .nil))))))) .nil))))
    (.cons (.ret (.call 14 (.cons (.var 0) (.cons (.var 2) .nil))))
    .nil)))))
abbrev s29 : Stmt := txt 43
abbrev n29 : List Str := ["feed", "leaf", "things"]
/-- _law_has_any(kind, part) -/
def b30 : Ss := (.cons (.ret (.or (.cons (.pr .eq (.cons (.pr .ix (.cons (.var 0) (.cons (.lit (.int 0)) .nil))) (.cons (.lit (.str "any")) .nil))) (.cons (.pr .ne (.cons (.comp [1] (.one 1) .seq (.cons (.call 17 (.cons (.var 0) .nil)) .nil) (.call 30 (.cons (.var 1) .nil)) (.lit (.int 1))) (.cons (.pr .lst .nil) .nil))) .nil))))
    .nil)
abbrev s30 : Stmt := txt 44
abbrev n30 : List Str := ["kind", "part"]
/-- _law_kinds(feed, leaf, many, deep, things, thing, due) -/
def b31 : Ss := (.cons (.asg 1 (.call 25 (.cons (.var 0) .nil)))
    (.cons (.par 2 3 (.pr .add (.cons (.lit (.int 100)) (.cons (.call 13 (.cons (.var 0) (.cons (.lit (.int 2)) .nil))) .nil))) (.pr .add (.cons (.lit (.int 19)) (.cons (.call 13 (.cons (.var 0) (.cons (.lit (.int 3)) .nil))) .nil))))
    (.cons (.asg 4 (.pr .lst (.cons (.pr .tup (.cons (.call 26 (.cons (.var 0) (.cons (.call 13 (.cons (.var 0) (.cons (.lit (.int 6)) .nil))) .nil))) (.cons (.lit (.bool true)) .nil))) (.cons (.pr .tup (.cons (.call 27 (.cons (.var 1) (.cons (.var 2) .nil))) (.cons (.pr .lt (.cons (.var 2) (.cons (.lit (.int 101)) .nil))) .nil))) (.cons (.pr .tup (.cons (.call 28 (.cons (.var 0) (.cons (.var 1) (.cons (.var 3) .nil)))) (.cons (.pr .lt (.cons (.var 3) (.cons (.lit (.int 21)) .nil))) .nil))) .nil)))))
    (.cons (.for_ (.many [5, 6]) .seq (.cons (.var 4) .nil) (.cons (.ite (.or (.cons (.not (.call 15 (.cons (.call 10 (.cons (.var 5) .nil)) (.cons (.var 6) .nil)))) (.cons (.not (.call 15 (.cons (.callk 1 10 [0] (.cons (.var 5) .nil)) (.cons (.var 6) .nil)))) .nil))) (.cons (.ret (.lit (.bool false)))
    .nil) .nil)
    (.cons (.ite (.not (.call 15 (.cons (.call 11 (.cons (.var 5) .nil)) (.cons (.and (.cons (.var 6) (.cons (.not (.call 30 (.cons (.var 5) .nil))) .nil))) .nil)))) (.cons (.ret (.lit (.bool false)))
    .nil) .nil)
    (.cons (.ite (.not (.call 15 (.cons (.call 10 (.cons (.call 18 (.cons (.var 0) (.cons (.var 5) (.cons (.call 29 (.cons (.var 0) (.cons (.var 1) .nil))) (.cons (.lit (.int 30)) .nil))))) .nil)) (.cons (.lit (.bool false)) .nil)))) (.cons (.ret (.lit (.bool false)))
    .nil) .nil)
    .nil))))
    (.cons (.ret (.lit (.bool true)))
    .nil)))))
abbrev s31 : Stmt := txt 45
abbrev n31 : List Str := ["feed", "leaf", "many", "deep", "things", "thing", "due"]
/-- law(script, k, feed) -/
def b32 : Ss := (.cons (.for_ (.one 1) .range1 (.cons (.pr .max2 (.cons (.lit (.int 1)) (.cons (.pr .min2 (.cons (.pr .len (.cons (.var 0) .nil)) (.cons (.lit (.int 3)) .nil))) .nil))) .nil) (.cons (.asg 2 (.call 12 (.cons (.var 0) (.cons (.var 1) .nil))))
    (.cons (.ite (.or (.cons (.not (.call 24 (.cons (.var 2) .nil))) (.cons (.not (.call 31 (.cons (.var 2) .nil))) .nil))) (.cons (.ret (.lit (.bool false)))
    .nil) .nil)
    .nil)))
    (.cons (.ret (.lit (.bool true)))
    .nil))
abbrev s32 : Stmt := txt 46
abbrev n32 : List Str := ["script", "k", "feed"]
def FT : List Fn := [⟨3, 3, false, b0⟩, ⟨1, 2, false, b1⟩, ⟨1, 1, false, b2⟩, ⟨1, 5, false, b3⟩, ⟨1, 1, false, b4⟩, ⟨1, 1, false, b5⟩, ⟨1, 6, false, b6⟩, ⟨1, 1, false, b7⟩, ⟨1, 5, false, b8⟩, ⟨1, 1, false, b9⟩, ⟨1, 1, false, b10⟩, ⟨1, 1, false, b11⟩, ⟨2, 3, true, b12⟩, ⟨2, 5, false, b13⟩, ⟨2, 2, false, b14⟩, ⟨2, 2, false, b15⟩, ⟨1, 4, false, b16⟩, ⟨1, 1, false, b17⟩, ⟨4, 8, false, b18⟩, ⟨1, 1, false, b19⟩, ⟨2, 3, false, b20⟩, ⟨2, 3, false, b21⟩, ⟨3, 5, false, b22⟩, ⟨2, 3, false, b23⟩, ⟨1, 7, false, b24⟩, ⟨1, 1, false, b25⟩, ⟨2, 2, false, b26⟩, ⟨2, 2, false, b27⟩, ⟨3, 5, false, b28⟩, ⟨2, 3, false, b29⟩, ⟨1, 2, false, b30⟩, ⟨1, 7, false, b31⟩, ⟨1, 3, false, b32⟩]
def T : Stat := ⟨[(("is_integer" : Str), (["thing", "least", "most"] : List Str)), (("is_word" : Str), (["thing"] : List Str)), (("is_kind_node" : Str), (["thing"] : List Str)), (("is_kind_form" : Str), (["thing"] : List Str)), (("is_raw_node" : Str), (["thing"] : List Str)), (("raw_parts" : Str), (["raw"] : List Str)), (("is_raw_form" : Str), (["thing"] : List Str)), (("is_loose_node" : Str), (["thing"] : List Str)), (("is_loose_form" : Str), (["thing"] : List Str)), (("is_raw" : Str), (["thing"] : List Str)), (("is_loose_kind" : Str), (["thing"] : List Str)), (("is_kind" : Str), (["thing"] : List Str)), (("_law_feed" : Str), (["script", "k"] : List Str)), (("_law_draw" : Str), (["feed", "many"] : List Str)), (("_law_one" : Str), (["feed", "things"] : List Str)), (("_law_is" : Str), (["told", "due"] : List Str)), (("_law_word" : Str), (["feed"] : List Str)), (("_law_parts" : Str), (["node"] : List Str)), (("_law_swapped" : Str), (["feed", "node", "other", "deep"] : List Str)), (("_law_leaf" : Str), (["feed"] : List Str)), (("_law_small" : Str), (["feed", "deep"] : List Str)), (("_law_flat" : Str), (["leaf", "many"] : List Str)), (("_law_thin" : Str), (["feed", "leaf", "deep"] : List Str)), (("_law_no_raw" : Str), (["feed", "leaf"] : List Str)), (("_law_terms" : Str), (["feed"] : List Str)), (("_law_loose_leaf" : Str), (["feed"] : List Str)), (("_law_small_kind" : Str), (["feed", "deep"] : List Str)), (("_law_flat_kind" : Str), (["leaf", "many"] : List Str)), (("_law_thin_kind" : Str), (["feed", "leaf", "deep"] : List Str)), (("_law_no_kind" : Str), (["feed", "leaf"] : List Str)), (("_law_has_any" : Str), (["kind"] : List Str)), (("_law_kinds" : Str), (["feed"] : List Str)), (("law" : Str), (["script"] : List Str))], [((9 : Nat), (["thing"] : List Str), ([0] : List Nat)), ((10 : Nat), (["thing"] : List Str), ([0] : List Nat))], [(("LETTERS" : Str), ((.str "abcdefghijklmnopqrstuvwxyz") : PyData)), (("FIGURES" : Str), ((.str "0123456789") : PyData)), (("MOST_SIGNS" : Str), ((.int 12) : PyData)), (("MOST_KIND_NODES" : Str), ((.int 200) : PyData)), (("MOST_KIND_DEEP" : Str), ((.int 20) : PyData)), (("MOST_NODES" : Str), ((.int 2000) : PyData)), (("MOST_DEEP" : Str), ((.int 60) : PyData)), (("MOST_VARIABLE" : Str), ((.int 999) : PyData)), (("LAST_ANY" : Str), ((.int 999) : PyData))]⟩
theorem ok0 : okDef FT T 0 ["thing", "least", "most"] n0 s0 = true := by decide +kernel
theorem ok1 : okDef FT T 1 ["thing"] n1 s1 = true := by decide +kernel
theorem ok2 : okDef FT T 2 ["thing"] n2 s2 = true := by decide +kernel
theorem ok3 : okDef FT T 3 ["thing"] n3 s3 = true := by decide +kernel
theorem ok4 : okDef FT T 4 ["thing"] n4 s4 = true := by decide +kernel
theorem ok5 : okDef FT T 5 ["raw"] n5 s5 = true := by decide +kernel
theorem ok6 : okDef FT T 6 ["thing"] n6 s6 = true := by decide +kernel
theorem ok7 : okDef FT T 7 ["thing"] n7 s7 = true := by decide +kernel
theorem ok8 : okDef FT T 8 ["thing"] n8 s8 = true := by decide +kernel
theorem ok9 : okDef FT T 9 ["thing"] n9 s9 = true := by decide +kernel
theorem ok10 : okDef FT T 10 ["thing"] n10 s10 = true := by decide +kernel
theorem ok11 : okDef FT T 11 ["thing"] n11 s11 = true := by decide +kernel
theorem ok12 : okDef FT T 12 ["script", "k"] n12 s12 = true := by decide +kernel
theorem ok13 : okDef FT T 13 ["feed", "many"] n13 s13 = true := by decide +kernel
theorem ok14 : okDef FT T 14 ["feed", "things"] n14 s14 = true := by decide +kernel
theorem ok15 : okDef FT T 15 ["told", "due"] n15 s15 = true := by decide +kernel
theorem ok16 : okDef FT T 16 ["feed"] n16 s16 = true := by decide +kernel
theorem ok17 : okDef FT T 17 ["node"] n17 s17 = true := by decide +kernel
theorem ok18 : okDef FT T 18 ["feed", "node", "other", "deep"] n18 s18 = true := by decide +kernel
theorem ok19 : okDef FT T 19 ["feed"] n19 s19 = true := by decide +kernel
theorem ok20 : okDef FT T 20 ["feed", "deep"] n20 s20 = true := by decide +kernel
theorem ok21 : okDef FT T 21 ["leaf", "many"] n21 s21 = true := by decide +kernel
theorem ok22 : okDef FT T 22 ["feed", "leaf", "deep"] n22 s22 = true := by decide +kernel
theorem ok23 : okDef FT T 23 ["feed", "leaf"] n23 s23 = true := by decide +kernel
theorem ok24 : okDef FT T 24 ["feed"] n24 s24 = true := by decide +kernel
theorem ok25 : okDef FT T 25 ["feed"] n25 s25 = true := by decide +kernel
theorem ok26 : okDef FT T 26 ["feed", "deep"] n26 s26 = true := by decide +kernel
theorem ok27 : okDef FT T 27 ["leaf", "many"] n27 s27 = true := by decide +kernel
theorem ok28 : okDef FT T 28 ["feed", "leaf", "deep"] n28 s28 = true := by decide +kernel
theorem ok29 : okDef FT T 29 ["feed", "leaf"] n29 s29 = true := by decide +kernel
theorem ok30 : okDef FT T 30 ["kind"] n30 s30 = true := by decide +kernel
theorem ok31 : okDef FT T 31 ["feed"] n31 s31 = true := by decide +kernel
theorem ok32 : okDef FT T 32 ["script"] n32 s32 = true := by decide +kernel
theorem ft0 : FT[0]? = some ⟨3, 3, false, b0⟩ := rfl
theorem ft1 : FT[1]? = some ⟨1, 2, false, b1⟩ := rfl
theorem ft2 : FT[2]? = some ⟨1, 1, false, b2⟩ := rfl
theorem ft3 : FT[3]? = some ⟨1, 5, false, b3⟩ := rfl
theorem ft4 : FT[4]? = some ⟨1, 1, false, b4⟩ := rfl
theorem ft5 : FT[5]? = some ⟨1, 1, false, b5⟩ := rfl
theorem ft6 : FT[6]? = some ⟨1, 6, false, b6⟩ := rfl
theorem ft7 : FT[7]? = some ⟨1, 1, false, b7⟩ := rfl
theorem ft8 : FT[8]? = some ⟨1, 5, false, b8⟩ := rfl
theorem ft9 : FT[9]? = some ⟨1, 1, false, b9⟩ := rfl
theorem ft10 : FT[10]? = some ⟨1, 1, false, b10⟩ := rfl
theorem ft11 : FT[11]? = some ⟨1, 1, false, b11⟩ := rfl
theorem ft12 : FT[12]? = some ⟨2, 3, true, b12⟩ := rfl
theorem ft13 : FT[13]? = some ⟨2, 5, false, b13⟩ := rfl
theorem ft14 : FT[14]? = some ⟨2, 2, false, b14⟩ := rfl
theorem ft15 : FT[15]? = some ⟨2, 2, false, b15⟩ := rfl
theorem ft16 : FT[16]? = some ⟨1, 4, false, b16⟩ := rfl
theorem ft17 : FT[17]? = some ⟨1, 1, false, b17⟩ := rfl
theorem ft18 : FT[18]? = some ⟨4, 8, false, b18⟩ := rfl
theorem ft19 : FT[19]? = some ⟨1, 1, false, b19⟩ := rfl
theorem ft20 : FT[20]? = some ⟨2, 3, false, b20⟩ := rfl
theorem ft21 : FT[21]? = some ⟨2, 3, false, b21⟩ := rfl
theorem ft22 : FT[22]? = some ⟨3, 5, false, b22⟩ := rfl
theorem ft23 : FT[23]? = some ⟨2, 3, false, b23⟩ := rfl
theorem ft24 : FT[24]? = some ⟨1, 7, false, b24⟩ := rfl
theorem ft25 : FT[25]? = some ⟨1, 1, false, b25⟩ := rfl
theorem ft26 : FT[26]? = some ⟨2, 2, false, b26⟩ := rfl
theorem ft27 : FT[27]? = some ⟨2, 2, false, b27⟩ := rfl
theorem ft28 : FT[28]? = some ⟨3, 5, false, b28⟩ := rfl
theorem ft29 : FT[29]? = some ⟨2, 3, false, b29⟩ := rfl
theorem ft30 : FT[30]? = some ⟨1, 2, false, b30⟩ := rfl
theorem ft31 : FT[31]? = some ⟨1, 7, false, b31⟩ := rfl
theorem ft32 : FT[32]? = some ⟨1, 3, false, b32⟩ := rfl
abbrev G (K : PySem.W.Frag) : Gam := ⟨K, FT, fun _ _ => False⟩
structure Top (K : PySem.W.Frag) (mg : Str → Option Value) : Prop where
  f0 : ∃ a fd, mg "is_integer" = some (.ref a) ∧ Fun K "is_integer" "is_integer" s0 a fd
  f1 : ∃ a fd, mg "is_word" = some (.ref a) ∧ Fun K "is_word" "is_word" s1 a fd
  f2 : ∃ a fd, mg "is_kind_node" = some (.ref a) ∧ Fun K "is_kind_node" "is_kind_node" s2 a fd
  f3 : ∃ a fd, mg "is_kind_form" = some (.ref a) ∧ Fun K "is_kind_form" "is_kind_form" s3 a fd
  f4 : ∃ a fd, mg "is_raw_node" = some (.ref a) ∧ Fun K "is_raw_node" "is_raw_node" s4 a fd
  f5 : ∃ a fd, mg "raw_parts" = some (.ref a) ∧ Fun K "raw_parts" "raw_parts" s5 a fd
  f6 : ∃ a fd, mg "is_raw_form" = some (.ref a) ∧ Fun K "is_raw_form" "is_raw_form" s6 a fd
  f7 : ∃ a fd, mg "is_loose_node" = some (.ref a) ∧ Fun K "is_loose_node" "is_loose_node" s7 a fd
  f8 : ∃ a fd, mg "is_loose_form" = some (.ref a) ∧ Fun K "is_loose_form" "is_loose_form" s8 a fd
  f9 : ∃ a fd, mg "is_raw" = some (.ref a) ∧ Fun K "is_raw" "is_raw" s9 a fd
  f10 : ∃ a fd, mg "is_loose_kind" = some (.ref a) ∧ Fun K "is_loose_kind" "is_loose_kind" s10 a fd
  f11 : ∃ a fd, mg "is_kind" = some (.ref a) ∧ Fun K "is_kind" "is_kind" s11 a fd
  f12 : ∃ a fd, mg "_law_feed" = some (.ref a) ∧ Fun K "_law_feed" "_law_feed" s12 a fd
  f13 : ∃ a fd, mg "_law_draw" = some (.ref a) ∧ Fun K "_law_draw" "_law_draw" s13 a fd
  f14 : ∃ a fd, mg "_law_one" = some (.ref a) ∧ Fun K "_law_one" "_law_one" s14 a fd
  f15 : ∃ a fd, mg "_law_is" = some (.ref a) ∧ Fun K "_law_is" "_law_is" s15 a fd
  f16 : ∃ a fd, mg "_law_word" = some (.ref a) ∧ Fun K "_law_word" "_law_word" s16 a fd
  f17 : ∃ a fd, mg "_law_parts" = some (.ref a) ∧ Fun K "_law_parts" "_law_parts" s17 a fd
  f18 : ∃ a fd, mg "_law_swapped" = some (.ref a) ∧ Fun K "_law_swapped" "_law_swapped" s18 a fd
  f19 : ∃ a fd, mg "_law_leaf" = some (.ref a) ∧ Fun K "_law_leaf" "_law_leaf" s19 a fd
  f20 : ∃ a fd, mg "_law_small" = some (.ref a) ∧ Fun K "_law_small" "_law_small" s20 a fd
  f21 : ∃ a fd, mg "_law_flat" = some (.ref a) ∧ Fun K "_law_flat" "_law_flat" s21 a fd
  f22 : ∃ a fd, mg "_law_thin" = some (.ref a) ∧ Fun K "_law_thin" "_law_thin" s22 a fd
  f23 : ∃ a fd, mg "_law_no_raw" = some (.ref a) ∧ Fun K "_law_no_raw" "_law_no_raw" s23 a fd
  f24 : ∃ a fd, mg "_law_terms" = some (.ref a) ∧ Fun K "_law_terms" "_law_terms" s24 a fd
  f25 : ∃ a fd, mg "_law_loose_leaf" = some (.ref a) ∧ Fun K "_law_loose_leaf" "_law_loose_leaf" s25 a fd
  f26 : ∃ a fd, mg "_law_small_kind" = some (.ref a) ∧ Fun K "_law_small_kind" "_law_small_kind" s26 a fd
  f27 : ∃ a fd, mg "_law_flat_kind" = some (.ref a) ∧ Fun K "_law_flat_kind" "_law_flat_kind" s27 a fd
  f28 : ∃ a fd, mg "_law_thin_kind" = some (.ref a) ∧ Fun K "_law_thin_kind" "_law_thin_kind" s28 a fd
  f29 : ∃ a fd, mg "_law_no_kind" = some (.ref a) ∧ Fun K "_law_no_kind" "_law_no_kind" s29 a fd
  f30 : ∃ a fd, mg "_law_has_any" = some (.ref a) ∧ Fun K "_law_has_any" "_law_has_any" s30 a fd
  f31 : ∃ a fd, mg "_law_kinds" = some (.ref a) ∧ Fun K "_law_kinds" "_law_kinds" s31 a fd
  f32 : ∃ a fd, mg "law" = some (.ref a) ∧ Fun K "law" "law" s32 a fd
  g_LETTERS : ∃ t, mg "LETTERS" = some (.str "abcdefghijklmnopqrstuvwxyz" t)
  g_FIGURES : ∃ t, mg "FIGURES" = some (.str "0123456789" t)
  g_MOST_SIGNS : ∃ t, mg "MOST_SIGNS" = some (.int 12 t)
  g_MOST_KIND_NODES : ∃ t, mg "MOST_KIND_NODES" = some (.int 200 t)
  g_MOST_KIND_DEEP : ∃ t, mg "MOST_KIND_DEEP" = some (.int 20 t)
  g_MOST_NODES : ∃ t, mg "MOST_NODES" = some (.int 2000 t)
  g_MOST_DEEP : ∃ t, mg "MOST_DEEP" = some (.int 60 t)
  g_MOST_VARIABLE : ∃ t, mg "MOST_VARIABLE" = some (.int 999 t)
  g_LAST_ANY : ∃ t, mg "LAST_ANY" = some (.int 999 t)
  bl : ∀ x ∈ bNames, mg x = none
theorem ground {K : PySem.W.Frag} {mg : Str → Option Value} (X : Top K mg) : Ground (G K) T mg where
  bl := X.bl
  gl := gl_of (by
    intro p hp
    simp only [T, List.mem_cons, List.not_mem_nil, or_false] at hp
    rcases hp with rfl | rfl | rfl | rfl | rfl | rfl | rfl | rfl | rfl
    · obtain ⟨t, e⟩ := X.g_LETTERS; exact ⟨_, .str "abcdefghijklmnopqrstuvwxyz", e, ⟨_, rfl⟩, .str _⟩
    · obtain ⟨t, e⟩ := X.g_FIGURES; exact ⟨_, .str "0123456789", e, ⟨_, rfl⟩, .str _⟩
    · obtain ⟨t, e⟩ := X.g_MOST_SIGNS; exact ⟨_, .int 12, e, ⟨_, rfl⟩, .int _⟩
    · obtain ⟨t, e⟩ := X.g_MOST_KIND_NODES; exact ⟨_, .int 200, e, ⟨_, rfl⟩, .int _⟩
    · obtain ⟨t, e⟩ := X.g_MOST_KIND_DEEP; exact ⟨_, .int 20, e, ⟨_, rfl⟩, .int _⟩
    · obtain ⟨t, e⟩ := X.g_MOST_NODES; exact ⟨_, .int 2000, e, ⟨_, rfl⟩, .int _⟩
    · obtain ⟨t, e⟩ := X.g_MOST_DEEP; exact ⟨_, .int 60, e, ⟨_, rfl⟩, .int _⟩
    · obtain ⟨t, e⟩ := X.g_MOST_VARIABLE; exact ⟨_, .int 999, e, ⟨_, rfl⟩, .int _⟩
    · obtain ⟨t, e⟩ := X.g_LAST_ANY; exact ⟨_, .int 999, e, ⟨_, rfl⟩, .int _⟩
    )
  fn := fun f x ps e => match f, e with
    | 0, e => by
      obtain ⟨a, fd, e1, e2⟩ := X.f0
      have e : some (("is_integer" : Str), (["thing", "least", "most"] : List Str)) = some (x, ps) := e
      cases e
      refine ⟨a, fd, s0, n0, e1, e2.kp, e2.binds (fun _ _ _ _ _ _ us hl => match us, hl with | [_, _, _], _ => rfl), ?_, e2, ok0⟩
      obtain ⟨oc, od, kV, doc, pm, an, cdv, ct, osl, rfl, lk, hcd⟩ := e2.ex
      exact fun j ks ix ej => match j, ej with
        | 0, ej => by
          have ej : some ((9 : Nat), (["thing"] : List Str), ([0] : List Nat)) = some (0, ks, ix) := ej
          exact absurd (show (9 : Nat) = 0 from congrArg Prod.fst (Option.some.inj ej)) (by decide)
        | 1, ej => by
          have ej : some ((10 : Nat), (["thing"] : List Str), ([0] : List Nat)) = some (0, ks, ix) := ej
          exact absurd (show (10 : Nat) = 0 from congrArg Prod.fst (Option.some.inj ej)) (by decide)
        | j + 2, ej => by have ej : (none : Option (Nat × List Str × List Nat)) = some (0, ks, ix) := ej; cases ej
    | 1, e => by
      obtain ⟨a, fd, e1, e2⟩ := X.f1
      have e : some (("is_word" : Str), (["thing"] : List Str)) = some (x, ps) := e
      cases e
      refine ⟨a, fd, s1, n1, e1, e2.kp, e2.binds (fun _ _ _ _ _ _ us hl => match us, hl with | [_], _ => rfl), ?_, e2, ok1⟩
      obtain ⟨oc, od, kV, doc, pm, an, cdv, ct, osl, rfl, lk, hcd⟩ := e2.ex
      exact fun j ks ix ej => match j, ej with
        | 0, ej => by
          have ej : some ((9 : Nat), (["thing"] : List Str), ([0] : List Nat)) = some (1, ks, ix) := ej
          exact absurd (show (9 : Nat) = 1 from congrArg Prod.fst (Option.some.inj ej)) (by decide)
        | 1, ej => by
          have ej : some ((10 : Nat), (["thing"] : List Str), ([0] : List Nat)) = some (1, ks, ix) := ej
          exact absurd (show (10 : Nat) = 1 from congrArg Prod.fst (Option.some.inj ej)) (by decide)
        | j + 2, ej => by have ej : (none : Option (Nat × List Str × List Nat)) = some (1, ks, ix) := ej; cases ej
    | 2, e => by
      obtain ⟨a, fd, e1, e2⟩ := X.f2
      have e : some (("is_kind_node" : Str), (["thing"] : List Str)) = some (x, ps) := e
      cases e
      refine ⟨a, fd, s2, n2, e1, e2.kp, e2.binds (fun _ _ _ _ _ _ us hl => match us, hl with | [_], _ => rfl), ?_, e2, ok2⟩
      obtain ⟨oc, od, kV, doc, pm, an, cdv, ct, osl, rfl, lk, hcd⟩ := e2.ex
      exact fun j ks ix ej => match j, ej with
        | 0, ej => by
          have ej : some ((9 : Nat), (["thing"] : List Str), ([0] : List Nat)) = some (2, ks, ix) := ej
          exact absurd (show (9 : Nat) = 2 from congrArg Prod.fst (Option.some.inj ej)) (by decide)
        | 1, ej => by
          have ej : some ((10 : Nat), (["thing"] : List Str), ([0] : List Nat)) = some (2, ks, ix) := ej
          exact absurd (show (10 : Nat) = 2 from congrArg Prod.fst (Option.some.inj ej)) (by decide)
        | j + 2, ej => by have ej : (none : Option (Nat × List Str × List Nat)) = some (2, ks, ix) := ej; cases ej
    | 3, e => by
      obtain ⟨a, fd, e1, e2⟩ := X.f3
      have e : some (("is_kind_form" : Str), (["thing"] : List Str)) = some (x, ps) := e
      cases e
      refine ⟨a, fd, s3, n3, e1, e2.kp, e2.binds (fun _ _ _ _ _ _ us hl => match us, hl with | [_], _ => rfl), ?_, e2, ok3⟩
      obtain ⟨oc, od, kV, doc, pm, an, cdv, ct, osl, rfl, lk, hcd⟩ := e2.ex
      exact fun j ks ix ej => match j, ej with
        | 0, ej => by
          have ej : some ((9 : Nat), (["thing"] : List Str), ([0] : List Nat)) = some (3, ks, ix) := ej
          exact absurd (show (9 : Nat) = 3 from congrArg Prod.fst (Option.some.inj ej)) (by decide)
        | 1, ej => by
          have ej : some ((10 : Nat), (["thing"] : List Str), ([0] : List Nat)) = some (3, ks, ix) := ej
          exact absurd (show (10 : Nat) = 3 from congrArg Prod.fst (Option.some.inj ej)) (by decide)
        | j + 2, ej => by have ej : (none : Option (Nat × List Str × List Nat)) = some (3, ks, ix) := ej; cases ej
    | 4, e => by
      obtain ⟨a, fd, e1, e2⟩ := X.f4
      have e : some (("is_raw_node" : Str), (["thing"] : List Str)) = some (x, ps) := e
      cases e
      refine ⟨a, fd, s4, n4, e1, e2.kp, e2.binds (fun _ _ _ _ _ _ us hl => match us, hl with | [_], _ => rfl), ?_, e2, ok4⟩
      obtain ⟨oc, od, kV, doc, pm, an, cdv, ct, osl, rfl, lk, hcd⟩ := e2.ex
      exact fun j ks ix ej => match j, ej with
        | 0, ej => by
          have ej : some ((9 : Nat), (["thing"] : List Str), ([0] : List Nat)) = some (4, ks, ix) := ej
          exact absurd (show (9 : Nat) = 4 from congrArg Prod.fst (Option.some.inj ej)) (by decide)
        | 1, ej => by
          have ej : some ((10 : Nat), (["thing"] : List Str), ([0] : List Nat)) = some (4, ks, ix) := ej
          exact absurd (show (10 : Nat) = 4 from congrArg Prod.fst (Option.some.inj ej)) (by decide)
        | j + 2, ej => by have ej : (none : Option (Nat × List Str × List Nat)) = some (4, ks, ix) := ej; cases ej
    | 5, e => by
      obtain ⟨a, fd, e1, e2⟩ := X.f5
      have e : some (("raw_parts" : Str), (["raw"] : List Str)) = some (x, ps) := e
      cases e
      refine ⟨a, fd, s5, n5, e1, e2.kp, e2.binds (fun _ _ _ _ _ _ us hl => match us, hl with | [_], _ => rfl), ?_, e2, ok5⟩
      obtain ⟨oc, od, kV, doc, pm, an, cdv, ct, osl, rfl, lk, hcd⟩ := e2.ex
      exact fun j ks ix ej => match j, ej with
        | 0, ej => by
          have ej : some ((9 : Nat), (["thing"] : List Str), ([0] : List Nat)) = some (5, ks, ix) := ej
          exact absurd (show (9 : Nat) = 5 from congrArg Prod.fst (Option.some.inj ej)) (by decide)
        | 1, ej => by
          have ej : some ((10 : Nat), (["thing"] : List Str), ([0] : List Nat)) = some (5, ks, ix) := ej
          exact absurd (show (10 : Nat) = 5 from congrArg Prod.fst (Option.some.inj ej)) (by decide)
        | j + 2, ej => by have ej : (none : Option (Nat × List Str × List Nat)) = some (5, ks, ix) := ej; cases ej
    | 6, e => by
      obtain ⟨a, fd, e1, e2⟩ := X.f6
      have e : some (("is_raw_form" : Str), (["thing"] : List Str)) = some (x, ps) := e
      cases e
      refine ⟨a, fd, s6, n6, e1, e2.kp, e2.binds (fun _ _ _ _ _ _ us hl => match us, hl with | [_], _ => rfl), ?_, e2, ok6⟩
      obtain ⟨oc, od, kV, doc, pm, an, cdv, ct, osl, rfl, lk, hcd⟩ := e2.ex
      exact fun j ks ix ej => match j, ej with
        | 0, ej => by
          have ej : some ((9 : Nat), (["thing"] : List Str), ([0] : List Nat)) = some (6, ks, ix) := ej
          exact absurd (show (9 : Nat) = 6 from congrArg Prod.fst (Option.some.inj ej)) (by decide)
        | 1, ej => by
          have ej : some ((10 : Nat), (["thing"] : List Str), ([0] : List Nat)) = some (6, ks, ix) := ej
          exact absurd (show (10 : Nat) = 6 from congrArg Prod.fst (Option.some.inj ej)) (by decide)
        | j + 2, ej => by have ej : (none : Option (Nat × List Str × List Nat)) = some (6, ks, ix) := ej; cases ej
    | 7, e => by
      obtain ⟨a, fd, e1, e2⟩ := X.f7
      have e : some (("is_loose_node" : Str), (["thing"] : List Str)) = some (x, ps) := e
      cases e
      refine ⟨a, fd, s7, n7, e1, e2.kp, e2.binds (fun _ _ _ _ _ _ us hl => match us, hl with | [_], _ => rfl), ?_, e2, ok7⟩
      obtain ⟨oc, od, kV, doc, pm, an, cdv, ct, osl, rfl, lk, hcd⟩ := e2.ex
      exact fun j ks ix ej => match j, ej with
        | 0, ej => by
          have ej : some ((9 : Nat), (["thing"] : List Str), ([0] : List Nat)) = some (7, ks, ix) := ej
          exact absurd (show (9 : Nat) = 7 from congrArg Prod.fst (Option.some.inj ej)) (by decide)
        | 1, ej => by
          have ej : some ((10 : Nat), (["thing"] : List Str), ([0] : List Nat)) = some (7, ks, ix) := ej
          exact absurd (show (10 : Nat) = 7 from congrArg Prod.fst (Option.some.inj ej)) (by decide)
        | j + 2, ej => by have ej : (none : Option (Nat × List Str × List Nat)) = some (7, ks, ix) := ej; cases ej
    | 8, e => by
      obtain ⟨a, fd, e1, e2⟩ := X.f8
      have e : some (("is_loose_form" : Str), (["thing"] : List Str)) = some (x, ps) := e
      cases e
      refine ⟨a, fd, s8, n8, e1, e2.kp, e2.binds (fun _ _ _ _ _ _ us hl => match us, hl with | [_], _ => rfl), ?_, e2, ok8⟩
      obtain ⟨oc, od, kV, doc, pm, an, cdv, ct, osl, rfl, lk, hcd⟩ := e2.ex
      exact fun j ks ix ej => match j, ej with
        | 0, ej => by
          have ej : some ((9 : Nat), (["thing"] : List Str), ([0] : List Nat)) = some (8, ks, ix) := ej
          exact absurd (show (9 : Nat) = 8 from congrArg Prod.fst (Option.some.inj ej)) (by decide)
        | 1, ej => by
          have ej : some ((10 : Nat), (["thing"] : List Str), ([0] : List Nat)) = some (8, ks, ix) := ej
          exact absurd (show (10 : Nat) = 8 from congrArg Prod.fst (Option.some.inj ej)) (by decide)
        | j + 2, ej => by have ej : (none : Option (Nat × List Str × List Nat)) = some (8, ks, ix) := ej; cases ej
    | 9, e => by
      obtain ⟨a, fd, e1, e2⟩ := X.f9
      have e : some (("is_raw" : Str), (["thing"] : List Str)) = some (x, ps) := e
      cases e
      refine ⟨a, fd, s9, n9, e1, e2.kp, e2.binds (fun _ _ _ _ _ _ us hl => match us, hl with | [_], _ => rfl), ?_, e2, ok9⟩
      obtain ⟨oc, od, kV, doc, pm, an, cdv, ct, osl, rfl, lk, hcd⟩ := e2.ex
      exact fun j ks ix ej => match j, ej with
        | 0, ej => by
          have ej : some ((9 : Nat), (["thing"] : List Str), ([0] : List Nat)) = some (9, ks, ix) := ej
          cases ej
          exact fun s us hl => match us, hl with | [_], _ => .of_eq rfl
        | 1, ej => by
          have ej : some ((10 : Nat), (["thing"] : List Str), ([0] : List Nat)) = some (9, ks, ix) := ej
          exact absurd (show (10 : Nat) = 9 from congrArg Prod.fst (Option.some.inj ej)) (by decide)
        | j + 2, ej => by have ej : (none : Option (Nat × List Str × List Nat)) = some (9, ks, ix) := ej; cases ej
    | 10, e => by
      obtain ⟨a, fd, e1, e2⟩ := X.f10
      have e : some (("is_loose_kind" : Str), (["thing"] : List Str)) = some (x, ps) := e
      cases e
      refine ⟨a, fd, s10, n10, e1, e2.kp, e2.binds (fun _ _ _ _ _ _ us hl => match us, hl with | [_], _ => rfl), ?_, e2, ok10⟩
      obtain ⟨oc, od, kV, doc, pm, an, cdv, ct, osl, rfl, lk, hcd⟩ := e2.ex
      exact fun j ks ix ej => match j, ej with
        | 0, ej => by
          have ej : some ((9 : Nat), (["thing"] : List Str), ([0] : List Nat)) = some (10, ks, ix) := ej
          exact absurd (show (9 : Nat) = 10 from congrArg Prod.fst (Option.some.inj ej)) (by decide)
        | 1, ej => by
          have ej : some ((10 : Nat), (["thing"] : List Str), ([0] : List Nat)) = some (10, ks, ix) := ej
          cases ej
          exact fun s us hl => match us, hl with | [_], _ => .of_eq rfl
        | j + 2, ej => by have ej : (none : Option (Nat × List Str × List Nat)) = some (10, ks, ix) := ej; cases ej
    | 11, e => by
      obtain ⟨a, fd, e1, e2⟩ := X.f11
      have e : some (("is_kind" : Str), (["thing"] : List Str)) = some (x, ps) := e
      cases e
      refine ⟨a, fd, s11, n11, e1, e2.kp, e2.binds (fun _ _ _ _ _ _ us hl => match us, hl with | [_], _ => rfl), ?_, e2, ok11⟩
      obtain ⟨oc, od, kV, doc, pm, an, cdv, ct, osl, rfl, lk, hcd⟩ := e2.ex
      exact fun j ks ix ej => match j, ej with
        | 0, ej => by
          have ej : some ((9 : Nat), (["thing"] : List Str), ([0] : List Nat)) = some (11, ks, ix) := ej
          exact absurd (show (9 : Nat) = 11 from congrArg Prod.fst (Option.some.inj ej)) (by decide)
        | 1, ej => by
          have ej : some ((10 : Nat), (["thing"] : List Str), ([0] : List Nat)) = some (11, ks, ix) := ej
          exact absurd (show (10 : Nat) = 11 from congrArg Prod.fst (Option.some.inj ej)) (by decide)
        | j + 2, ej => by have ej : (none : Option (Nat × List Str × List Nat)) = some (11, ks, ix) := ej; cases ej
    | 12, e => by
      obtain ⟨a, fd, e1, e2⟩ := X.f12
      have e : some (("_law_feed" : Str), (["script", "k"] : List Str)) = some (x, ps) := e
      cases e
      refine ⟨a, fd, s12, n12, e1, e2.kp, e2.binds (fun _ _ _ _ _ _ us hl => match us, hl with | [_, _], _ => rfl), ?_, e2, ok12⟩
      obtain ⟨oc, od, kV, doc, pm, an, cdv, ct, osl, rfl, lk, hcd⟩ := e2.ex
      exact fun j ks ix ej => match j, ej with
        | 0, ej => by
          have ej : some ((9 : Nat), (["thing"] : List Str), ([0] : List Nat)) = some (12, ks, ix) := ej
          exact absurd (show (9 : Nat) = 12 from congrArg Prod.fst (Option.some.inj ej)) (by decide)
        | 1, ej => by
          have ej : some ((10 : Nat), (["thing"] : List Str), ([0] : List Nat)) = some (12, ks, ix) := ej
          exact absurd (show (10 : Nat) = 12 from congrArg Prod.fst (Option.some.inj ej)) (by decide)
        | j + 2, ej => by have ej : (none : Option (Nat × List Str × List Nat)) = some (12, ks, ix) := ej; cases ej
    | 13, e => by
      obtain ⟨a, fd, e1, e2⟩ := X.f13
      have e : some (("_law_draw" : Str), (["feed", "many"] : List Str)) = some (x, ps) := e
      cases e
      refine ⟨a, fd, s13, n13, e1, e2.kp, e2.binds (fun _ _ _ _ _ _ us hl => match us, hl with | [_, _], _ => rfl), ?_, e2, ok13⟩
      obtain ⟨oc, od, kV, doc, pm, an, cdv, ct, osl, rfl, lk, hcd⟩ := e2.ex
      exact fun j ks ix ej => match j, ej with
        | 0, ej => by
          have ej : some ((9 : Nat), (["thing"] : List Str), ([0] : List Nat)) = some (13, ks, ix) := ej
          exact absurd (show (9 : Nat) = 13 from congrArg Prod.fst (Option.some.inj ej)) (by decide)
        | 1, ej => by
          have ej : some ((10 : Nat), (["thing"] : List Str), ([0] : List Nat)) = some (13, ks, ix) := ej
          exact absurd (show (10 : Nat) = 13 from congrArg Prod.fst (Option.some.inj ej)) (by decide)
        | j + 2, ej => by have ej : (none : Option (Nat × List Str × List Nat)) = some (13, ks, ix) := ej; cases ej
    | 14, e => by
      obtain ⟨a, fd, e1, e2⟩ := X.f14
      have e : some (("_law_one" : Str), (["feed", "things"] : List Str)) = some (x, ps) := e
      cases e
      refine ⟨a, fd, s14, n14, e1, e2.kp, e2.binds (fun _ _ _ _ _ _ us hl => match us, hl with | [_, _], _ => rfl), ?_, e2, ok14⟩
      obtain ⟨oc, od, kV, doc, pm, an, cdv, ct, osl, rfl, lk, hcd⟩ := e2.ex
      exact fun j ks ix ej => match j, ej with
        | 0, ej => by
          have ej : some ((9 : Nat), (["thing"] : List Str), ([0] : List Nat)) = some (14, ks, ix) := ej
          exact absurd (show (9 : Nat) = 14 from congrArg Prod.fst (Option.some.inj ej)) (by decide)
        | 1, ej => by
          have ej : some ((10 : Nat), (["thing"] : List Str), ([0] : List Nat)) = some (14, ks, ix) := ej
          exact absurd (show (10 : Nat) = 14 from congrArg Prod.fst (Option.some.inj ej)) (by decide)
        | j + 2, ej => by have ej : (none : Option (Nat × List Str × List Nat)) = some (14, ks, ix) := ej; cases ej
    | 15, e => by
      obtain ⟨a, fd, e1, e2⟩ := X.f15
      have e : some (("_law_is" : Str), (["told", "due"] : List Str)) = some (x, ps) := e
      cases e
      refine ⟨a, fd, s15, n15, e1, e2.kp, e2.binds (fun _ _ _ _ _ _ us hl => match us, hl with | [_, _], _ => rfl), ?_, e2, ok15⟩
      obtain ⟨oc, od, kV, doc, pm, an, cdv, ct, osl, rfl, lk, hcd⟩ := e2.ex
      exact fun j ks ix ej => match j, ej with
        | 0, ej => by
          have ej : some ((9 : Nat), (["thing"] : List Str), ([0] : List Nat)) = some (15, ks, ix) := ej
          exact absurd (show (9 : Nat) = 15 from congrArg Prod.fst (Option.some.inj ej)) (by decide)
        | 1, ej => by
          have ej : some ((10 : Nat), (["thing"] : List Str), ([0] : List Nat)) = some (15, ks, ix) := ej
          exact absurd (show (10 : Nat) = 15 from congrArg Prod.fst (Option.some.inj ej)) (by decide)
        | j + 2, ej => by have ej : (none : Option (Nat × List Str × List Nat)) = some (15, ks, ix) := ej; cases ej
    | 16, e => by
      obtain ⟨a, fd, e1, e2⟩ := X.f16
      have e : some (("_law_word" : Str), (["feed"] : List Str)) = some (x, ps) := e
      cases e
      refine ⟨a, fd, s16, n16, e1, e2.kp, e2.binds (fun _ _ _ _ _ _ us hl => match us, hl with | [_], _ => rfl), ?_, e2, ok16⟩
      obtain ⟨oc, od, kV, doc, pm, an, cdv, ct, osl, rfl, lk, hcd⟩ := e2.ex
      exact fun j ks ix ej => match j, ej with
        | 0, ej => by
          have ej : some ((9 : Nat), (["thing"] : List Str), ([0] : List Nat)) = some (16, ks, ix) := ej
          exact absurd (show (9 : Nat) = 16 from congrArg Prod.fst (Option.some.inj ej)) (by decide)
        | 1, ej => by
          have ej : some ((10 : Nat), (["thing"] : List Str), ([0] : List Nat)) = some (16, ks, ix) := ej
          exact absurd (show (10 : Nat) = 16 from congrArg Prod.fst (Option.some.inj ej)) (by decide)
        | j + 2, ej => by have ej : (none : Option (Nat × List Str × List Nat)) = some (16, ks, ix) := ej; cases ej
    | 17, e => by
      obtain ⟨a, fd, e1, e2⟩ := X.f17
      have e : some (("_law_parts" : Str), (["node"] : List Str)) = some (x, ps) := e
      cases e
      refine ⟨a, fd, s17, n17, e1, e2.kp, e2.binds (fun _ _ _ _ _ _ us hl => match us, hl with | [_], _ => rfl), ?_, e2, ok17⟩
      obtain ⟨oc, od, kV, doc, pm, an, cdv, ct, osl, rfl, lk, hcd⟩ := e2.ex
      exact fun j ks ix ej => match j, ej with
        | 0, ej => by
          have ej : some ((9 : Nat), (["thing"] : List Str), ([0] : List Nat)) = some (17, ks, ix) := ej
          exact absurd (show (9 : Nat) = 17 from congrArg Prod.fst (Option.some.inj ej)) (by decide)
        | 1, ej => by
          have ej : some ((10 : Nat), (["thing"] : List Str), ([0] : List Nat)) = some (17, ks, ix) := ej
          exact absurd (show (10 : Nat) = 17 from congrArg Prod.fst (Option.some.inj ej)) (by decide)
        | j + 2, ej => by have ej : (none : Option (Nat × List Str × List Nat)) = some (17, ks, ix) := ej; cases ej
    | 18, e => by
      obtain ⟨a, fd, e1, e2⟩ := X.f18
      have e : some (("_law_swapped" : Str), (["feed", "node", "other", "deep"] : List Str)) = some (x, ps) := e
      cases e
      refine ⟨a, fd, s18, n18, e1, e2.kp, e2.binds (fun _ _ _ _ _ _ us hl => match us, hl with | [_, _, _, _], _ => rfl), ?_, e2, ok18⟩
      obtain ⟨oc, od, kV, doc, pm, an, cdv, ct, osl, rfl, lk, hcd⟩ := e2.ex
      exact fun j ks ix ej => match j, ej with
        | 0, ej => by
          have ej : some ((9 : Nat), (["thing"] : List Str), ([0] : List Nat)) = some (18, ks, ix) := ej
          exact absurd (show (9 : Nat) = 18 from congrArg Prod.fst (Option.some.inj ej)) (by decide)
        | 1, ej => by
          have ej : some ((10 : Nat), (["thing"] : List Str), ([0] : List Nat)) = some (18, ks, ix) := ej
          exact absurd (show (10 : Nat) = 18 from congrArg Prod.fst (Option.some.inj ej)) (by decide)
        | j + 2, ej => by have ej : (none : Option (Nat × List Str × List Nat)) = some (18, ks, ix) := ej; cases ej
    | 19, e => by
      obtain ⟨a, fd, e1, e2⟩ := X.f19
      have e : some (("_law_leaf" : Str), (["feed"] : List Str)) = some (x, ps) := e
      cases e
      refine ⟨a, fd, s19, n19, e1, e2.kp, e2.binds (fun _ _ _ _ _ _ us hl => match us, hl with | [_], _ => rfl), ?_, e2, ok19⟩
      obtain ⟨oc, od, kV, doc, pm, an, cdv, ct, osl, rfl, lk, hcd⟩ := e2.ex
      exact fun j ks ix ej => match j, ej with
        | 0, ej => by
          have ej : some ((9 : Nat), (["thing"] : List Str), ([0] : List Nat)) = some (19, ks, ix) := ej
          exact absurd (show (9 : Nat) = 19 from congrArg Prod.fst (Option.some.inj ej)) (by decide)
        | 1, ej => by
          have ej : some ((10 : Nat), (["thing"] : List Str), ([0] : List Nat)) = some (19, ks, ix) := ej
          exact absurd (show (10 : Nat) = 19 from congrArg Prod.fst (Option.some.inj ej)) (by decide)
        | j + 2, ej => by have ej : (none : Option (Nat × List Str × List Nat)) = some (19, ks, ix) := ej; cases ej
    | 20, e => by
      obtain ⟨a, fd, e1, e2⟩ := X.f20
      have e : some (("_law_small" : Str), (["feed", "deep"] : List Str)) = some (x, ps) := e
      cases e
      refine ⟨a, fd, s20, n20, e1, e2.kp, e2.binds (fun _ _ _ _ _ _ us hl => match us, hl with | [_, _], _ => rfl), ?_, e2, ok20⟩
      obtain ⟨oc, od, kV, doc, pm, an, cdv, ct, osl, rfl, lk, hcd⟩ := e2.ex
      exact fun j ks ix ej => match j, ej with
        | 0, ej => by
          have ej : some ((9 : Nat), (["thing"] : List Str), ([0] : List Nat)) = some (20, ks, ix) := ej
          exact absurd (show (9 : Nat) = 20 from congrArg Prod.fst (Option.some.inj ej)) (by decide)
        | 1, ej => by
          have ej : some ((10 : Nat), (["thing"] : List Str), ([0] : List Nat)) = some (20, ks, ix) := ej
          exact absurd (show (10 : Nat) = 20 from congrArg Prod.fst (Option.some.inj ej)) (by decide)
        | j + 2, ej => by have ej : (none : Option (Nat × List Str × List Nat)) = some (20, ks, ix) := ej; cases ej
    | 21, e => by
      obtain ⟨a, fd, e1, e2⟩ := X.f21
      have e : some (("_law_flat" : Str), (["leaf", "many"] : List Str)) = some (x, ps) := e
      cases e
      refine ⟨a, fd, s21, n21, e1, e2.kp, e2.binds (fun _ _ _ _ _ _ us hl => match us, hl with | [_, _], _ => rfl), ?_, e2, ok21⟩
      obtain ⟨oc, od, kV, doc, pm, an, cdv, ct, osl, rfl, lk, hcd⟩ := e2.ex
      exact fun j ks ix ej => match j, ej with
        | 0, ej => by
          have ej : some ((9 : Nat), (["thing"] : List Str), ([0] : List Nat)) = some (21, ks, ix) := ej
          exact absurd (show (9 : Nat) = 21 from congrArg Prod.fst (Option.some.inj ej)) (by decide)
        | 1, ej => by
          have ej : some ((10 : Nat), (["thing"] : List Str), ([0] : List Nat)) = some (21, ks, ix) := ej
          exact absurd (show (10 : Nat) = 21 from congrArg Prod.fst (Option.some.inj ej)) (by decide)
        | j + 2, ej => by have ej : (none : Option (Nat × List Str × List Nat)) = some (21, ks, ix) := ej; cases ej
    | 22, e => by
      obtain ⟨a, fd, e1, e2⟩ := X.f22
      have e : some (("_law_thin" : Str), (["feed", "leaf", "deep"] : List Str)) = some (x, ps) := e
      cases e
      refine ⟨a, fd, s22, n22, e1, e2.kp, e2.binds (fun _ _ _ _ _ _ us hl => match us, hl with | [_, _, _], _ => rfl), ?_, e2, ok22⟩
      obtain ⟨oc, od, kV, doc, pm, an, cdv, ct, osl, rfl, lk, hcd⟩ := e2.ex
      exact fun j ks ix ej => match j, ej with
        | 0, ej => by
          have ej : some ((9 : Nat), (["thing"] : List Str), ([0] : List Nat)) = some (22, ks, ix) := ej
          exact absurd (show (9 : Nat) = 22 from congrArg Prod.fst (Option.some.inj ej)) (by decide)
        | 1, ej => by
          have ej : some ((10 : Nat), (["thing"] : List Str), ([0] : List Nat)) = some (22, ks, ix) := ej
          exact absurd (show (10 : Nat) = 22 from congrArg Prod.fst (Option.some.inj ej)) (by decide)
        | j + 2, ej => by have ej : (none : Option (Nat × List Str × List Nat)) = some (22, ks, ix) := ej; cases ej
    | 23, e => by
      obtain ⟨a, fd, e1, e2⟩ := X.f23
      have e : some (("_law_no_raw" : Str), (["feed", "leaf"] : List Str)) = some (x, ps) := e
      cases e
      refine ⟨a, fd, s23, n23, e1, e2.kp, e2.binds (fun _ _ _ _ _ _ us hl => match us, hl with | [_, _], _ => rfl), ?_, e2, ok23⟩
      obtain ⟨oc, od, kV, doc, pm, an, cdv, ct, osl, rfl, lk, hcd⟩ := e2.ex
      exact fun j ks ix ej => match j, ej with
        | 0, ej => by
          have ej : some ((9 : Nat), (["thing"] : List Str), ([0] : List Nat)) = some (23, ks, ix) := ej
          exact absurd (show (9 : Nat) = 23 from congrArg Prod.fst (Option.some.inj ej)) (by decide)
        | 1, ej => by
          have ej : some ((10 : Nat), (["thing"] : List Str), ([0] : List Nat)) = some (23, ks, ix) := ej
          exact absurd (show (10 : Nat) = 23 from congrArg Prod.fst (Option.some.inj ej)) (by decide)
        | j + 2, ej => by have ej : (none : Option (Nat × List Str × List Nat)) = some (23, ks, ix) := ej; cases ej
    | 24, e => by
      obtain ⟨a, fd, e1, e2⟩ := X.f24
      have e : some (("_law_terms" : Str), (["feed"] : List Str)) = some (x, ps) := e
      cases e
      refine ⟨a, fd, s24, n24, e1, e2.kp, e2.binds (fun _ _ _ _ _ _ us hl => match us, hl with | [_], _ => rfl), ?_, e2, ok24⟩
      obtain ⟨oc, od, kV, doc, pm, an, cdv, ct, osl, rfl, lk, hcd⟩ := e2.ex
      exact fun j ks ix ej => match j, ej with
        | 0, ej => by
          have ej : some ((9 : Nat), (["thing"] : List Str), ([0] : List Nat)) = some (24, ks, ix) := ej
          exact absurd (show (9 : Nat) = 24 from congrArg Prod.fst (Option.some.inj ej)) (by decide)
        | 1, ej => by
          have ej : some ((10 : Nat), (["thing"] : List Str), ([0] : List Nat)) = some (24, ks, ix) := ej
          exact absurd (show (10 : Nat) = 24 from congrArg Prod.fst (Option.some.inj ej)) (by decide)
        | j + 2, ej => by have ej : (none : Option (Nat × List Str × List Nat)) = some (24, ks, ix) := ej; cases ej
    | 25, e => by
      obtain ⟨a, fd, e1, e2⟩ := X.f25
      have e : some (("_law_loose_leaf" : Str), (["feed"] : List Str)) = some (x, ps) := e
      cases e
      refine ⟨a, fd, s25, n25, e1, e2.kp, e2.binds (fun _ _ _ _ _ _ us hl => match us, hl with | [_], _ => rfl), ?_, e2, ok25⟩
      obtain ⟨oc, od, kV, doc, pm, an, cdv, ct, osl, rfl, lk, hcd⟩ := e2.ex
      exact fun j ks ix ej => match j, ej with
        | 0, ej => by
          have ej : some ((9 : Nat), (["thing"] : List Str), ([0] : List Nat)) = some (25, ks, ix) := ej
          exact absurd (show (9 : Nat) = 25 from congrArg Prod.fst (Option.some.inj ej)) (by decide)
        | 1, ej => by
          have ej : some ((10 : Nat), (["thing"] : List Str), ([0] : List Nat)) = some (25, ks, ix) := ej
          exact absurd (show (10 : Nat) = 25 from congrArg Prod.fst (Option.some.inj ej)) (by decide)
        | j + 2, ej => by have ej : (none : Option (Nat × List Str × List Nat)) = some (25, ks, ix) := ej; cases ej
    | 26, e => by
      obtain ⟨a, fd, e1, e2⟩ := X.f26
      have e : some (("_law_small_kind" : Str), (["feed", "deep"] : List Str)) = some (x, ps) := e
      cases e
      refine ⟨a, fd, s26, n26, e1, e2.kp, e2.binds (fun _ _ _ _ _ _ us hl => match us, hl with | [_, _], _ => rfl), ?_, e2, ok26⟩
      obtain ⟨oc, od, kV, doc, pm, an, cdv, ct, osl, rfl, lk, hcd⟩ := e2.ex
      exact fun j ks ix ej => match j, ej with
        | 0, ej => by
          have ej : some ((9 : Nat), (["thing"] : List Str), ([0] : List Nat)) = some (26, ks, ix) := ej
          exact absurd (show (9 : Nat) = 26 from congrArg Prod.fst (Option.some.inj ej)) (by decide)
        | 1, ej => by
          have ej : some ((10 : Nat), (["thing"] : List Str), ([0] : List Nat)) = some (26, ks, ix) := ej
          exact absurd (show (10 : Nat) = 26 from congrArg Prod.fst (Option.some.inj ej)) (by decide)
        | j + 2, ej => by have ej : (none : Option (Nat × List Str × List Nat)) = some (26, ks, ix) := ej; cases ej
    | 27, e => by
      obtain ⟨a, fd, e1, e2⟩ := X.f27
      have e : some (("_law_flat_kind" : Str), (["leaf", "many"] : List Str)) = some (x, ps) := e
      cases e
      refine ⟨a, fd, s27, n27, e1, e2.kp, e2.binds (fun _ _ _ _ _ _ us hl => match us, hl with | [_, _], _ => rfl), ?_, e2, ok27⟩
      obtain ⟨oc, od, kV, doc, pm, an, cdv, ct, osl, rfl, lk, hcd⟩ := e2.ex
      exact fun j ks ix ej => match j, ej with
        | 0, ej => by
          have ej : some ((9 : Nat), (["thing"] : List Str), ([0] : List Nat)) = some (27, ks, ix) := ej
          exact absurd (show (9 : Nat) = 27 from congrArg Prod.fst (Option.some.inj ej)) (by decide)
        | 1, ej => by
          have ej : some ((10 : Nat), (["thing"] : List Str), ([0] : List Nat)) = some (27, ks, ix) := ej
          exact absurd (show (10 : Nat) = 27 from congrArg Prod.fst (Option.some.inj ej)) (by decide)
        | j + 2, ej => by have ej : (none : Option (Nat × List Str × List Nat)) = some (27, ks, ix) := ej; cases ej
    | 28, e => by
      obtain ⟨a, fd, e1, e2⟩ := X.f28
      have e : some (("_law_thin_kind" : Str), (["feed", "leaf", "deep"] : List Str)) = some (x, ps) := e
      cases e
      refine ⟨a, fd, s28, n28, e1, e2.kp, e2.binds (fun _ _ _ _ _ _ us hl => match us, hl with | [_, _, _], _ => rfl), ?_, e2, ok28⟩
      obtain ⟨oc, od, kV, doc, pm, an, cdv, ct, osl, rfl, lk, hcd⟩ := e2.ex
      exact fun j ks ix ej => match j, ej with
        | 0, ej => by
          have ej : some ((9 : Nat), (["thing"] : List Str), ([0] : List Nat)) = some (28, ks, ix) := ej
          exact absurd (show (9 : Nat) = 28 from congrArg Prod.fst (Option.some.inj ej)) (by decide)
        | 1, ej => by
          have ej : some ((10 : Nat), (["thing"] : List Str), ([0] : List Nat)) = some (28, ks, ix) := ej
          exact absurd (show (10 : Nat) = 28 from congrArg Prod.fst (Option.some.inj ej)) (by decide)
        | j + 2, ej => by have ej : (none : Option (Nat × List Str × List Nat)) = some (28, ks, ix) := ej; cases ej
    | 29, e => by
      obtain ⟨a, fd, e1, e2⟩ := X.f29
      have e : some (("_law_no_kind" : Str), (["feed", "leaf"] : List Str)) = some (x, ps) := e
      cases e
      refine ⟨a, fd, s29, n29, e1, e2.kp, e2.binds (fun _ _ _ _ _ _ us hl => match us, hl with | [_, _], _ => rfl), ?_, e2, ok29⟩
      obtain ⟨oc, od, kV, doc, pm, an, cdv, ct, osl, rfl, lk, hcd⟩ := e2.ex
      exact fun j ks ix ej => match j, ej with
        | 0, ej => by
          have ej : some ((9 : Nat), (["thing"] : List Str), ([0] : List Nat)) = some (29, ks, ix) := ej
          exact absurd (show (9 : Nat) = 29 from congrArg Prod.fst (Option.some.inj ej)) (by decide)
        | 1, ej => by
          have ej : some ((10 : Nat), (["thing"] : List Str), ([0] : List Nat)) = some (29, ks, ix) := ej
          exact absurd (show (10 : Nat) = 29 from congrArg Prod.fst (Option.some.inj ej)) (by decide)
        | j + 2, ej => by have ej : (none : Option (Nat × List Str × List Nat)) = some (29, ks, ix) := ej; cases ej
    | 30, e => by
      obtain ⟨a, fd, e1, e2⟩ := X.f30
      have e : some (("_law_has_any" : Str), (["kind"] : List Str)) = some (x, ps) := e
      cases e
      refine ⟨a, fd, s30, n30, e1, e2.kp, e2.binds (fun _ _ _ _ _ _ us hl => match us, hl with | [_], _ => rfl), ?_, e2, ok30⟩
      obtain ⟨oc, od, kV, doc, pm, an, cdv, ct, osl, rfl, lk, hcd⟩ := e2.ex
      exact fun j ks ix ej => match j, ej with
        | 0, ej => by
          have ej : some ((9 : Nat), (["thing"] : List Str), ([0] : List Nat)) = some (30, ks, ix) := ej
          exact absurd (show (9 : Nat) = 30 from congrArg Prod.fst (Option.some.inj ej)) (by decide)
        | 1, ej => by
          have ej : some ((10 : Nat), (["thing"] : List Str), ([0] : List Nat)) = some (30, ks, ix) := ej
          exact absurd (show (10 : Nat) = 30 from congrArg Prod.fst (Option.some.inj ej)) (by decide)
        | j + 2, ej => by have ej : (none : Option (Nat × List Str × List Nat)) = some (30, ks, ix) := ej; cases ej
    | 31, e => by
      obtain ⟨a, fd, e1, e2⟩ := X.f31
      have e : some (("_law_kinds" : Str), (["feed"] : List Str)) = some (x, ps) := e
      cases e
      refine ⟨a, fd, s31, n31, e1, e2.kp, e2.binds (fun _ _ _ _ _ _ us hl => match us, hl with | [_], _ => rfl), ?_, e2, ok31⟩
      obtain ⟨oc, od, kV, doc, pm, an, cdv, ct, osl, rfl, lk, hcd⟩ := e2.ex
      exact fun j ks ix ej => match j, ej with
        | 0, ej => by
          have ej : some ((9 : Nat), (["thing"] : List Str), ([0] : List Nat)) = some (31, ks, ix) := ej
          exact absurd (show (9 : Nat) = 31 from congrArg Prod.fst (Option.some.inj ej)) (by decide)
        | 1, ej => by
          have ej : some ((10 : Nat), (["thing"] : List Str), ([0] : List Nat)) = some (31, ks, ix) := ej
          exact absurd (show (10 : Nat) = 31 from congrArg Prod.fst (Option.some.inj ej)) (by decide)
        | j + 2, ej => by have ej : (none : Option (Nat × List Str × List Nat)) = some (31, ks, ix) := ej; cases ej
    | 32, e => by
      obtain ⟨a, fd, e1, e2⟩ := X.f32
      have e : some (("law" : Str), (["script"] : List Str)) = some (x, ps) := e
      cases e
      refine ⟨a, fd, s32, n32, e1, e2.kp, e2.binds (fun _ _ _ _ _ _ us hl => match us, hl with | [_], _ => rfl), ?_, e2, ok32⟩
      obtain ⟨oc, od, kV, doc, pm, an, cdv, ct, osl, rfl, lk, hcd⟩ := e2.ex
      exact fun j ks ix ej => match j, ej with
        | 0, ej => by
          have ej : some ((9 : Nat), (["thing"] : List Str), ([0] : List Nat)) = some (32, ks, ix) := ej
          exact absurd (show (9 : Nat) = 32 from congrArg Prod.fst (Option.some.inj ej)) (by decide)
        | 1, ej => by
          have ej : some ((10 : Nat), (["thing"] : List Str), ([0] : List Nat)) = some (32, ks, ix) := ej
          exact absurd (show (10 : Nat) = 32 from congrArg Prod.fst (Option.some.inj ej)) (by decide)
        | j + 2, ej => by have ej : (none : Option (Nat × List Str × List Nat)) = some (32, ks, ix) := ej; cases ej
    | f + 33, e => by have e : (none : Option (Str × List Str)) = some (x, ps) := e; cases e
theorem top_mk {K : PySem.W.Frag} {h : Heap} {mg : Str → Option Value} {f0 f1 f2 f3 f4 f5 f6 f7 f8 f9 f10 f11 f12 f13 f14 f15 f16 f17 f18 f19 f20 f21 f22 f23 f24 f25 f26 f27 f28 f29 f30 f31 f32 : Addr} (X : K.In h) (G : h.Ns mainGlobals mg)
    {od0 an0 od1 an1 od2 an2 od3 an3 od4 an4 od5 an5 od6 an6 od7 an7 od8 an8 od9 an9 od10 an10 od11 an11 od12 an12 od13 an13 od14 an14 od15 an15 od16 an16 od17 an17 od18 an18 od19 an19 od20 an20 od21 an21 od22 an22 od23 an23 od24 an24 od25 an25 od26 an26 od27 an27 od28 an28 od29 an29 od30 an30 od31 an31 od32 an32 : Option Addr} {sl0 sl1 sl2 sl3 sl4 sl5 sl6 sl7 sl8 sl9 sl10 sl11 sl12 sl13 sl14 sl15 sl16 sl17 sl18 sl19 sl20 sl21 sl22 sl23 sl24 sl25 sl26 sl27 sl28 sl29 sl30 sl31 sl32 : Array (Option Value)} {oc0 kV0 dc0 pm0 cd0 ct0 oc1 kV1 dc1 pm1 cd1 ct1 oc2 kV2 dc2 pm2 cd2 ct2 oc3 kV3 dc3 pm3 cd3 ct3 oc4 kV4 dc4 pm4 cd4 ct4 oc5 kV5 dc5 pm5 cd5 ct5 oc6 kV6 dc6 pm6 cd6 ct6 oc7 kV7 dc7 pm7 cd7 ct7 oc8 kV8 dc8 pm8 cd8 ct8 oc9 kV9 dc9 pm9 cd9 ct9 oc10 kV10 dc10 pm10 cd10 ct10 oc11 kV11 dc11 pm11 cd11 ct11 oc12 kV12 dc12 pm12 cd12 ct12 oc13 kV13 dc13 pm13 cd13 ct13 oc14 kV14 dc14 pm14 cd14 ct14 oc15 kV15 dc15 pm15 cd15 ct15 oc16 kV16 dc16 pm16 cd16 ct16 oc17 kV17 dc17 pm17 cd17 ct17 oc18 kV18 dc18 pm18 cd18 ct18 oc19 kV19 dc19 pm19 cd19 ct19 oc20 kV20 dc20 pm20 cd20 ct20 oc21 kV21 dc21 pm21 cd21 ct21 oc22 kV22 dc22 pm22 cd22 ct22 oc23 kV23 dc23 pm23 cd23 ct23 oc24 kV24 dc24 pm24 cd24 ct24 oc25 kV25 dc25 pm25 cd25 ct25 oc26 kV26 dc26 pm26 cd26 ct26 oc27 kV27 dc27 pm27 cd27 ct27 oc28 kV28 dc28 pm28 cd28 ct28 oc29 kV29 dc29 pm29 cd29 ct29 oc30 kV30 dc30 pm30 cd30 ct30 oc31 kV31 dc31 pm31 cd31 ct31 oc32 kV32 dc32 pm32 cd32 ct32 : Value}
    (a0 : PySem.W.nsIn K mainGlobals "is_integer" = some (some (.ref f0))) (l0 : K.lookup f0 = some ⟨oc0, od0, .func (PySem.W.fnOf "is_integer" "is_integer" (defArgs K60.s0) (defBody K60.s0) (defScope K60.s0) .none kV0 dc0 pm0 an0 cd0 ct0), sl0⟩) (c0 : PySem.W.codeIn K cd0 "is_integer" = true) (k0 : PySem.W.keepIn K (.ref f0) = true)
    (a1 : PySem.W.nsIn K mainGlobals "is_word" = some (some (.ref f1))) (l1 : K.lookup f1 = some ⟨oc1, od1, .func (PySem.W.fnOf "is_word" "is_word" (defArgs K60.s1) (defBody K60.s1) (defScope K60.s1) .none kV1 dc1 pm1 an1 cd1 ct1), sl1⟩) (c1 : PySem.W.codeIn K cd1 "is_word" = true) (k1 : PySem.W.keepIn K (.ref f1) = true)
    (a2 : PySem.W.nsIn K mainGlobals "is_kind_node" = some (some (.ref f2))) (l2 : K.lookup f2 = some ⟨oc2, od2, .func (PySem.W.fnOf "is_kind_node" "is_kind_node" (defArgs K60.s2) (defBody K60.s2) (defScope K60.s2) .none kV2 dc2 pm2 an2 cd2 ct2), sl2⟩) (c2 : PySem.W.codeIn K cd2 "is_kind_node" = true) (k2 : PySem.W.keepIn K (.ref f2) = true)
    (a3 : PySem.W.nsIn K mainGlobals "is_kind_form" = some (some (.ref f3))) (l3 : K.lookup f3 = some ⟨oc3, od3, .func (PySem.W.fnOf "is_kind_form" "is_kind_form" (defArgs K60.s3) (defBody K60.s3) (defScope K60.s3) .none kV3 dc3 pm3 an3 cd3 ct3), sl3⟩) (c3 : PySem.W.codeIn K cd3 "is_kind_form" = true) (k3 : PySem.W.keepIn K (.ref f3) = true)
    (a4 : PySem.W.nsIn K mainGlobals "is_raw_node" = some (some (.ref f4))) (l4 : K.lookup f4 = some ⟨oc4, od4, .func (PySem.W.fnOf "is_raw_node" "is_raw_node" (defArgs K60.s4) (defBody K60.s4) (defScope K60.s4) .none kV4 dc4 pm4 an4 cd4 ct4), sl4⟩) (c4 : PySem.W.codeIn K cd4 "is_raw_node" = true) (k4 : PySem.W.keepIn K (.ref f4) = true)
    (a5 : PySem.W.nsIn K mainGlobals "raw_parts" = some (some (.ref f5))) (l5 : K.lookup f5 = some ⟨oc5, od5, .func (PySem.W.fnOf "raw_parts" "raw_parts" (defArgs K60.s5) (defBody K60.s5) (defScope K60.s5) .none kV5 dc5 pm5 an5 cd5 ct5), sl5⟩) (c5 : PySem.W.codeIn K cd5 "raw_parts" = true) (k5 : PySem.W.keepIn K (.ref f5) = true)
    (a6 : PySem.W.nsIn K mainGlobals "is_raw_form" = some (some (.ref f6))) (l6 : K.lookup f6 = some ⟨oc6, od6, .func (PySem.W.fnOf "is_raw_form" "is_raw_form" (defArgs K60.s6) (defBody K60.s6) (defScope K60.s6) .none kV6 dc6 pm6 an6 cd6 ct6), sl6⟩) (c6 : PySem.W.codeIn K cd6 "is_raw_form" = true) (k6 : PySem.W.keepIn K (.ref f6) = true)
    (a7 : PySem.W.nsIn K mainGlobals "is_loose_node" = some (some (.ref f7))) (l7 : K.lookup f7 = some ⟨oc7, od7, .func (PySem.W.fnOf "is_loose_node" "is_loose_node" (defArgs K60.s7) (defBody K60.s7) (defScope K60.s7) .none kV7 dc7 pm7 an7 cd7 ct7), sl7⟩) (c7 : PySem.W.codeIn K cd7 "is_loose_node" = true) (k7 : PySem.W.keepIn K (.ref f7) = true)
    (a8 : PySem.W.nsIn K mainGlobals "is_loose_form" = some (some (.ref f8))) (l8 : K.lookup f8 = some ⟨oc8, od8, .func (PySem.W.fnOf "is_loose_form" "is_loose_form" (defArgs K60.s8) (defBody K60.s8) (defScope K60.s8) .none kV8 dc8 pm8 an8 cd8 ct8), sl8⟩) (c8 : PySem.W.codeIn K cd8 "is_loose_form" = true) (k8 : PySem.W.keepIn K (.ref f8) = true)
    (a9 : PySem.W.nsIn K mainGlobals "is_raw" = some (some (.ref f9))) (l9 : K.lookup f9 = some ⟨oc9, od9, .func (PySem.W.fnOf "is_raw" "is_raw" (defArgs K60.s9) (defBody K60.s9) (defScope K60.s9) .none kV9 dc9 pm9 an9 cd9 ct9), sl9⟩) (c9 : PySem.W.codeIn K cd9 "is_raw" = true) (k9 : PySem.W.keepIn K (.ref f9) = true)
    (a10 : PySem.W.nsIn K mainGlobals "is_loose_kind" = some (some (.ref f10))) (l10 : K.lookup f10 = some ⟨oc10, od10, .func (PySem.W.fnOf "is_loose_kind" "is_loose_kind" (defArgs K60.s10) (defBody K60.s10) (defScope K60.s10) .none kV10 dc10 pm10 an10 cd10 ct10), sl10⟩) (c10 : PySem.W.codeIn K cd10 "is_loose_kind" = true) (k10 : PySem.W.keepIn K (.ref f10) = true)
    (a11 : PySem.W.nsIn K mainGlobals "is_kind" = some (some (.ref f11))) (l11 : K.lookup f11 = some ⟨oc11, od11, .func (PySem.W.fnOf "is_kind" "is_kind" (defArgs K60.s11) (defBody K60.s11) (defScope K60.s11) .none kV11 dc11 pm11 an11 cd11 ct11), sl11⟩) (c11 : PySem.W.codeIn K cd11 "is_kind" = true) (k11 : PySem.W.keepIn K (.ref f11) = true)
    (a12 : PySem.W.nsIn K mainGlobals "_law_feed" = some (some (.ref f12))) (l12 : K.lookup f12 = some ⟨oc12, od12, .func (PySem.W.fnOf "_law_feed" "_law_feed" (defArgs K60.s12) (defBody K60.s12) (defScope K60.s12) .none kV12 dc12 pm12 an12 cd12 ct12), sl12⟩) (c12 : PySem.W.codeIn K cd12 "_law_feed" = true) (k12 : PySem.W.keepIn K (.ref f12) = true)
    (a13 : PySem.W.nsIn K mainGlobals "_law_draw" = some (some (.ref f13))) (l13 : K.lookup f13 = some ⟨oc13, od13, .func (PySem.W.fnOf "_law_draw" "_law_draw" (defArgs K60.s13) (defBody K60.s13) (defScope K60.s13) .none kV13 dc13 pm13 an13 cd13 ct13), sl13⟩) (c13 : PySem.W.codeIn K cd13 "_law_draw" = true) (k13 : PySem.W.keepIn K (.ref f13) = true)
    (a14 : PySem.W.nsIn K mainGlobals "_law_one" = some (some (.ref f14))) (l14 : K.lookup f14 = some ⟨oc14, od14, .func (PySem.W.fnOf "_law_one" "_law_one" (defArgs K60.s14) (defBody K60.s14) (defScope K60.s14) .none kV14 dc14 pm14 an14 cd14 ct14), sl14⟩) (c14 : PySem.W.codeIn K cd14 "_law_one" = true) (k14 : PySem.W.keepIn K (.ref f14) = true)
    (a15 : PySem.W.nsIn K mainGlobals "_law_is" = some (some (.ref f15))) (l15 : K.lookup f15 = some ⟨oc15, od15, .func (PySem.W.fnOf "_law_is" "_law_is" (defArgs K60.s15) (defBody K60.s15) (defScope K60.s15) .none kV15 dc15 pm15 an15 cd15 ct15), sl15⟩) (c15 : PySem.W.codeIn K cd15 "_law_is" = true) (k15 : PySem.W.keepIn K (.ref f15) = true)
    (a16 : PySem.W.nsIn K mainGlobals "_law_word" = some (some (.ref f16))) (l16 : K.lookup f16 = some ⟨oc16, od16, .func (PySem.W.fnOf "_law_word" "_law_word" (defArgs K60.s16) (defBody K60.s16) (defScope K60.s16) .none kV16 dc16 pm16 an16 cd16 ct16), sl16⟩) (c16 : PySem.W.codeIn K cd16 "_law_word" = true) (k16 : PySem.W.keepIn K (.ref f16) = true)
    (a17 : PySem.W.nsIn K mainGlobals "_law_parts" = some (some (.ref f17))) (l17 : K.lookup f17 = some ⟨oc17, od17, .func (PySem.W.fnOf "_law_parts" "_law_parts" (defArgs K60.s17) (defBody K60.s17) (defScope K60.s17) .none kV17 dc17 pm17 an17 cd17 ct17), sl17⟩) (c17 : PySem.W.codeIn K cd17 "_law_parts" = true) (k17 : PySem.W.keepIn K (.ref f17) = true)
    (a18 : PySem.W.nsIn K mainGlobals "_law_swapped" = some (some (.ref f18))) (l18 : K.lookup f18 = some ⟨oc18, od18, .func (PySem.W.fnOf "_law_swapped" "_law_swapped" (defArgs K60.s18) (defBody K60.s18) (defScope K60.s18) .none kV18 dc18 pm18 an18 cd18 ct18), sl18⟩) (c18 : PySem.W.codeIn K cd18 "_law_swapped" = true) (k18 : PySem.W.keepIn K (.ref f18) = true)
    (a19 : PySem.W.nsIn K mainGlobals "_law_leaf" = some (some (.ref f19))) (l19 : K.lookup f19 = some ⟨oc19, od19, .func (PySem.W.fnOf "_law_leaf" "_law_leaf" (defArgs K60.s19) (defBody K60.s19) (defScope K60.s19) .none kV19 dc19 pm19 an19 cd19 ct19), sl19⟩) (c19 : PySem.W.codeIn K cd19 "_law_leaf" = true) (k19 : PySem.W.keepIn K (.ref f19) = true)
    (a20 : PySem.W.nsIn K mainGlobals "_law_small" = some (some (.ref f20))) (l20 : K.lookup f20 = some ⟨oc20, od20, .func (PySem.W.fnOf "_law_small" "_law_small" (defArgs K60.s20) (defBody K60.s20) (defScope K60.s20) .none kV20 dc20 pm20 an20 cd20 ct20), sl20⟩) (c20 : PySem.W.codeIn K cd20 "_law_small" = true) (k20 : PySem.W.keepIn K (.ref f20) = true)
    (a21 : PySem.W.nsIn K mainGlobals "_law_flat" = some (some (.ref f21))) (l21 : K.lookup f21 = some ⟨oc21, od21, .func (PySem.W.fnOf "_law_flat" "_law_flat" (defArgs K60.s21) (defBody K60.s21) (defScope K60.s21) .none kV21 dc21 pm21 an21 cd21 ct21), sl21⟩) (c21 : PySem.W.codeIn K cd21 "_law_flat" = true) (k21 : PySem.W.keepIn K (.ref f21) = true)
    (a22 : PySem.W.nsIn K mainGlobals "_law_thin" = some (some (.ref f22))) (l22 : K.lookup f22 = some ⟨oc22, od22, .func (PySem.W.fnOf "_law_thin" "_law_thin" (defArgs K60.s22) (defBody K60.s22) (defScope K60.s22) .none kV22 dc22 pm22 an22 cd22 ct22), sl22⟩) (c22 : PySem.W.codeIn K cd22 "_law_thin" = true) (k22 : PySem.W.keepIn K (.ref f22) = true)
    (a23 : PySem.W.nsIn K mainGlobals "_law_no_raw" = some (some (.ref f23))) (l23 : K.lookup f23 = some ⟨oc23, od23, .func (PySem.W.fnOf "_law_no_raw" "_law_no_raw" (defArgs K60.s23) (defBody K60.s23) (defScope K60.s23) .none kV23 dc23 pm23 an23 cd23 ct23), sl23⟩) (c23 : PySem.W.codeIn K cd23 "_law_no_raw" = true) (k23 : PySem.W.keepIn K (.ref f23) = true)
    (a24 : PySem.W.nsIn K mainGlobals "_law_terms" = some (some (.ref f24))) (l24 : K.lookup f24 = some ⟨oc24, od24, .func (PySem.W.fnOf "_law_terms" "_law_terms" (defArgs K60.s24) (defBody K60.s24) (defScope K60.s24) .none kV24 dc24 pm24 an24 cd24 ct24), sl24⟩) (c24 : PySem.W.codeIn K cd24 "_law_terms" = true) (k24 : PySem.W.keepIn K (.ref f24) = true)
    (a25 : PySem.W.nsIn K mainGlobals "_law_loose_leaf" = some (some (.ref f25))) (l25 : K.lookup f25 = some ⟨oc25, od25, .func (PySem.W.fnOf "_law_loose_leaf" "_law_loose_leaf" (defArgs K60.s25) (defBody K60.s25) (defScope K60.s25) .none kV25 dc25 pm25 an25 cd25 ct25), sl25⟩) (c25 : PySem.W.codeIn K cd25 "_law_loose_leaf" = true) (k25 : PySem.W.keepIn K (.ref f25) = true)
    (a26 : PySem.W.nsIn K mainGlobals "_law_small_kind" = some (some (.ref f26))) (l26 : K.lookup f26 = some ⟨oc26, od26, .func (PySem.W.fnOf "_law_small_kind" "_law_small_kind" (defArgs K60.s26) (defBody K60.s26) (defScope K60.s26) .none kV26 dc26 pm26 an26 cd26 ct26), sl26⟩) (c26 : PySem.W.codeIn K cd26 "_law_small_kind" = true) (k26 : PySem.W.keepIn K (.ref f26) = true)
    (a27 : PySem.W.nsIn K mainGlobals "_law_flat_kind" = some (some (.ref f27))) (l27 : K.lookup f27 = some ⟨oc27, od27, .func (PySem.W.fnOf "_law_flat_kind" "_law_flat_kind" (defArgs K60.s27) (defBody K60.s27) (defScope K60.s27) .none kV27 dc27 pm27 an27 cd27 ct27), sl27⟩) (c27 : PySem.W.codeIn K cd27 "_law_flat_kind" = true) (k27 : PySem.W.keepIn K (.ref f27) = true)
    (a28 : PySem.W.nsIn K mainGlobals "_law_thin_kind" = some (some (.ref f28))) (l28 : K.lookup f28 = some ⟨oc28, od28, .func (PySem.W.fnOf "_law_thin_kind" "_law_thin_kind" (defArgs K60.s28) (defBody K60.s28) (defScope K60.s28) .none kV28 dc28 pm28 an28 cd28 ct28), sl28⟩) (c28 : PySem.W.codeIn K cd28 "_law_thin_kind" = true) (k28 : PySem.W.keepIn K (.ref f28) = true)
    (a29 : PySem.W.nsIn K mainGlobals "_law_no_kind" = some (some (.ref f29))) (l29 : K.lookup f29 = some ⟨oc29, od29, .func (PySem.W.fnOf "_law_no_kind" "_law_no_kind" (defArgs K60.s29) (defBody K60.s29) (defScope K60.s29) .none kV29 dc29 pm29 an29 cd29 ct29), sl29⟩) (c29 : PySem.W.codeIn K cd29 "_law_no_kind" = true) (k29 : PySem.W.keepIn K (.ref f29) = true)
    (a30 : PySem.W.nsIn K mainGlobals "_law_has_any" = some (some (.ref f30))) (l30 : K.lookup f30 = some ⟨oc30, od30, .func (PySem.W.fnOf "_law_has_any" "_law_has_any" (defArgs K60.s30) (defBody K60.s30) (defScope K60.s30) .none kV30 dc30 pm30 an30 cd30 ct30), sl30⟩) (c30 : PySem.W.codeIn K cd30 "_law_has_any" = true) (k30 : PySem.W.keepIn K (.ref f30) = true)
    (a31 : PySem.W.nsIn K mainGlobals "_law_kinds" = some (some (.ref f31))) (l31 : K.lookup f31 = some ⟨oc31, od31, .func (PySem.W.fnOf "_law_kinds" "_law_kinds" (defArgs K60.s31) (defBody K60.s31) (defScope K60.s31) .none kV31 dc31 pm31 an31 cd31 ct31), sl31⟩) (c31 : PySem.W.codeIn K cd31 "_law_kinds" = true) (k31 : PySem.W.keepIn K (.ref f31) = true)
    (a32 : PySem.W.nsIn K mainGlobals "law" = some (some (.ref f32))) (l32 : K.lookup f32 = some ⟨oc32, od32, .func (PySem.W.fnOf "law" "law" (defArgs K60.s32) (defBody K60.s32) (defScope K60.s32) .none kV32 dc32 pm32 an32 cd32 ct32), sl32⟩) (c32 : PySem.W.codeIn K cd32 "law" = true) (k32 : PySem.W.keepIn K (.ref f32) = true)
    {t_LETTERS : Tok} (g_LETTERS : PySem.W.nsIn K mainGlobals "LETTERS" = some (some (.str "abcdefghijklmnopqrstuvwxyz" t_LETTERS)))
    {t_FIGURES : Tok} (g_FIGURES : PySem.W.nsIn K mainGlobals "FIGURES" = some (some (.str "0123456789" t_FIGURES)))
    {t_MOST_SIGNS : Tok} (g_MOST_SIGNS : PySem.W.nsIn K mainGlobals "MOST_SIGNS" = some (some (.int 12 t_MOST_SIGNS)))
    {t_MOST_KIND_NODES : Tok} (g_MOST_KIND_NODES : PySem.W.nsIn K mainGlobals "MOST_KIND_NODES" = some (some (.int 200 t_MOST_KIND_NODES)))
    {t_MOST_KIND_DEEP : Tok} (g_MOST_KIND_DEEP : PySem.W.nsIn K mainGlobals "MOST_KIND_DEEP" = some (some (.int 20 t_MOST_KIND_DEEP)))
    {t_MOST_NODES : Tok} (g_MOST_NODES : PySem.W.nsIn K mainGlobals "MOST_NODES" = some (some (.int 2000 t_MOST_NODES)))
    {t_MOST_DEEP : Tok} (g_MOST_DEEP : PySem.W.nsIn K mainGlobals "MOST_DEEP" = some (some (.int 60 t_MOST_DEEP)))
    {t_MOST_VARIABLE : Tok} (g_MOST_VARIABLE : PySem.W.nsIn K mainGlobals "MOST_VARIABLE" = some (some (.int 999 t_MOST_VARIABLE)))
    {t_LAST_ANY : Tok} (g_LAST_ANY : PySem.W.nsIn K mainGlobals "LAST_ANY" = some (some (.int 999 t_LAST_ANY)))
    (z_len : PySem.W.nsIn K mainGlobals "len" = some none)
    (z_int : PySem.W.nsIn K mainGlobals "int" = some none)
    (z_max : PySem.W.nsIn K mainGlobals "max" = some none)
    (z_min : PySem.W.nsIn K mainGlobals "min" = some none)
    (z_sum : PySem.W.nsIn K mainGlobals "sum" = some none)
    (z_all : PySem.W.nsIn K mainGlobals "all" = some none)
    (z_tuple : PySem.W.nsIn K mainGlobals "tuple" = some none)
    (z_list : PySem.W.nsIn K mainGlobals "list" = some none)
    (z_isinstance : PySem.W.nsIn K mainGlobals "isinstance" = some none)
    (z_range : PySem.W.nsIn K mainGlobals "range" = some none)
    (z_enumerate : PySem.W.nsIn K mainGlobals "enumerate" = some none)
    (z_zip : PySem.W.nsIn K mainGlobals "zip" = some none)
    (z_reversed : PySem.W.nsIn K mainGlobals "reversed" = some none)
    (z_bool : PySem.W.nsIn K mainGlobals "bool" = some none)
    (z_str : PySem.W.nsIn K mainGlobals "str" = some none)
    : Top K mg := by
  have hz : ∀ x ∈ bNames, mg x = none := by
    intro x hx
    simp only [bNames, List.mem_cons, List.not_mem_nil, or_false] at hx
    rcases hx with rfl | rfl | rfl | rfl | rfl | rfl | rfl | rfl | rfl | rfl | rfl | rfl | rfl | rfl | rfl
    · exact PySem.W.mg_none_of X G z_len
    · exact PySem.W.mg_none_of X G z_int
    · exact PySem.W.mg_none_of X G z_max
    · exact PySem.W.mg_none_of X G z_min
    · exact PySem.W.mg_none_of X G z_sum
    · exact PySem.W.mg_none_of X G z_all
    · exact PySem.W.mg_none_of X G z_tuple
    · exact PySem.W.mg_none_of X G z_list
    · exact PySem.W.mg_none_of X G z_isinstance
    · exact PySem.W.mg_none_of X G z_range
    · exact PySem.W.mg_none_of X G z_enumerate
    · exact PySem.W.mg_none_of X G z_zip
    · exact PySem.W.mg_none_of X G z_reversed
    · exact PySem.W.mg_none_of X G z_bool
    · exact PySem.W.mg_none_of X G z_str
  exact ⟨⟨_, _, PySem.W.mg_of X G a0, fun_mk (st := K60.s0) l0 c0 k0⟩, ⟨_, _, PySem.W.mg_of X G a1, fun_mk (st := K60.s1) l1 c1 k1⟩, ⟨_, _, PySem.W.mg_of X G a2, fun_mk (st := K60.s2) l2 c2 k2⟩, ⟨_, _, PySem.W.mg_of X G a3, fun_mk (st := K60.s3) l3 c3 k3⟩, ⟨_, _, PySem.W.mg_of X G a4, fun_mk (st := K60.s4) l4 c4 k4⟩, ⟨_, _, PySem.W.mg_of X G a5, fun_mk (st := K60.s5) l5 c5 k5⟩, ⟨_, _, PySem.W.mg_of X G a6, fun_mk (st := K60.s6) l6 c6 k6⟩, ⟨_, _, PySem.W.mg_of X G a7, fun_mk (st := K60.s7) l7 c7 k7⟩, ⟨_, _, PySem.W.mg_of X G a8, fun_mk (st := K60.s8) l8 c8 k8⟩, ⟨_, _, PySem.W.mg_of X G a9, fun_mk (st := K60.s9) l9 c9 k9⟩, ⟨_, _, PySem.W.mg_of X G a10, fun_mk (st := K60.s10) l10 c10 k10⟩, ⟨_, _, PySem.W.mg_of X G a11, fun_mk (st := K60.s11) l11 c11 k11⟩, ⟨_, _, PySem.W.mg_of X G a12, fun_mk (st := K60.s12) l12 c12 k12⟩, ⟨_, _, PySem.W.mg_of X G a13, fun_mk (st := K60.s13) l13 c13 k13⟩, ⟨_, _, PySem.W.mg_of X G a14, fun_mk (st := K60.s14) l14 c14 k14⟩, ⟨_, _, PySem.W.mg_of X G a15, fun_mk (st := K60.s15) l15 c15 k15⟩, ⟨_, _, PySem.W.mg_of X G a16, fun_mk (st := K60.s16) l16 c16 k16⟩, ⟨_, _, PySem.W.mg_of X G a17, fun_mk (st := K60.s17) l17 c17 k17⟩, ⟨_, _, PySem.W.mg_of X G a18, fun_mk (st := K60.s18) l18 c18 k18⟩, ⟨_, _, PySem.W.mg_of X G a19, fun_mk (st := K60.s19) l19 c19 k19⟩, ⟨_, _, PySem.W.mg_of X G a20, fun_mk (st := K60.s20) l20 c20 k20⟩, ⟨_, _, PySem.W.mg_of X G a21, fun_mk (st := K60.s21) l21 c21 k21⟩, ⟨_, _, PySem.W.mg_of X G a22, fun_mk (st := K60.s22) l22 c22 k22⟩, ⟨_, _, PySem.W.mg_of X G a23, fun_mk (st := K60.s23) l23 c23 k23⟩, ⟨_, _, PySem.W.mg_of X G a24, fun_mk (st := K60.s24) l24 c24 k24⟩, ⟨_, _, PySem.W.mg_of X G a25, fun_mk (st := K60.s25) l25 c25 k25⟩, ⟨_, _, PySem.W.mg_of X G a26, fun_mk (st := K60.s26) l26 c26 k26⟩, ⟨_, _, PySem.W.mg_of X G a27, fun_mk (st := K60.s27) l27 c27 k27⟩, ⟨_, _, PySem.W.mg_of X G a28, fun_mk (st := K60.s28) l28 c28 k28⟩, ⟨_, _, PySem.W.mg_of X G a29, fun_mk (st := K60.s29) l29 c29 k29⟩, ⟨_, _, PySem.W.mg_of X G a30, fun_mk (st := K60.s30) l30 c30 k30⟩, ⟨_, _, PySem.W.mg_of X G a31, fun_mk (st := K60.s31) l31 c31 k31⟩, ⟨_, _, PySem.W.mg_of X G a32, fun_mk (st := K60.s32) l32 c32 k32⟩, ⟨_, PySem.W.mg_of X G g_LETTERS⟩, ⟨_, PySem.W.mg_of X G g_FIGURES⟩, ⟨_, PySem.W.mg_of X G g_MOST_SIGNS⟩, ⟨_, PySem.W.mg_of X G g_MOST_KIND_NODES⟩, ⟨_, PySem.W.mg_of X G g_MOST_KIND_DEEP⟩, ⟨_, PySem.W.mg_of X G g_MOST_NODES⟩, ⟨_, PySem.W.mg_of X G g_MOST_DEEP⟩, ⟨_, PySem.W.mg_of X G g_MOST_VARIABLE⟩, ⟨_, PySem.W.mg_of X G g_LAST_ANY⟩, hz⟩
abbrev depth : Nat := 100
theorem law_at {P : Program} {w : World} {K : PySem.W.Frag} {mg : Str → Option Value} {fa : Addr} (hm : mg "law" = some (.ref fa)) (X : Top K mg) :
    ∃ fd : FuncData, (∀ (s : Shared) (u : Value), BindsTo s fd ⟨[u], []⟩ [("script", u)]) ∧ ∀ base : Heap, K.In base → base.Ns mainGlobals mg → FnOk P w K mg base (L2.CX P w) depth fa fd ["script"] (spF (G K) depth 32) := by
  obtain ⟨a, fd, e1, e2⟩ := X.f32
  have hb : ∀ (s : Shared) (u : Value), BindsTo s fd ⟨[u], []⟩ [(("script" : Str), u)] := by
    obtain ⟨oc, od, kV, doc, pm, an, cdv, ct, osl, rfl, lk, hcd⟩ := e2.ex
    exact fun s v => .of_eq rfl
  exact law_fn (n := depth - 1) (ground X) hm e1 e2 ok32 hb
end K60

set_option Elab.async false
set_option linter.all false
set_option maxRecDepth 100000
set_option maxHeartbeats 4000000
namespace K60
open PySem PySem.Spec L2 Mp
theorem so_lam : PyData.strOk (Str.ofString "lam") = true := by decide +kernel
theorem so_app : PyData.strOk (Str.ofString "app") = true := by decide +kernel
theorem so_var : PyData.strOk (Str.ofString "var") = true := by decide +kernel
theorem so_con : PyData.strOk (Str.ofString "con") = true := by decide +kernel
theorem so_any : PyData.strOk (Str.ofString "any") = true := by decide +kernel
theorem so_base : PyData.strOk (Str.ofString "base") = true := by decide +kernel
theorem so_arrow : PyData.strOk (Str.ofString "arrow") = true := by decide +kernel
def isInt (x : PyData) (a b : Int) : Bool := match x with
  | .int i => decide (a ≤ i) && decide (i ≤ b)
  | _ => false
theorem c_int (n : Nat) (x : PyData) (a b : Int) (st : Sto) : callF FT (n + 1) 0 [.d x, .d (.int a), .d (.int b)] st = .ok (.d (.bool (isInt x a b))) st := by
  rw [cf ft0]
  cases x <;> simp [lineOk4, lineOk5, lineOk6, lineOk7, lineOk8, lineOk9, lineOk10, lineOk11, lineOk12, lineOk13, lineOk14, lineOk15, lineOk16, lineOk17, lineOk18, lineOk19, lineOk20, lineOk21, lineOk22, lineOk23, lineOk24, lineOk25, lineOk26, lineOk27, lineOk28, lineOk29, lineOk30, lineOk31, lineOk32, lineOk33, lineOk34, lineOk35, lineOk36, lineOk37, lineOk38, lineOk39, lineOk40, nc0, nc1, nc2, nc3, nc4, lineOk0, lineOk1, lineOk2, lineOk3, Nat.reduceAdd, Nat.reduceSub, Int.reduceLT, Int.reduceLE, Int.reduceBEq, Int.reduceEq, Int.reduceAdd, Int.reduceSub, Int.reduceNeg, atI_0, atI_1, atI_2, atI_3, cut_1, cut_to1, eq_self, Option.bind_some, rb_ok, rb_exc, rb_bad, ro_ok, ro_exc, ro_bad, sq_nx, sq_rt, sq_bk, sq_ct, q_vgo1, q_vgo2, q_vgo3, q_pfin1, q_pfin2, q_pgo1, q_pgo2, q_cellD1, q_cellD2, q_cons21, q_cons22, q_cons23, q_tfin1, q_tfin2, q_tgo1, q_tgo2, q_isCell1, q_isCell2, q_appGo1, q_appGo2, q_extGo1, q_extGo2, q_popFin1, q_popFin2, q_popGo1, q_popGo2, q_newGo1, q_newGo2, q_setFin1, q_setFin2, q_setGo1, q_setGo2, q_chn1, q_chn2, q_compGo1, q_compGo2, q_ckGo1, q_ckGo2, e_var, e_glob, e_lit, e_pr, e_new, e_act0, e_act1, e_and, e_or, e_not, e_ite, e_chain, e_call, e_callk, e_comp, es_nil, es_cons, an_one, an_more, or_one, or_more, e_T, prim_eq, argsD, holds, deref_d, deref_loc, derefs_nil, derefs_cons, dsOf_nil, dsOf_cons, tru_eq, q_truD1, q_truD2, q_truD3, q_truD4, q_truD5, q_truD6, q_truD7, isLst_loc, do_app, do_ext, do_pop, new_eq, set_eq, p_tup, p_lst, p_add, p_sub, p_mul, p_fdiv, p_mod, p_pow, p_lt, p_le, p_gt, p_ge, p_max, p_min, p_eq, p_ne, p_in, p_nin, p_ix, p_slTo, p_slFrom, p_slB, p_neg, p_len, p_int, p_sum, p_all, p_tupL, p_tupT, p_lstL, p_lstT, p_isi, p_isN, p_notN, isin_ch, isin_tup, isin_list, isTy, q_addD1, q_addD2, q_addD3, q_addD4, q_ixD1, q_ixD2, q_ixD3, q_slD1, q_slD2, q_lenD1, q_lenD2, q_lenD3, q_ugo1, q_ugo2, q_sgo1, q_sgo2, q_agoF1, q_agoF2, q_ago1, q_ago2, q_ago3, aug_add, aug_sub, q_fgo1, q_fgo2, s_asg', s_unp', s_par', s_par3', s_setix', s_aug', s_ex', s_ite', s_for', s_while', s_ret', ss_nil', ss_cons', asg_one, asg_many, setMany, pk_d, fin_rt, fin_nx, fin_ex, nx_ok, pick_nil, pick_cons, startR, get_top, set_top, take_top, take_own, take_fd, take_fd2, stq_get, stq_set, stq_len, stq_app, stq_top, stq_take, stq_take2, eqOk_str, eqv_str, eqOk_int, eqv_int, eqOk_bool, eqv_bool, it_seq, it_r1, it_r2, it_el, it_et, it_zip, it_rev, q_seqD1, q_seqD2, q_seqD3, List.map_cons, List.map_nil, List.length_cons, List.length_nil, List.replicate_succ, List.replicate_zero, List.append_nil, List.nil_append, List.cons_append, List.getElem?_cons_zero, List.getElem?_cons_succ, List.getElem?_nil, List.set_cons_zero, List.set_cons_succ, Option.map_some, Option.map_none, if_true, if_false, ite_true, ite_false, reduceIte, Bool.not_true, Bool.not_false, Bool.false_eq_true, decide_true, decide_false, Bool.and_true, Bool.true_and, Bool.and_false, Bool.false_and, b0, isInt]
  rename_i i
  by_cases h : a ≤ i <;> simp [h, lineOk4, lineOk5, lineOk6, lineOk7, lineOk8, lineOk9, lineOk10, lineOk11, lineOk12, lineOk13, lineOk14, lineOk15, lineOk16, lineOk17, lineOk18, lineOk19, lineOk20, lineOk21, lineOk22, lineOk23, lineOk24, lineOk25, lineOk26, lineOk27, lineOk28, lineOk29, lineOk30, lineOk31, lineOk32, lineOk33, lineOk34, lineOk35, lineOk36, lineOk37, lineOk38, lineOk39, lineOk40, nc0, nc1, nc2, nc3, nc4, lineOk0, lineOk1, lineOk2, lineOk3, Nat.reduceAdd, Nat.reduceSub, Int.reduceLT, Int.reduceLE, Int.reduceBEq, Int.reduceEq, Int.reduceAdd, Int.reduceSub, Int.reduceNeg, atI_0, atI_1, atI_2, atI_3, cut_1, cut_to1, eq_self, Option.bind_some, rb_ok, rb_exc, rb_bad, ro_ok, ro_exc, ro_bad, sq_nx, sq_rt, sq_bk, sq_ct, q_vgo1, q_vgo2, q_vgo3, q_pfin1, q_pfin2, q_pgo1, q_pgo2, q_cellD1, q_cellD2, q_cons21, q_cons22, q_cons23, q_tfin1, q_tfin2, q_tgo1, q_tgo2, q_isCell1, q_isCell2, q_appGo1, q_appGo2, q_extGo1, q_extGo2, q_popFin1, q_popFin2, q_popGo1, q_popGo2, q_newGo1, q_newGo2, q_setFin1, q_setFin2, q_setGo1, q_setGo2, q_chn1, q_chn2, q_compGo1, q_compGo2, q_ckGo1, q_ckGo2, e_var, e_glob, e_lit, e_pr, e_new, e_act0, e_act1, e_and, e_or, e_not, e_ite, e_chain, e_call, e_callk, e_comp, es_nil, es_cons, an_one, an_more, or_one, or_more, e_T, prim_eq, argsD, holds, deref_d, deref_loc, derefs_nil, derefs_cons, dsOf_nil, dsOf_cons, tru_eq, q_truD1, q_truD2, q_truD3, q_truD4, q_truD5, q_truD6, q_truD7, isLst_loc, do_app, do_ext, do_pop, new_eq, set_eq, p_tup, p_lst, p_add, p_sub, p_mul, p_fdiv, p_mod, p_pow, p_lt, p_le, p_gt, p_ge, p_max, p_min, p_eq, p_ne, p_in, p_nin, p_ix, p_slTo, p_slFrom, p_slB, p_neg, p_len, p_int, p_sum, p_all, p_tupL, p_tupT, p_lstL, p_lstT, p_isi, p_isN, p_notN, isin_ch, isin_tup, isin_list, isTy, q_addD1, q_addD2, q_addD3, q_addD4, q_ixD1, q_ixD2, q_ixD3, q_slD1, q_slD2, q_lenD1, q_lenD2, q_lenD3, q_ugo1, q_ugo2, q_sgo1, q_sgo2, q_agoF1, q_agoF2, q_ago1, q_ago2, q_ago3, aug_add, aug_sub, q_fgo1, q_fgo2, s_asg', s_unp', s_par', s_par3', s_setix', s_aug', s_ex', s_ite', s_for', s_while', s_ret', ss_nil', ss_cons', asg_one, asg_many, setMany, pk_d, fin_rt, fin_nx, fin_ex, nx_ok, pick_nil, pick_cons, startR, get_top, set_top, take_top, take_own, take_fd, take_fd2, stq_get, stq_set, stq_len, stq_app, stq_top, stq_take, stq_take2, eqOk_str, eqv_str, eqOk_int, eqv_int, eqOk_bool, eqv_bool, it_seq, it_r1, it_r2, it_el, it_et, it_zip, it_rev, q_seqD1, q_seqD2, q_seqD3, List.map_cons, List.map_nil, List.length_cons, List.length_nil, List.replicate_succ, List.replicate_zero, List.append_nil, List.nil_append, List.cons_append, List.getElem?_cons_zero, List.getElem?_cons_succ, List.getElem?_nil, List.set_cons_zero, List.set_cons_succ, Option.map_some, Option.map_none, if_true, if_false, ite_true, ite_false, reduceIte, Bool.not_true, Bool.not_false, Bool.false_eq_true, decide_true, decide_false, Bool.and_true, Bool.true_and, Bool.and_false, Bool.false_and]
def lets : List Nat := (Str.ofString "abcdefghijklmnopqrstuvwxyz").cps.toList
def figs : List Nat := (Str.ofString "0123456789").cps.toList
def chOk (c : Nat) : Bool := decide (c ∈ lets) || decide (c ∈ figs)
def wordOk (w : Str) : Bool := match w.cps.toList with
  | [] => false
  | c :: r => decide (r.length ≤ 11) && (decide (c ∈ lets) && (c :: r).all chOk)
def isWord : PyData → Bool
  | .str w => wordOk w
  | _ => false
def strFit : PyData → Bool
  | .str w => lineOk w.length
  | _ => true
theorem len_cps (w : Str) : w.length = w.cps.toList.length := by unfold Str.length; simp
theorem chars_all (n : Nat) (ρ : Rho) (a : Option W) (hρ : ρ = [a, none]) (l : List Nat) (st : Sto) (h : l.length ≤ 16777216) : compL (compF (callF FT n) [1] (.one 1) (.lit (.bool true)) (.or (.cons (.pr .isin (.cons (.var 1) (.cons (.glob "LETTERS" (.str "abcdefghijklmnopqrstuvwxyz")) .nil))) (.cons (.pr .isin (.cons (.var 1) (.cons (.glob "FIGURES" (.str "0123456789")) .nil))) .nil))) ρ)
    (l.map fun c => .str ⟨#[c]⟩) [] st = .ok (.d (.list (l.map fun c => .bool (chOk c)))) st := by
  subst hρ
  rw [compL_map (g := fun x => match x with
    | .str w => (match w.cps.toList with
      | [c] => .bool (chOk c)
      | _ => .none)
    | _ => .none)]
  · simp
  · intro x hx st'
    obtain ⟨c, _, rfl⟩ := List.mem_map.mp hx
    rw [compF_one]
    have k1 : lets = (Str.ofString "abcdefghijklmnopqrstuvwxyz").cps.toList := rfl
    have k2 : figs = (Str.ofString "0123456789").cps.toList := rfl
    cases k : decide (c ∈ lets) <;> simp only [lineOk4, lineOk5, lineOk6, lineOk7, lineOk8, lineOk9, lineOk10, lineOk11, lineOk12, lineOk13, lineOk14, lineOk15, lineOk16, lineOk17, lineOk18, lineOk19, lineOk20, lineOk21, lineOk22, lineOk23, lineOk24, lineOk25, lineOk26, lineOk27, lineOk28, lineOk29, lineOk30, lineOk31, lineOk32, lineOk33, lineOk34, lineOk35, lineOk36, lineOk37, lineOk38, lineOk39, lineOk40, nc0, nc1, nc2, nc3, nc4, lineOk0, lineOk1, lineOk2, lineOk3, Nat.reduceAdd, Nat.reduceSub, Int.reduceLT, Int.reduceLE, Int.reduceBEq, Int.reduceEq, Int.reduceAdd, Int.reduceSub, Int.reduceNeg, atI_0, atI_1, atI_2, atI_3, cut_1, cut_to1, eq_self, Option.bind_some, rb_ok, rb_exc, rb_bad, ro_ok, ro_exc, ro_bad, sq_nx, sq_rt, sq_bk, sq_ct, q_vgo1, q_vgo2, q_vgo3, q_pfin1, q_pfin2, q_pgo1, q_pgo2, q_cellD1, q_cellD2, q_cons21, q_cons22, q_cons23, q_tfin1, q_tfin2, q_tgo1, q_tgo2, q_isCell1, q_isCell2, q_appGo1, q_appGo2, q_extGo1, q_extGo2, q_popFin1, q_popFin2, q_popGo1, q_popGo2, q_newGo1, q_newGo2, q_setFin1, q_setFin2, q_setGo1, q_setGo2, q_chn1, q_chn2, q_compGo1, q_compGo2, q_ckGo1, q_ckGo2, e_var, e_glob, e_lit, e_pr, e_new, e_act0, e_act1, e_and, e_or, e_not, e_ite, e_chain, e_call, e_callk, e_comp, es_nil, es_cons, an_one, an_more, or_one, or_more, e_T, prim_eq, argsD, holds, deref_d, deref_loc, derefs_nil, derefs_cons, dsOf_nil, dsOf_cons, tru_eq, q_truD1, q_truD2, q_truD3, q_truD4, q_truD5, q_truD6, q_truD7, isLst_loc, do_app, do_ext, do_pop, new_eq, set_eq, p_tup, p_lst, p_add, p_sub, p_mul, p_fdiv, p_mod, p_pow, p_lt, p_le, p_gt, p_ge, p_max, p_min, p_eq, p_ne, p_in, p_nin, p_ix, p_slTo, p_slFrom, p_slB, p_neg, p_len, p_int, p_sum, p_all, p_tupL, p_tupT, p_lstL, p_lstT, p_isi, p_isN, p_notN, isin_ch, isin_tup, isin_list, isTy, q_addD1, q_addD2, q_addD3, q_addD4, q_ixD1, q_ixD2, q_ixD3, q_slD1, q_slD2, q_lenD1, q_lenD2, q_lenD3, q_ugo1, q_ugo2, q_sgo1, q_sgo2, q_agoF1, q_agoF2, q_ago1, q_ago2, q_ago3, aug_add, aug_sub, q_fgo1, q_fgo2, s_asg', s_unp', s_par', s_par3', s_setix', s_aug', s_ex', s_ite', s_for', s_while', s_ret', ss_nil', ss_cons', asg_one, asg_many, setMany, pk_d, fin_rt, fin_nx, fin_ex, nx_ok, pick_nil, pick_cons, startR, get_top, set_top, take_top, take_own, take_fd, take_fd2, stq_get, stq_set, stq_len, stq_app, stq_top, stq_take, stq_take2, eqOk_str, eqv_str, eqOk_int, eqv_int, eqOk_bool, eqv_bool, it_seq, it_r1, it_r2, it_el, it_et, it_zip, it_rev, q_seqD1, q_seqD2, q_seqD3, List.map_cons, List.map_nil, List.length_cons, List.length_nil, List.replicate_succ, List.replicate_zero, List.append_nil, List.nil_append, List.cons_append, List.getElem?_cons_zero, List.getElem?_cons_succ, List.getElem?_nil, List.set_cons_zero, List.set_cons_succ, Option.map_some, Option.map_none, if_true, if_false, ite_true, ite_false, reduceIte, Bool.not_true, Bool.not_false, Bool.false_eq_true, decide_true, decide_false, Bool.and_true, Bool.true_and, Bool.and_false, Bool.false_and, wipeR, yld_d, chOk, ← k1, ← k2, k, Bool.true_or, Bool.false_or]
  · rw [List.length_map, List.length_nil, Nat.zero_add]; exact h
theorem c_word (n : Nat) (x : PyData) (st : Sto) (h : strFit x = true) : callF FT (n + 1) 1 [.d x] st = .ok (.d (.bool (isWord x))) st := by
  rw [cf ft1]
  cases x with
  | str w =>
    have h : lineOk w.length = true := h
    have k1 : lets = (Str.ofString "abcdefghijklmnopqrstuvwxyz").cps.toList := rfl
    rcases q : w.cps.toList with _ | ⟨c, r⟩
    · have h0 : w.length = 0 := by rw [len_cps, q]; rfl
      have d1 : decide ((1 : Int) ≤ (0 : Nat)) = false := rfl
      simp only [lineOk4, lineOk5, lineOk6, lineOk7, lineOk8, lineOk9, lineOk10, lineOk11, lineOk12, lineOk13, lineOk14, lineOk15, lineOk16, lineOk17, lineOk18, lineOk19, lineOk20, lineOk21, lineOk22, lineOk23, lineOk24, lineOk25, lineOk26, lineOk27, lineOk28, lineOk29, lineOk30, lineOk31, lineOk32, lineOk33, lineOk34, lineOk35, lineOk36, lineOk37, lineOk38, lineOk39, lineOk40, nc0, nc1, nc2, nc3, nc4, lineOk0, lineOk1, lineOk2, lineOk3, Nat.reduceAdd, Nat.reduceSub, Int.reduceLT, Int.reduceLE, Int.reduceBEq, Int.reduceEq, Int.reduceAdd, Int.reduceSub, Int.reduceNeg, atI_0, atI_1, atI_2, atI_3, cut_1, cut_to1, eq_self, Option.bind_some, rb_ok, rb_exc, rb_bad, ro_ok, ro_exc, ro_bad, sq_nx, sq_rt, sq_bk, sq_ct, q_vgo1, q_vgo2, q_vgo3, q_pfin1, q_pfin2, q_pgo1, q_pgo2, q_cellD1, q_cellD2, q_cons21, q_cons22, q_cons23, q_tfin1, q_tfin2, q_tgo1, q_tgo2, q_isCell1, q_isCell2, q_appGo1, q_appGo2, q_extGo1, q_extGo2, q_popFin1, q_popFin2, q_popGo1, q_popGo2, q_newGo1, q_newGo2, q_setFin1, q_setFin2, q_setGo1, q_setGo2, q_chn1, q_chn2, q_compGo1, q_compGo2, q_ckGo1, q_ckGo2, e_var, e_glob, e_lit, e_pr, e_new, e_act0, e_act1, e_and, e_or, e_not, e_ite, e_chain, e_call, e_callk, e_comp, es_nil, es_cons, an_one, an_more, or_one, or_more, e_T, prim_eq, argsD, holds, deref_d, deref_loc, derefs_nil, derefs_cons, dsOf_nil, dsOf_cons, tru_eq, q_truD1, q_truD2, q_truD3, q_truD4, q_truD5, q_truD6, q_truD7, isLst_loc, do_app, do_ext, do_pop, new_eq, set_eq, p_tup, p_lst, p_add, p_sub, p_mul, p_fdiv, p_mod, p_pow, p_lt, p_le, p_gt, p_ge, p_max, p_min, p_eq, p_ne, p_in, p_nin, p_ix, p_slTo, p_slFrom, p_slB, p_neg, p_len, p_int, p_sum, p_all, p_tupL, p_tupT, p_lstL, p_lstT, p_isi, p_isN, p_notN, isin_ch, isin_tup, isin_list, isTy, q_addD1, q_addD2, q_addD3, q_addD4, q_ixD1, q_ixD2, q_ixD3, q_slD1, q_slD2, q_lenD1, q_lenD2, q_lenD3, q_ugo1, q_ugo2, q_sgo1, q_sgo2, q_agoF1, q_agoF2, q_ago1, q_ago2, q_ago3, aug_add, aug_sub, q_fgo1, q_fgo2, s_asg', s_unp', s_par', s_par3', s_setix', s_aug', s_ex', s_ite', s_for', s_while', s_ret', ss_nil', ss_cons', asg_one, asg_many, setMany, pk_d, fin_rt, fin_nx, fin_ex, nx_ok, pick_nil, pick_cons, startR, get_top, set_top, take_top, take_own, take_fd, take_fd2, stq_get, stq_set, stq_len, stq_app, stq_top, stq_take, stq_take2, eqOk_str, eqv_str, eqOk_int, eqv_int, eqOk_bool, eqv_bool, it_seq, it_r1, it_r2, it_el, it_et, it_zip, it_rev, q_seqD1, q_seqD2, q_seqD3, List.map_cons, List.map_nil, List.length_cons, List.length_nil, List.replicate_succ, List.replicate_zero, List.append_nil, List.nil_append, List.cons_append, List.getElem?_cons_zero, List.getElem?_cons_succ, List.getElem?_nil, List.set_cons_zero, List.set_cons_succ, Option.map_some, Option.map_none, if_true, if_false, ite_true, ite_false, reduceIte, Bool.not_true, Bool.not_false, Bool.false_eq_true, decide_true, decide_false, Bool.and_true, Bool.true_and, Bool.and_false, Bool.false_and, b1, isWord, wordOk, h, h0, q, lineOk_small, d1, Nat.zero_le]
    · have h0 : w.length = r.length + 1 := by rw [len_cps, q]; rfl
      rw [h0] at h
      have d1 : decide ((1 : Int) ≤ ((r.length + 1 : Nat) : Int)) = true := decide_eq_true (by omega)
      by_cases hl : r.length ≤ 11
      · have h4 : decide (((r.length + 1 : Nat) : Int) ≤ 12) = true := decide_eq_true (by omega)
        have h5 := chars_all n [some (.d (.str w)), none] (some (.d (.str w))) rfl (c :: r) st (by rw [List.length_cons]; omega)
        cases k : decide (c ∈ lets)
        · simp only [lineOk4, lineOk5, lineOk6, lineOk7, lineOk8, lineOk9, lineOk10, lineOk11, lineOk12, lineOk13, lineOk14, lineOk15, lineOk16, lineOk17, lineOk18, lineOk19, lineOk20, lineOk21, lineOk22, lineOk23, lineOk24, lineOk25, lineOk26, lineOk27, lineOk28, lineOk29, lineOk30, lineOk31, lineOk32, lineOk33, lineOk34, lineOk35, lineOk36, lineOk37, lineOk38, lineOk39, lineOk40, nc0, nc1, nc2, nc3, nc4, lineOk0, lineOk1, lineOk2, lineOk3, Nat.reduceAdd, Nat.reduceSub, Int.reduceLT, Int.reduceLE, Int.reduceBEq, Int.reduceEq, Int.reduceAdd, Int.reduceSub, Int.reduceNeg, atI_0, atI_1, atI_2, atI_3, cut_1, cut_to1, eq_self, Option.bind_some, rb_ok, rb_exc, rb_bad, ro_ok, ro_exc, ro_bad, sq_nx, sq_rt, sq_bk, sq_ct, q_vgo1, q_vgo2, q_vgo3, q_pfin1, q_pfin2, q_pgo1, q_pgo2, q_cellD1, q_cellD2, q_cons21, q_cons22, q_cons23, q_tfin1, q_tfin2, q_tgo1, q_tgo2, q_isCell1, q_isCell2, q_appGo1, q_appGo2, q_extGo1, q_extGo2, q_popFin1, q_popFin2, q_popGo1, q_popGo2, q_newGo1, q_newGo2, q_setFin1, q_setFin2, q_setGo1, q_setGo2, q_chn1, q_chn2, q_compGo1, q_compGo2, q_ckGo1, q_ckGo2, e_var, e_glob, e_lit, e_pr, e_new, e_act0, e_act1, e_and, e_or, e_not, e_ite, e_chain, e_call, e_callk, e_comp, es_nil, es_cons, an_one, an_more, or_one, or_more, e_T, prim_eq, argsD, holds, deref_d, deref_loc, derefs_nil, derefs_cons, dsOf_nil, dsOf_cons, tru_eq, q_truD1, q_truD2, q_truD3, q_truD4, q_truD5, q_truD6, q_truD7, isLst_loc, do_app, do_ext, do_pop, new_eq, set_eq, p_tup, p_lst, p_add, p_sub, p_mul, p_fdiv, p_mod, p_pow, p_lt, p_le, p_gt, p_ge, p_max, p_min, p_eq, p_ne, p_in, p_nin, p_ix, p_slTo, p_slFrom, p_slB, p_neg, p_len, p_int, p_sum, p_all, p_tupL, p_tupT, p_lstL, p_lstT, p_isi, p_isN, p_notN, isin_ch, isin_tup, isin_list, isTy, q_addD1, q_addD2, q_addD3, q_addD4, q_ixD1, q_ixD2, q_ixD3, q_slD1, q_slD2, q_lenD1, q_lenD2, q_lenD3, q_ugo1, q_ugo2, q_sgo1, q_sgo2, q_agoF1, q_agoF2, q_ago1, q_ago2, q_ago3, aug_add, aug_sub, q_fgo1, q_fgo2, s_asg', s_unp', s_par', s_par3', s_setix', s_aug', s_ex', s_ite', s_for', s_while', s_ret', ss_nil', ss_cons', asg_one, asg_many, setMany, pk_d, fin_rt, fin_nx, fin_ex, nx_ok, pick_nil, pick_cons, startR, get_top, set_top, take_top, take_own, take_fd, take_fd2, stq_get, stq_set, stq_len, stq_app, stq_top, stq_take, stq_take2, eqOk_str, eqv_str, eqOk_int, eqv_int, eqOk_bool, eqv_bool, it_seq, it_r1, it_r2, it_el, it_et, it_zip, it_rev, q_seqD1, q_seqD2, q_seqD3, List.map_cons, List.map_nil, List.length_cons, List.length_nil, List.replicate_succ, List.replicate_zero, List.append_nil, List.nil_append, List.cons_append, List.getElem?_cons_zero, List.getElem?_cons_succ, List.getElem?_nil, List.set_cons_zero, List.set_cons_succ, Option.map_some, Option.map_none, if_true, if_false, ite_true, ite_false, reduceIte, Bool.not_true, Bool.not_false, Bool.false_eq_true, decide_true, decide_false, Bool.and_true, Bool.true_and, Bool.and_false, Bool.false_and, b1, isWord, wordOk, h, h0, q, d1, h4, ← k1, k, hl]
        · simp only [lineOk4, lineOk5, lineOk6, lineOk7, lineOk8, lineOk9, lineOk10, lineOk11, lineOk12, lineOk13, lineOk14, lineOk15, lineOk16, lineOk17, lineOk18, lineOk19, lineOk20, lineOk21, lineOk22, lineOk23, lineOk24, lineOk25, lineOk26, lineOk27, lineOk28, lineOk29, lineOk30, lineOk31, lineOk32, lineOk33, lineOk34, lineOk35, lineOk36, lineOk37, lineOk38, lineOk39, lineOk40, nc0, nc1, nc2, nc3, nc4, lineOk0, lineOk1, lineOk2, lineOk3, Nat.reduceAdd, Nat.reduceSub, Int.reduceLT, Int.reduceLE, Int.reduceBEq, Int.reduceEq, Int.reduceAdd, Int.reduceSub, Int.reduceNeg, atI_0, atI_1, atI_2, atI_3, cut_1, cut_to1, eq_self, Option.bind_some, rb_ok, rb_exc, rb_bad, ro_ok, ro_exc, ro_bad, sq_nx, sq_rt, sq_bk, sq_ct, q_vgo1, q_vgo2, q_vgo3, q_pfin1, q_pfin2, q_pgo1, q_pgo2, q_cellD1, q_cellD2, q_cons21, q_cons22, q_cons23, q_tfin1, q_tfin2, q_tgo1, q_tgo2, q_isCell1, q_isCell2, q_appGo1, q_appGo2, q_extGo1, q_extGo2, q_popFin1, q_popFin2, q_popGo1, q_popGo2, q_newGo1, q_newGo2, q_setFin1, q_setFin2, q_setGo1, q_setGo2, q_chn1, q_chn2, q_compGo1, q_compGo2, q_ckGo1, q_ckGo2, e_var, e_glob, e_lit, e_pr, e_new, e_act0, e_act1, e_and, e_or, e_not, e_ite, e_chain, e_call, e_callk, e_comp, es_nil, es_cons, an_one, an_more, or_one, or_more, e_T, prim_eq, argsD, holds, deref_d, deref_loc, derefs_nil, derefs_cons, dsOf_nil, dsOf_cons, tru_eq, q_truD1, q_truD2, q_truD3, q_truD4, q_truD5, q_truD6, q_truD7, isLst_loc, do_app, do_ext, do_pop, new_eq, set_eq, p_tup, p_lst, p_add, p_sub, p_mul, p_fdiv, p_mod, p_pow, p_lt, p_le, p_gt, p_ge, p_max, p_min, p_eq, p_ne, p_in, p_nin, p_ix, p_slTo, p_slFrom, p_slB, p_neg, p_len, p_int, p_sum, p_all, p_tupL, p_tupT, p_lstL, p_lstT, p_isi, p_isN, p_notN, isin_ch, isin_tup, isin_list, isTy, q_addD1, q_addD2, q_addD3, q_addD4, q_ixD1, q_ixD2, q_ixD3, q_slD1, q_slD2, q_lenD1, q_lenD2, q_lenD3, q_ugo1, q_ugo2, q_sgo1, q_sgo2, q_agoF1, q_agoF2, q_ago1, q_ago2, q_ago3, aug_add, aug_sub, q_fgo1, q_fgo2, s_asg', s_unp', s_par', s_par3', s_setix', s_aug', s_ex', s_ite', s_for', s_while', s_ret', ss_nil', ss_cons', asg_one, asg_many, setMany, pk_d, fin_rt, fin_nx, fin_ex, nx_ok, pick_nil, pick_cons, startR, get_top, set_top, take_top, take_own, take_fd, take_fd2, stq_get, stq_set, stq_len, stq_app, stq_top, stq_take, stq_take2, eqOk_str, eqv_str, eqOk_int, eqv_int, eqOk_bool, eqv_bool, it_seq, it_r1, it_r2, it_el, it_et, it_zip, it_rev, q_seqD1, q_seqD2, q_seqD3, List.map_cons, List.map_nil, List.length_cons, List.length_nil, List.replicate_succ, List.replicate_zero, List.append_nil, List.nil_append, List.cons_append, List.getElem?_cons_zero, List.getElem?_cons_succ, List.getElem?_nil, List.set_cons_zero, List.set_cons_succ, Option.map_some, Option.map_none, if_true, if_false, ite_true, ite_false, reduceIte, Bool.not_true, Bool.not_false, Bool.false_eq_true, decide_true, decide_false, Bool.and_true, Bool.true_and, Bool.and_false, Bool.false_and, b1, isWord, wordOk, h, h0, q, d1, h4, ← k1, k, hl]
          rw [List.map_cons] at h5
          have h6 : allD (PyData.bool (chOk c) :: List.map (fun c => PyData.bool (chOk c)) r) = some ((c :: r).all chOk) := allD_map chOk (c :: r)
          simp only [lineOk4, lineOk5, lineOk6, lineOk7, lineOk8, lineOk9, lineOk10, lineOk11, lineOk12, lineOk13, lineOk14, lineOk15, lineOk16, lineOk17, lineOk18, lineOk19, lineOk20, lineOk21, lineOk22, lineOk23, lineOk24, lineOk25, lineOk26, lineOk27, lineOk28, lineOk29, lineOk30, lineOk31, lineOk32, lineOk33, lineOk34, lineOk35, lineOk36, lineOk37, lineOk38, lineOk39, lineOk40, nc0, nc1, nc2, nc3, nc4, lineOk0, lineOk1, lineOk2, lineOk3, Nat.reduceAdd, Nat.reduceSub, Int.reduceLT, Int.reduceLE, Int.reduceBEq, Int.reduceEq, Int.reduceAdd, Int.reduceSub, Int.reduceNeg, atI_0, atI_1, atI_2, atI_3, cut_1, cut_to1, eq_self, Option.bind_some, rb_ok, rb_exc, rb_bad, ro_ok, ro_exc, ro_bad, sq_nx, sq_rt, sq_bk, sq_ct, q_vgo1, q_vgo2, q_vgo3, q_pfin1, q_pfin2, q_pgo1, q_pgo2, q_cellD1, q_cellD2, q_cons21, q_cons22, q_cons23, q_tfin1, q_tfin2, q_tgo1, q_tgo2, q_isCell1, q_isCell2, q_appGo1, q_appGo2, q_extGo1, q_extGo2, q_popFin1, q_popFin2, q_popGo1, q_popGo2, q_newGo1, q_newGo2, q_setFin1, q_setFin2, q_setGo1, q_setGo2, q_chn1, q_chn2, q_compGo1, q_compGo2, q_ckGo1, q_ckGo2, e_var, e_glob, e_lit, e_pr, e_new, e_act0, e_act1, e_and, e_or, e_not, e_ite, e_chain, e_call, e_callk, e_comp, es_nil, es_cons, an_one, an_more, or_one, or_more, e_T, prim_eq, argsD, holds, deref_d, deref_loc, derefs_nil, derefs_cons, dsOf_nil, dsOf_cons, tru_eq, q_truD1, q_truD2, q_truD3, q_truD4, q_truD5, q_truD6, q_truD7, isLst_loc, do_app, do_ext, do_pop, new_eq, set_eq, p_tup, p_lst, p_add, p_sub, p_mul, p_fdiv, p_mod, p_pow, p_lt, p_le, p_gt, p_ge, p_max, p_min, p_eq, p_ne, p_in, p_nin, p_ix, p_slTo, p_slFrom, p_slB, p_neg, p_len, p_int, p_sum, p_all, p_tupL, p_tupT, p_lstL, p_lstT, p_isi, p_isN, p_notN, isin_ch, isin_tup, isin_list, isTy, q_addD1, q_addD2, q_addD3, q_addD4, q_ixD1, q_ixD2, q_ixD3, q_slD1, q_slD2, q_lenD1, q_lenD2, q_lenD3, q_ugo1, q_ugo2, q_sgo1, q_sgo2, q_agoF1, q_agoF2, q_ago1, q_ago2, q_ago3, aug_add, aug_sub, q_fgo1, q_fgo2, s_asg', s_unp', s_par', s_par3', s_setix', s_aug', s_ex', s_ite', s_for', s_while', s_ret', ss_nil', ss_cons', asg_one, asg_many, setMany, pk_d, fin_rt, fin_nx, fin_ex, nx_ok, pick_nil, pick_cons, startR, get_top, set_top, take_top, take_own, take_fd, take_fd2, stq_get, stq_set, stq_len, stq_app, stq_top, stq_take, stq_take2, eqOk_str, eqv_str, eqOk_int, eqv_int, eqOk_bool, eqv_bool, it_seq, it_r1, it_r2, it_el, it_et, it_zip, it_rev, q_seqD1, q_seqD2, q_seqD3, List.map_cons, List.map_nil, List.length_cons, List.length_nil, List.replicate_succ, List.replicate_zero, List.append_nil, List.nil_append, List.cons_append, List.getElem?_cons_zero, List.getElem?_cons_succ, List.getElem?_nil, List.set_cons_zero, List.set_cons_succ, Option.map_some, Option.map_none, if_true, if_false, ite_true, ite_false, reduceIte, Bool.not_true, Bool.not_false, Bool.false_eq_true, decide_true, decide_false, Bool.and_true, Bool.true_and, Bool.and_false, Bool.false_and, h5, h6]
      · have h4 : decide (((r.length + 1 : Nat) : Int) ≤ 12) = false := decide_eq_false (by omega)
        simp only [lineOk4, lineOk5, lineOk6, lineOk7, lineOk8, lineOk9, lineOk10, lineOk11, lineOk12, lineOk13, lineOk14, lineOk15, lineOk16, lineOk17, lineOk18, lineOk19, lineOk20, lineOk21, lineOk22, lineOk23, lineOk24, lineOk25, lineOk26, lineOk27, lineOk28, lineOk29, lineOk30, lineOk31, lineOk32, lineOk33, lineOk34, lineOk35, lineOk36, lineOk37, lineOk38, lineOk39, lineOk40, nc0, nc1, nc2, nc3, nc4, lineOk0, lineOk1, lineOk2, lineOk3, Nat.reduceAdd, Nat.reduceSub, Int.reduceLT, Int.reduceLE, Int.reduceBEq, Int.reduceEq, Int.reduceAdd, Int.reduceSub, Int.reduceNeg, atI_0, atI_1, atI_2, atI_3, cut_1, cut_to1, eq_self, Option.bind_some, rb_ok, rb_exc, rb_bad, ro_ok, ro_exc, ro_bad, sq_nx, sq_rt, sq_bk, sq_ct, q_vgo1, q_vgo2, q_vgo3, q_pfin1, q_pfin2, q_pgo1, q_pgo2, q_cellD1, q_cellD2, q_cons21, q_cons22, q_cons23, q_tfin1, q_tfin2, q_tgo1, q_tgo2, q_isCell1, q_isCell2, q_appGo1, q_appGo2, q_extGo1, q_extGo2, q_popFin1, q_popFin2, q_popGo1, q_popGo2, q_newGo1, q_newGo2, q_setFin1, q_setFin2, q_setGo1, q_setGo2, q_chn1, q_chn2, q_compGo1, q_compGo2, q_ckGo1, q_ckGo2, e_var, e_glob, e_lit, e_pr, e_new, e_act0, e_act1, e_and, e_or, e_not, e_ite, e_chain, e_call, e_callk, e_comp, es_nil, es_cons, an_one, an_more, or_one, or_more, e_T, prim_eq, argsD, holds, deref_d, deref_loc, derefs_nil, derefs_cons, dsOf_nil, dsOf_cons, tru_eq, q_truD1, q_truD2, q_truD3, q_truD4, q_truD5, q_truD6, q_truD7, isLst_loc, do_app, do_ext, do_pop, new_eq, set_eq, p_tup, p_lst, p_add, p_sub, p_mul, p_fdiv, p_mod, p_pow, p_lt, p_le, p_gt, p_ge, p_max, p_min, p_eq, p_ne, p_in, p_nin, p_ix, p_slTo, p_slFrom, p_slB, p_neg, p_len, p_int, p_sum, p_all, p_tupL, p_tupT, p_lstL, p_lstT, p_isi, p_isN, p_notN, isin_ch, isin_tup, isin_list, isTy, q_addD1, q_addD2, q_addD3, q_addD4, q_ixD1, q_ixD2, q_ixD3, q_slD1, q_slD2, q_lenD1, q_lenD2, q_lenD3, q_ugo1, q_ugo2, q_sgo1, q_sgo2, q_agoF1, q_agoF2, q_ago1, q_ago2, q_ago3, aug_add, aug_sub, q_fgo1, q_fgo2, s_asg', s_unp', s_par', s_par3', s_setix', s_aug', s_ex', s_ite', s_for', s_while', s_ret', ss_nil', ss_cons', asg_one, asg_many, setMany, pk_d, fin_rt, fin_nx, fin_ex, nx_ok, pick_nil, pick_cons, startR, get_top, set_top, take_top, take_own, take_fd, take_fd2, stq_get, stq_set, stq_len, stq_app, stq_top, stq_take, stq_take2, eqOk_str, eqv_str, eqOk_int, eqv_int, eqOk_bool, eqv_bool, it_seq, it_r1, it_r2, it_el, it_et, it_zip, it_rev, q_seqD1, q_seqD2, q_seqD3, List.map_cons, List.map_nil, List.length_cons, List.length_nil, List.replicate_succ, List.replicate_zero, List.append_nil, List.nil_append, List.cons_append, List.getElem?_cons_zero, List.getElem?_cons_succ, List.getElem?_nil, List.set_cons_zero, List.set_cons_succ, Option.map_some, Option.map_none, if_true, if_false, ite_true, ite_false, reduceIte, Bool.not_true, Bool.not_false, Bool.false_eq_true, decide_true, decide_false, Bool.and_true, Bool.true_and, Bool.and_false, Bool.false_and, b1, isWord, wordOk, h, h0, q, d1, h4, hl]
  | _ => simp only [lineOk4, lineOk5, lineOk6, lineOk7, lineOk8, lineOk9, lineOk10, lineOk11, lineOk12, lineOk13, lineOk14, lineOk15, lineOk16, lineOk17, lineOk18, lineOk19, lineOk20, lineOk21, lineOk22, lineOk23, lineOk24, lineOk25, lineOk26, lineOk27, lineOk28, lineOk29, lineOk30, lineOk31, lineOk32, lineOk33, lineOk34, lineOk35, lineOk36, lineOk37, lineOk38, lineOk39, lineOk40, nc0, nc1, nc2, nc3, nc4, lineOk0, lineOk1, lineOk2, lineOk3, Nat.reduceAdd, Nat.reduceSub, Int.reduceLT, Int.reduceLE, Int.reduceBEq, Int.reduceEq, Int.reduceAdd, Int.reduceSub, Int.reduceNeg, atI_0, atI_1, atI_2, atI_3, cut_1, cut_to1, eq_self, Option.bind_some, rb_ok, rb_exc, rb_bad, ro_ok, ro_exc, ro_bad, sq_nx, sq_rt, sq_bk, sq_ct, q_vgo1, q_vgo2, q_vgo3, q_pfin1, q_pfin2, q_pgo1, q_pgo2, q_cellD1, q_cellD2, q_cons21, q_cons22, q_cons23, q_tfin1, q_tfin2, q_tgo1, q_tgo2, q_isCell1, q_isCell2, q_appGo1, q_appGo2, q_extGo1, q_extGo2, q_popFin1, q_popFin2, q_popGo1, q_popGo2, q_newGo1, q_newGo2, q_setFin1, q_setFin2, q_setGo1, q_setGo2, q_chn1, q_chn2, q_compGo1, q_compGo2, q_ckGo1, q_ckGo2, e_var, e_glob, e_lit, e_pr, e_new, e_act0, e_act1, e_and, e_or, e_not, e_ite, e_chain, e_call, e_callk, e_comp, es_nil, es_cons, an_one, an_more, or_one, or_more, e_T, prim_eq, argsD, holds, deref_d, deref_loc, derefs_nil, derefs_cons, dsOf_nil, dsOf_cons, tru_eq, q_truD1, q_truD2, q_truD3, q_truD4, q_truD5, q_truD6, q_truD7, isLst_loc, do_app, do_ext, do_pop, new_eq, set_eq, p_tup, p_lst, p_add, p_sub, p_mul, p_fdiv, p_mod, p_pow, p_lt, p_le, p_gt, p_ge, p_max, p_min, p_eq, p_ne, p_in, p_nin, p_ix, p_slTo, p_slFrom, p_slB, p_neg, p_len, p_int, p_sum, p_all, p_tupL, p_tupT, p_lstL, p_lstT, p_isi, p_isN, p_notN, isin_ch, isin_tup, isin_list, isTy, q_addD1, q_addD2, q_addD3, q_addD4, q_ixD1, q_ixD2, q_ixD3, q_slD1, q_slD2, q_lenD1, q_lenD2, q_lenD3, q_ugo1, q_ugo2, q_sgo1, q_sgo2, q_agoF1, q_agoF2, q_ago1, q_ago2, q_ago3, aug_add, aug_sub, q_fgo1, q_fgo2, s_asg', s_unp', s_par', s_par3', s_setix', s_aug', s_ex', s_ite', s_for', s_while', s_ret', ss_nil', ss_cons', asg_one, asg_many, setMany, pk_d, fin_rt, fin_nx, fin_ex, nx_ok, pick_nil, pick_cons, startR, get_top, set_top, take_top, take_own, take_fd, take_fd2, stq_get, stq_set, stq_len, stq_app, stq_top, stq_take, stq_take2, eqOk_str, eqv_str, eqOk_int, eqv_int, eqOk_bool, eqv_bool, it_seq, it_r1, it_r2, it_el, it_et, it_zip, it_rev, q_seqD1, q_seqD2, q_seqD3, List.map_cons, List.map_nil, List.length_cons, List.length_nil, List.replicate_succ, List.replicate_zero, List.append_nil, List.nil_append, List.cons_append, List.getElem?_cons_zero, List.getElem?_cons_succ, List.getElem?_nil, List.set_cons_zero, List.set_cons_succ, Option.map_some, Option.map_none, if_true, if_false, ite_true, ite_false, reduceIte, Bool.not_true, Bool.not_false, Bool.false_eq_true, decide_true, decide_false, Bool.and_true, Bool.true_and, Bool.and_false, Bool.false_and, b1, isWord]
def nodeFit : PyData → Bool
  | .tuple (.str w :: y :: _) => PyData.strOk w && strFit y
  | _ => true
def rawNode : PyData → Bool
  | .tuple (.str w :: y :: r) => if w == Str.ofString "var" then r.isEmpty && isInt y 0 999 else if w == Str.ofString "con" then r.isEmpty && isWord y else if w == Str.ofString "lam" then r.isEmpty else (w == Str.ofString "app") && decide (r.length = 1)
  | _ => false
def kindNode : PyData → Bool
  | .tuple (.str w :: y :: r) => if w == Str.ofString "base" then r.isEmpty && isWord y else (w == Str.ofString "arrow") && decide (r.length = 1)
  | _ => false
def looseNode (x : PyData) : Bool := kindNode x || match x with
  | .tuple (.str w :: y :: r) => (w == Str.ofString "any") && (r.isEmpty && isInt y 0 999)
  | _ => false
theorem len4 (r : List PyData) : decide (((r.length + 1 + 1 + 1 + 1 : Nat) : Int) < 2) = false := decide_eq_false (by omega)
theorem len42 (r : List PyData) : (((r.length + 1 + 1 + 1 + 1 : Nat) : Int) == 2) = false := beq_eq_false_iff_ne.mpr (by omega)
theorem len43 (r : List PyData) : (((r.length + 1 + 1 + 1 + 1 : Nat) : Int) == 3) = false := beq_eq_false_iff_ne.mpr (by omega)
theorem len41 (r : List PyData) : decide (r.length + 1 + 1 = 1) = false := decide_eq_false (by omega)
theorem d01 : decide ((0 : Nat) = 1) = false := rfl
theorem d11 : decide ((1 : Nat) = 1) = true := rfl
theorem c_rawnode (n : Nat) (x : PyData) (st : Sto) (h : nodeFit x = true) : callF FT (n + 2) 4 [.d x] st = .ok (.d (.bool (rawNode x))) st := by
  rw [cf ft4]
  cases x with
  | tuple xs =>
    rcases xs with _ | ⟨a, _ | ⟨y, r⟩⟩
    · simp only [lineOk4, lineOk5, lineOk6, lineOk7, lineOk8, lineOk9, lineOk10, lineOk11, lineOk12, lineOk13, lineOk14, lineOk15, lineOk16, lineOk17, lineOk18, lineOk19, lineOk20, lineOk21, lineOk22, lineOk23, lineOk24, lineOk25, lineOk26, lineOk27, lineOk28, lineOk29, lineOk30, lineOk31, lineOk32, lineOk33, lineOk34, lineOk35, lineOk36, lineOk37, lineOk38, lineOk39, lineOk40, nc0, nc1, nc2, nc3, nc4, lineOk0, lineOk1, lineOk2, lineOk3, Nat.reduceAdd, Nat.reduceSub, Int.reduceLT, Int.reduceLE, Int.reduceBEq, Int.reduceEq, Int.reduceAdd, Int.reduceSub, Int.reduceNeg, atI_0, atI_1, atI_2, atI_3, cut_1, cut_to1, eq_self, Option.bind_some, rb_ok, rb_exc, rb_bad, ro_ok, ro_exc, ro_bad, sq_nx, sq_rt, sq_bk, sq_ct, q_vgo1, q_vgo2, q_vgo3, q_pfin1, q_pfin2, q_pgo1, q_pgo2, q_cellD1, q_cellD2, q_cons21, q_cons22, q_cons23, q_tfin1, q_tfin2, q_tgo1, q_tgo2, q_isCell1, q_isCell2, q_appGo1, q_appGo2, q_extGo1, q_extGo2, q_popFin1, q_popFin2, q_popGo1, q_popGo2, q_newGo1, q_newGo2, q_setFin1, q_setFin2, q_setGo1, q_setGo2, q_chn1, q_chn2, q_compGo1, q_compGo2, q_ckGo1, q_ckGo2, e_var, e_glob, e_lit, e_pr, e_new, e_act0, e_act1, e_and, e_or, e_not, e_ite, e_chain, e_call, e_callk, e_comp, es_nil, es_cons, an_one, an_more, or_one, or_more, e_T, prim_eq, argsD, holds, deref_d, deref_loc, derefs_nil, derefs_cons, dsOf_nil, dsOf_cons, tru_eq, q_truD1, q_truD2, q_truD3, q_truD4, q_truD5, q_truD6, q_truD7, isLst_loc, do_app, do_ext, do_pop, new_eq, set_eq, p_tup, p_lst, p_add, p_sub, p_mul, p_fdiv, p_mod, p_pow, p_lt, p_le, p_gt, p_ge, p_max, p_min, p_eq, p_ne, p_in, p_nin, p_ix, p_slTo, p_slFrom, p_slB, p_neg, p_len, p_int, p_sum, p_all, p_tupL, p_tupT, p_lstL, p_lstT, p_isi, p_isN, p_notN, isin_ch, isin_tup, isin_list, isTy, q_addD1, q_addD2, q_addD3, q_addD4, q_ixD1, q_ixD2, q_ixD3, q_slD1, q_slD2, q_lenD1, q_lenD2, q_lenD3, q_ugo1, q_ugo2, q_sgo1, q_sgo2, q_agoF1, q_agoF2, q_ago1, q_ago2, q_ago3, aug_add, aug_sub, q_fgo1, q_fgo2, s_asg', s_unp', s_par', s_par3', s_setix', s_aug', s_ex', s_ite', s_for', s_while', s_ret', ss_nil', ss_cons', asg_one, asg_many, setMany, pk_d, fin_rt, fin_nx, fin_ex, nx_ok, pick_nil, pick_cons, startR, get_top, set_top, take_top, take_own, take_fd, take_fd2, stq_get, stq_set, stq_len, stq_app, stq_top, stq_take, stq_take2, eqOk_str, eqv_str, eqOk_int, eqv_int, eqOk_bool, eqv_bool, it_seq, it_r1, it_r2, it_el, it_et, it_zip, it_rev, q_seqD1, q_seqD2, q_seqD3, List.map_cons, List.map_nil, List.length_cons, List.length_nil, List.replicate_succ, List.replicate_zero, List.append_nil, List.nil_append, List.cons_append, List.getElem?_cons_zero, List.getElem?_cons_succ, List.getElem?_nil, List.set_cons_zero, List.set_cons_succ, Option.map_some, Option.map_none, if_true, if_false, ite_true, ite_false, reduceIte, Bool.not_true, Bool.not_false, Bool.false_eq_true, decide_true, decide_false, Bool.and_true, Bool.true_and, Bool.and_false, Bool.false_and, b4, rawNode]
    · simp only [lineOk4, lineOk5, lineOk6, lineOk7, lineOk8, lineOk9, lineOk10, lineOk11, lineOk12, lineOk13, lineOk14, lineOk15, lineOk16, lineOk17, lineOk18, lineOk19, lineOk20, lineOk21, lineOk22, lineOk23, lineOk24, lineOk25, lineOk26, lineOk27, lineOk28, lineOk29, lineOk30, lineOk31, lineOk32, lineOk33, lineOk34, lineOk35, lineOk36, lineOk37, lineOk38, lineOk39, lineOk40, nc0, nc1, nc2, nc3, nc4, lineOk0, lineOk1, lineOk2, lineOk3, Nat.reduceAdd, Nat.reduceSub, Int.reduceLT, Int.reduceLE, Int.reduceBEq, Int.reduceEq, Int.reduceAdd, Int.reduceSub, Int.reduceNeg, atI_0, atI_1, atI_2, atI_3, cut_1, cut_to1, eq_self, Option.bind_some, rb_ok, rb_exc, rb_bad, ro_ok, ro_exc, ro_bad, sq_nx, sq_rt, sq_bk, sq_ct, q_vgo1, q_vgo2, q_vgo3, q_pfin1, q_pfin2, q_pgo1, q_pgo2, q_cellD1, q_cellD2, q_cons21, q_cons22, q_cons23, q_tfin1, q_tfin2, q_tgo1, q_tgo2, q_isCell1, q_isCell2, q_appGo1, q_appGo2, q_extGo1, q_extGo2, q_popFin1, q_popFin2, q_popGo1, q_popGo2, q_newGo1, q_newGo2, q_setFin1, q_setFin2, q_setGo1, q_setGo2, q_chn1, q_chn2, q_compGo1, q_compGo2, q_ckGo1, q_ckGo2, e_var, e_glob, e_lit, e_pr, e_new, e_act0, e_act1, e_and, e_or, e_not, e_ite, e_chain, e_call, e_callk, e_comp, es_nil, es_cons, an_one, an_more, or_one, or_more, e_T, prim_eq, argsD, holds, deref_d, deref_loc, derefs_nil, derefs_cons, dsOf_nil, dsOf_cons, tru_eq, q_truD1, q_truD2, q_truD3, q_truD4, q_truD5, q_truD6, q_truD7, isLst_loc, do_app, do_ext, do_pop, new_eq, set_eq, p_tup, p_lst, p_add, p_sub, p_mul, p_fdiv, p_mod, p_pow, p_lt, p_le, p_gt, p_ge, p_max, p_min, p_eq, p_ne, p_in, p_nin, p_ix, p_slTo, p_slFrom, p_slB, p_neg, p_len, p_int, p_sum, p_all, p_tupL, p_tupT, p_lstL, p_lstT, p_isi, p_isN, p_notN, isin_ch, isin_tup, isin_list, isTy, q_addD1, q_addD2, q_addD3, q_addD4, q_ixD1, q_ixD2, q_ixD3, q_slD1, q_slD2, q_lenD1, q_lenD2, q_lenD3, q_ugo1, q_ugo2, q_sgo1, q_sgo2, q_agoF1, q_agoF2, q_ago1, q_ago2, q_ago3, aug_add, aug_sub, q_fgo1, q_fgo2, s_asg', s_unp', s_par', s_par3', s_setix', s_aug', s_ex', s_ite', s_for', s_while', s_ret', ss_nil', ss_cons', asg_one, asg_many, setMany, pk_d, fin_rt, fin_nx, fin_ex, nx_ok, pick_nil, pick_cons, startR, get_top, set_top, take_top, take_own, take_fd, take_fd2, stq_get, stq_set, stq_len, stq_app, stq_top, stq_take, stq_take2, eqOk_str, eqv_str, eqOk_int, eqv_int, eqOk_bool, eqv_bool, it_seq, it_r1, it_r2, it_el, it_et, it_zip, it_rev, q_seqD1, q_seqD2, q_seqD3, List.map_cons, List.map_nil, List.length_cons, List.length_nil, List.replicate_succ, List.replicate_zero, List.append_nil, List.nil_append, List.cons_append, List.getElem?_cons_zero, List.getElem?_cons_succ, List.getElem?_nil, List.set_cons_zero, List.set_cons_succ, Option.map_some, Option.map_none, if_true, if_false, ite_true, ite_false, reduceIte, Bool.not_true, Bool.not_false, Bool.false_eq_true, decide_true, decide_false, Bool.and_true, Bool.true_and, Bool.and_false, Bool.false_and, b4, rawNode]
    · cases a with
      | str w =>
        have hh : (PyData.strOk w && strFit y) = true := h
        rw [Bool.and_eq_true] at hh
        obtain ⟨h1, h2⟩ := hh
        clear h
        rcases r with _ | ⟨z, _ | ⟨z2, r⟩⟩
        · cases k1 : w == Str.ofString "var" <;> cases k2 : w == Str.ofString "con" <;> cases k3 : w == Str.ofString "lam" <;> cases k4 : w == Str.ofString "app" <;>
            simp only [lineOk4, lineOk5, lineOk6, lineOk7, lineOk8, lineOk9, lineOk10, lineOk11, lineOk12, lineOk13, lineOk14, lineOk15, lineOk16, lineOk17, lineOk18, lineOk19, lineOk20, lineOk21, lineOk22, lineOk23, lineOk24, lineOk25, lineOk26, lineOk27, lineOk28, lineOk29, lineOk30, lineOk31, lineOk32, lineOk33, lineOk34, lineOk35, lineOk36, lineOk37, lineOk38, lineOk39, lineOk40, nc0, nc1, nc2, nc3, nc4, lineOk0, lineOk1, lineOk2, lineOk3, Nat.reduceAdd, Nat.reduceSub, Int.reduceLT, Int.reduceLE, Int.reduceBEq, Int.reduceEq, Int.reduceAdd, Int.reduceSub, Int.reduceNeg, atI_0, atI_1, atI_2, atI_3, cut_1, cut_to1, eq_self, Option.bind_some, rb_ok, rb_exc, rb_bad, ro_ok, ro_exc, ro_bad, sq_nx, sq_rt, sq_bk, sq_ct, q_vgo1, q_vgo2, q_vgo3, q_pfin1, q_pfin2, q_pgo1, q_pgo2, q_cellD1, q_cellD2, q_cons21, q_cons22, q_cons23, q_tfin1, q_tfin2, q_tgo1, q_tgo2, q_isCell1, q_isCell2, q_appGo1, q_appGo2, q_extGo1, q_extGo2, q_popFin1, q_popFin2, q_popGo1, q_popGo2, q_newGo1, q_newGo2, q_setFin1, q_setFin2, q_setGo1, q_setGo2, q_chn1, q_chn2, q_compGo1, q_compGo2, q_ckGo1, q_ckGo2, e_var, e_glob, e_lit, e_pr, e_new, e_act0, e_act1, e_and, e_or, e_not, e_ite, e_chain, e_call, e_callk, e_comp, es_nil, es_cons, an_one, an_more, or_one, or_more, e_T, prim_eq, argsD, holds, deref_d, deref_loc, derefs_nil, derefs_cons, dsOf_nil, dsOf_cons, tru_eq, q_truD1, q_truD2, q_truD3, q_truD4, q_truD5, q_truD6, q_truD7, isLst_loc, do_app, do_ext, do_pop, new_eq, set_eq, p_tup, p_lst, p_add, p_sub, p_mul, p_fdiv, p_mod, p_pow, p_lt, p_le, p_gt, p_ge, p_max, p_min, p_eq, p_ne, p_in, p_nin, p_ix, p_slTo, p_slFrom, p_slB, p_neg, p_len, p_int, p_sum, p_all, p_tupL, p_tupT, p_lstL, p_lstT, p_isi, p_isN, p_notN, isin_ch, isin_tup, isin_list, isTy, q_addD1, q_addD2, q_addD3, q_addD4, q_ixD1, q_ixD2, q_ixD3, q_slD1, q_slD2, q_lenD1, q_lenD2, q_lenD3, q_ugo1, q_ugo2, q_sgo1, q_sgo2, q_agoF1, q_agoF2, q_ago1, q_ago2, q_ago3, aug_add, aug_sub, q_fgo1, q_fgo2, s_asg', s_unp', s_par', s_par3', s_setix', s_aug', s_ex', s_ite', s_for', s_while', s_ret', ss_nil', ss_cons', asg_one, asg_many, setMany, pk_d, fin_rt, fin_nx, fin_ex, nx_ok, pick_nil, pick_cons, startR, get_top, set_top, take_top, take_own, take_fd, take_fd2, stq_get, stq_set, stq_len, stq_app, stq_top, stq_take, stq_take2, eqOk_str, eqv_str, eqOk_int, eqv_int, eqOk_bool, eqv_bool, it_seq, it_r1, it_r2, it_el, it_et, it_zip, it_rev, q_seqD1, q_seqD2, q_seqD3, List.map_cons, List.map_nil, List.length_cons, List.length_nil, List.replicate_succ, List.replicate_zero, List.append_nil, List.nil_append, List.cons_append, List.getElem?_cons_zero, List.getElem?_cons_succ, List.getElem?_nil, List.set_cons_zero, List.set_cons_succ, Option.map_some, Option.map_none, if_true, if_false, ite_true, ite_false, reduceIte, Bool.not_true, Bool.not_false, Bool.false_eq_true, decide_true, decide_false, Bool.and_true, Bool.true_and, Bool.and_false, Bool.false_and, b4, rawNode, so_var, so_con, so_lam, so_app, h1, k1, k2, k3, k4, c_int, c_word n y st h2, List.isEmpty_nil, d01]
        · cases k1 : w == Str.ofString "var" <;> cases k2 : w == Str.ofString "con" <;> cases k3 : w == Str.ofString "lam" <;> cases k4 : w == Str.ofString "app" <;>
            simp only [lineOk4, lineOk5, lineOk6, lineOk7, lineOk8, lineOk9, lineOk10, lineOk11, lineOk12, lineOk13, lineOk14, lineOk15, lineOk16, lineOk17, lineOk18, lineOk19, lineOk20, lineOk21, lineOk22, lineOk23, lineOk24, lineOk25, lineOk26, lineOk27, lineOk28, lineOk29, lineOk30, lineOk31, lineOk32, lineOk33, lineOk34, lineOk35, lineOk36, lineOk37, lineOk38, lineOk39, lineOk40, nc0, nc1, nc2, nc3, nc4, lineOk0, lineOk1, lineOk2, lineOk3, Nat.reduceAdd, Nat.reduceSub, Int.reduceLT, Int.reduceLE, Int.reduceBEq, Int.reduceEq, Int.reduceAdd, Int.reduceSub, Int.reduceNeg, atI_0, atI_1, atI_2, atI_3, cut_1, cut_to1, eq_self, Option.bind_some, rb_ok, rb_exc, rb_bad, ro_ok, ro_exc, ro_bad, sq_nx, sq_rt, sq_bk, sq_ct, q_vgo1, q_vgo2, q_vgo3, q_pfin1, q_pfin2, q_pgo1, q_pgo2, q_cellD1, q_cellD2, q_cons21, q_cons22, q_cons23, q_tfin1, q_tfin2, q_tgo1, q_tgo2, q_isCell1, q_isCell2, q_appGo1, q_appGo2, q_extGo1, q_extGo2, q_popFin1, q_popFin2, q_popGo1, q_popGo2, q_newGo1, q_newGo2, q_setFin1, q_setFin2, q_setGo1, q_setGo2, q_chn1, q_chn2, q_compGo1, q_compGo2, q_ckGo1, q_ckGo2, e_var, e_glob, e_lit, e_pr, e_new, e_act0, e_act1, e_and, e_or, e_not, e_ite, e_chain, e_call, e_callk, e_comp, es_nil, es_cons, an_one, an_more, or_one, or_more, e_T, prim_eq, argsD, holds, deref_d, deref_loc, derefs_nil, derefs_cons, dsOf_nil, dsOf_cons, tru_eq, q_truD1, q_truD2, q_truD3, q_truD4, q_truD5, q_truD6, q_truD7, isLst_loc, do_app, do_ext, do_pop, new_eq, set_eq, p_tup, p_lst, p_add, p_sub, p_mul, p_fdiv, p_mod, p_pow, p_lt, p_le, p_gt, p_ge, p_max, p_min, p_eq, p_ne, p_in, p_nin, p_ix, p_slTo, p_slFrom, p_slB, p_neg, p_len, p_int, p_sum, p_all, p_tupL, p_tupT, p_lstL, p_lstT, p_isi, p_isN, p_notN, isin_ch, isin_tup, isin_list, isTy, q_addD1, q_addD2, q_addD3, q_addD4, q_ixD1, q_ixD2, q_ixD3, q_slD1, q_slD2, q_lenD1, q_lenD2, q_lenD3, q_ugo1, q_ugo2, q_sgo1, q_sgo2, q_agoF1, q_agoF2, q_ago1, q_ago2, q_ago3, aug_add, aug_sub, q_fgo1, q_fgo2, s_asg', s_unp', s_par', s_par3', s_setix', s_aug', s_ex', s_ite', s_for', s_while', s_ret', ss_nil', ss_cons', asg_one, asg_many, setMany, pk_d, fin_rt, fin_nx, fin_ex, nx_ok, pick_nil, pick_cons, startR, get_top, set_top, take_top, take_own, take_fd, take_fd2, stq_get, stq_set, stq_len, stq_app, stq_top, stq_take, stq_take2, eqOk_str, eqv_str, eqOk_int, eqv_int, eqOk_bool, eqv_bool, it_seq, it_r1, it_r2, it_el, it_et, it_zip, it_rev, q_seqD1, q_seqD2, q_seqD3, List.map_cons, List.map_nil, List.length_cons, List.length_nil, List.replicate_succ, List.replicate_zero, List.append_nil, List.nil_append, List.cons_append, List.getElem?_cons_zero, List.getElem?_cons_succ, List.getElem?_nil, List.set_cons_zero, List.set_cons_succ, Option.map_some, Option.map_none, if_true, if_false, ite_true, ite_false, reduceIte, Bool.not_true, Bool.not_false, Bool.false_eq_true, decide_true, decide_false, Bool.and_true, Bool.true_and, Bool.and_false, Bool.false_and, b4, rawNode, so_var, so_con, so_lam, so_app, h1, k1, k2, k3, k4, List.isEmpty_cons, d11]
        · cases k1 : w == Str.ofString "var" <;> cases k2 : w == Str.ofString "con" <;> cases k3 : w == Str.ofString "lam" <;> cases k4 : w == Str.ofString "app" <;>
            simp only [lineOk4, lineOk5, lineOk6, lineOk7, lineOk8, lineOk9, lineOk10, lineOk11, lineOk12, lineOk13, lineOk14, lineOk15, lineOk16, lineOk17, lineOk18, lineOk19, lineOk20, lineOk21, lineOk22, lineOk23, lineOk24, lineOk25, lineOk26, lineOk27, lineOk28, lineOk29, lineOk30, lineOk31, lineOk32, lineOk33, lineOk34, lineOk35, lineOk36, lineOk37, lineOk38, lineOk39, lineOk40, nc0, nc1, nc2, nc3, nc4, lineOk0, lineOk1, lineOk2, lineOk3, Nat.reduceAdd, Nat.reduceSub, Int.reduceLT, Int.reduceLE, Int.reduceBEq, Int.reduceEq, Int.reduceAdd, Int.reduceSub, Int.reduceNeg, atI_0, atI_1, atI_2, atI_3, cut_1, cut_to1, eq_self, Option.bind_some, rb_ok, rb_exc, rb_bad, ro_ok, ro_exc, ro_bad, sq_nx, sq_rt, sq_bk, sq_ct, q_vgo1, q_vgo2, q_vgo3, q_pfin1, q_pfin2, q_pgo1, q_pgo2, q_cellD1, q_cellD2, q_cons21, q_cons22, q_cons23, q_tfin1, q_tfin2, q_tgo1, q_tgo2, q_isCell1, q_isCell2, q_appGo1, q_appGo2, q_extGo1, q_extGo2, q_popFin1, q_popFin2, q_popGo1, q_popGo2, q_newGo1, q_newGo2, q_setFin1, q_setFin2, q_setGo1, q_setGo2, q_chn1, q_chn2, q_compGo1, q_compGo2, q_ckGo1, q_ckGo2, e_var, e_glob, e_lit, e_pr, e_new, e_act0, e_act1, e_and, e_or, e_not, e_ite, e_chain, e_call, e_callk, e_comp, es_nil, es_cons, an_one, an_more, or_one, or_more, e_T, prim_eq, argsD, holds, deref_d, deref_loc, derefs_nil, derefs_cons, dsOf_nil, dsOf_cons, tru_eq, q_truD1, q_truD2, q_truD3, q_truD4, q_truD5, q_truD6, q_truD7, isLst_loc, do_app, do_ext, do_pop, new_eq, set_eq, p_tup, p_lst, p_add, p_sub, p_mul, p_fdiv, p_mod, p_pow, p_lt, p_le, p_gt, p_ge, p_max, p_min, p_eq, p_ne, p_in, p_nin, p_ix, p_slTo, p_slFrom, p_slB, p_neg, p_len, p_int, p_sum, p_all, p_tupL, p_tupT, p_lstL, p_lstT, p_isi, p_isN, p_notN, isin_ch, isin_tup, isin_list, isTy, q_addD1, q_addD2, q_addD3, q_addD4, q_ixD1, q_ixD2, q_ixD3, q_slD1, q_slD2, q_lenD1, q_lenD2, q_lenD3, q_ugo1, q_ugo2, q_sgo1, q_sgo2, q_agoF1, q_agoF2, q_ago1, q_ago2, q_ago3, aug_add, aug_sub, q_fgo1, q_fgo2, s_asg', s_unp', s_par', s_par3', s_setix', s_aug', s_ex', s_ite', s_for', s_while', s_ret', ss_nil', ss_cons', asg_one, asg_many, setMany, pk_d, fin_rt, fin_nx, fin_ex, nx_ok, pick_nil, pick_cons, startR, get_top, set_top, take_top, take_own, take_fd, take_fd2, stq_get, stq_set, stq_len, stq_app, stq_top, stq_take, stq_take2, eqOk_str, eqv_str, eqOk_int, eqv_int, eqOk_bool, eqv_bool, it_seq, it_r1, it_r2, it_el, it_et, it_zip, it_rev, q_seqD1, q_seqD2, q_seqD3, List.map_cons, List.map_nil, List.length_cons, List.length_nil, List.replicate_succ, List.replicate_zero, List.append_nil, List.nil_append, List.cons_append, List.getElem?_cons_zero, List.getElem?_cons_succ, List.getElem?_nil, List.set_cons_zero, List.set_cons_succ, Option.map_some, Option.map_none, if_true, if_false, ite_true, ite_false, reduceIte, Bool.not_true, Bool.not_false, Bool.false_eq_true, decide_true, decide_false, Bool.and_true, Bool.true_and, Bool.and_false, Bool.false_and, b4, rawNode, so_var, so_con, so_lam, so_app, h1, k1, k2, k3, k4, List.isEmpty_cons, len4, len42, len43, len41]
      | _ =>
        rcases r with _ | ⟨z, _ | ⟨z2, r⟩⟩ <;> simp only [lineOk4, lineOk5, lineOk6, lineOk7, lineOk8, lineOk9, lineOk10, lineOk11, lineOk12, lineOk13, lineOk14, lineOk15, lineOk16, lineOk17, lineOk18, lineOk19, lineOk20, lineOk21, lineOk22, lineOk23, lineOk24, lineOk25, lineOk26, lineOk27, lineOk28, lineOk29, lineOk30, lineOk31, lineOk32, lineOk33, lineOk34, lineOk35, lineOk36, lineOk37, lineOk38, lineOk39, lineOk40, nc0, nc1, nc2, nc3, nc4, lineOk0, lineOk1, lineOk2, lineOk3, Nat.reduceAdd, Nat.reduceSub, Int.reduceLT, Int.reduceLE, Int.reduceBEq, Int.reduceEq, Int.reduceAdd, Int.reduceSub, Int.reduceNeg, atI_0, atI_1, atI_2, atI_3, cut_1, cut_to1, eq_self, Option.bind_some, rb_ok, rb_exc, rb_bad, ro_ok, ro_exc, ro_bad, sq_nx, sq_rt, sq_bk, sq_ct, q_vgo1, q_vgo2, q_vgo3, q_pfin1, q_pfin2, q_pgo1, q_pgo2, q_cellD1, q_cellD2, q_cons21, q_cons22, q_cons23, q_tfin1, q_tfin2, q_tgo1, q_tgo2, q_isCell1, q_isCell2, q_appGo1, q_appGo2, q_extGo1, q_extGo2, q_popFin1, q_popFin2, q_popGo1, q_popGo2, q_newGo1, q_newGo2, q_setFin1, q_setFin2, q_setGo1, q_setGo2, q_chn1, q_chn2, q_compGo1, q_compGo2, q_ckGo1, q_ckGo2, e_var, e_glob, e_lit, e_pr, e_new, e_act0, e_act1, e_and, e_or, e_not, e_ite, e_chain, e_call, e_callk, e_comp, es_nil, es_cons, an_one, an_more, or_one, or_more, e_T, prim_eq, argsD, holds, deref_d, deref_loc, derefs_nil, derefs_cons, dsOf_nil, dsOf_cons, tru_eq, q_truD1, q_truD2, q_truD3, q_truD4, q_truD5, q_truD6, q_truD7, isLst_loc, do_app, do_ext, do_pop, new_eq, set_eq, p_tup, p_lst, p_add, p_sub, p_mul, p_fdiv, p_mod, p_pow, p_lt, p_le, p_gt, p_ge, p_max, p_min, p_eq, p_ne, p_in, p_nin, p_ix, p_slTo, p_slFrom, p_slB, p_neg, p_len, p_int, p_sum, p_all, p_tupL, p_tupT, p_lstL, p_lstT, p_isi, p_isN, p_notN, isin_ch, isin_tup, isin_list, isTy, q_addD1, q_addD2, q_addD3, q_addD4, q_ixD1, q_ixD2, q_ixD3, q_slD1, q_slD2, q_lenD1, q_lenD2, q_lenD3, q_ugo1, q_ugo2, q_sgo1, q_sgo2, q_agoF1, q_agoF2, q_ago1, q_ago2, q_ago3, aug_add, aug_sub, q_fgo1, q_fgo2, s_asg', s_unp', s_par', s_par3', s_setix', s_aug', s_ex', s_ite', s_for', s_while', s_ret', ss_nil', ss_cons', asg_one, asg_many, setMany, pk_d, fin_rt, fin_nx, fin_ex, nx_ok, pick_nil, pick_cons, startR, get_top, set_top, take_top, take_own, take_fd, take_fd2, stq_get, stq_set, stq_len, stq_app, stq_top, stq_take, stq_take2, eqOk_str, eqv_str, eqOk_int, eqv_int, eqOk_bool, eqv_bool, it_seq, it_r1, it_r2, it_el, it_et, it_zip, it_rev, q_seqD1, q_seqD2, q_seqD3, List.map_cons, List.map_nil, List.length_cons, List.length_nil, List.replicate_succ, List.replicate_zero, List.append_nil, List.nil_append, List.cons_append, List.getElem?_cons_zero, List.getElem?_cons_succ, List.getElem?_nil, List.set_cons_zero, List.set_cons_succ, Option.map_some, Option.map_none, if_true, if_false, ite_true, ite_false, reduceIte, Bool.not_true, Bool.not_false, Bool.false_eq_true, decide_true, decide_false, Bool.and_true, Bool.true_and, Bool.and_false, Bool.false_and, b4, rawNode, len4]
  | _ => simp only [lineOk4, lineOk5, lineOk6, lineOk7, lineOk8, lineOk9, lineOk10, lineOk11, lineOk12, lineOk13, lineOk14, lineOk15, lineOk16, lineOk17, lineOk18, lineOk19, lineOk20, lineOk21, lineOk22, lineOk23, lineOk24, lineOk25, lineOk26, lineOk27, lineOk28, lineOk29, lineOk30, lineOk31, lineOk32, lineOk33, lineOk34, lineOk35, lineOk36, lineOk37, lineOk38, lineOk39, lineOk40, nc0, nc1, nc2, nc3, nc4, lineOk0, lineOk1, lineOk2, lineOk3, Nat.reduceAdd, Nat.reduceSub, Int.reduceLT, Int.reduceLE, Int.reduceBEq, Int.reduceEq, Int.reduceAdd, Int.reduceSub, Int.reduceNeg, atI_0, atI_1, atI_2, atI_3, cut_1, cut_to1, eq_self, Option.bind_some, rb_ok, rb_exc, rb_bad, ro_ok, ro_exc, ro_bad, sq_nx, sq_rt, sq_bk, sq_ct, q_vgo1, q_vgo2, q_vgo3, q_pfin1, q_pfin2, q_pgo1, q_pgo2, q_cellD1, q_cellD2, q_cons21, q_cons22, q_cons23, q_tfin1, q_tfin2, q_tgo1, q_tgo2, q_isCell1, q_isCell2, q_appGo1, q_appGo2, q_extGo1, q_extGo2, q_popFin1, q_popFin2, q_popGo1, q_popGo2, q_newGo1, q_newGo2, q_setFin1, q_setFin2, q_setGo1, q_setGo2, q_chn1, q_chn2, q_compGo1, q_compGo2, q_ckGo1, q_ckGo2, e_var, e_glob, e_lit, e_pr, e_new, e_act0, e_act1, e_and, e_or, e_not, e_ite, e_chain, e_call, e_callk, e_comp, es_nil, es_cons, an_one, an_more, or_one, or_more, e_T, prim_eq, argsD, holds, deref_d, deref_loc, derefs_nil, derefs_cons, dsOf_nil, dsOf_cons, tru_eq, q_truD1, q_truD2, q_truD3, q_truD4, q_truD5, q_truD6, q_truD7, isLst_loc, do_app, do_ext, do_pop, new_eq, set_eq, p_tup, p_lst, p_add, p_sub, p_mul, p_fdiv, p_mod, p_pow, p_lt, p_le, p_gt, p_ge, p_max, p_min, p_eq, p_ne, p_in, p_nin, p_ix, p_slTo, p_slFrom, p_slB, p_neg, p_len, p_int, p_sum, p_all, p_tupL, p_tupT, p_lstL, p_lstT, p_isi, p_isN, p_notN, isin_ch, isin_tup, isin_list, isTy, q_addD1, q_addD2, q_addD3, q_addD4, q_ixD1, q_ixD2, q_ixD3, q_slD1, q_slD2, q_lenD1, q_lenD2, q_lenD3, q_ugo1, q_ugo2, q_sgo1, q_sgo2, q_agoF1, q_agoF2, q_ago1, q_ago2, q_ago3, aug_add, aug_sub, q_fgo1, q_fgo2, s_asg', s_unp', s_par', s_par3', s_setix', s_aug', s_ex', s_ite', s_for', s_while', s_ret', ss_nil', ss_cons', asg_one, asg_many, setMany, pk_d, fin_rt, fin_nx, fin_ex, nx_ok, pick_nil, pick_cons, startR, get_top, set_top, take_top, take_own, take_fd, take_fd2, stq_get, stq_set, stq_len, stq_app, stq_top, stq_take, stq_take2, eqOk_str, eqv_str, eqOk_int, eqv_int, eqOk_bool, eqv_bool, it_seq, it_r1, it_r2, it_el, it_et, it_zip, it_rev, q_seqD1, q_seqD2, q_seqD3, List.map_cons, List.map_nil, List.length_cons, List.length_nil, List.replicate_succ, List.replicate_zero, List.append_nil, List.nil_append, List.cons_append, List.getElem?_cons_zero, List.getElem?_cons_succ, List.getElem?_nil, List.set_cons_zero, List.set_cons_succ, Option.map_some, Option.map_none, if_true, if_false, ite_true, ite_false, reduceIte, Bool.not_true, Bool.not_false, Bool.false_eq_true, decide_true, decide_false, Bool.and_true, Bool.true_and, Bool.and_false, Bool.false_and, b4, rawNode]
end K60

set_option Elab.async false
set_option linter.all false
set_option maxRecDepth 100000
set_option maxHeartbeats 4000000
namespace K60
open PySem PySem.Spec L2 Mp
theorem c_kindnode (n : Nat) (x : PyData) (st : Sto) (h : nodeFit x = true) : callF FT (n + 2) 2 [.d x] st = .ok (.d (.bool (kindNode x))) st := by
  rw [cf ft2]
  cases x with
  | tuple xs =>
    rcases xs with _ | ⟨a, _ | ⟨y, r⟩⟩
    · simp only [lineOk4, lineOk5, lineOk6, lineOk7, lineOk8, lineOk9, lineOk10, lineOk11, lineOk12, lineOk13, lineOk14, lineOk15, lineOk16, lineOk17, lineOk18, lineOk19, lineOk20, lineOk21, lineOk22, lineOk23, lineOk24, lineOk25, lineOk26, lineOk27, lineOk28, lineOk29, lineOk30, lineOk31, lineOk32, lineOk33, lineOk34, lineOk35, lineOk36, lineOk37, lineOk38, lineOk39, lineOk40, nc0, nc1, nc2, nc3, nc4, lineOk0, lineOk1, lineOk2, lineOk3, Nat.reduceAdd, Nat.reduceSub, Int.reduceLT, Int.reduceLE, Int.reduceBEq, Int.reduceEq, Int.reduceAdd, Int.reduceSub, Int.reduceNeg, atI_0, atI_1, atI_2, atI_3, cut_1, cut_to1, eq_self, Option.bind_some, rb_ok, rb_exc, rb_bad, ro_ok, ro_exc, ro_bad, sq_nx, sq_rt, sq_bk, sq_ct, q_vgo1, q_vgo2, q_vgo3, q_pfin1, q_pfin2, q_pgo1, q_pgo2, q_cellD1, q_cellD2, q_cons21, q_cons22, q_cons23, q_tfin1, q_tfin2, q_tgo1, q_tgo2, q_isCell1, q_isCell2, q_appGo1, q_appGo2, q_extGo1, q_extGo2, q_popFin1, q_popFin2, q_popGo1, q_popGo2, q_newGo1, q_newGo2, q_setFin1, q_setFin2, q_setGo1, q_setGo2, q_chn1, q_chn2, q_compGo1, q_compGo2, q_ckGo1, q_ckGo2, e_var, e_glob, e_lit, e_pr, e_new, e_act0, e_act1, e_and, e_or, e_not, e_ite, e_chain, e_call, e_callk, e_comp, es_nil, es_cons, an_one, an_more, or_one, or_more, e_T, prim_eq, argsD, holds, deref_d, deref_loc, derefs_nil, derefs_cons, dsOf_nil, dsOf_cons, tru_eq, q_truD1, q_truD2, q_truD3, q_truD4, q_truD5, q_truD6, q_truD7, isLst_loc, do_app, do_ext, do_pop, new_eq, set_eq, p_tup, p_lst, p_add, p_sub, p_mul, p_fdiv, p_mod, p_pow, p_lt, p_le, p_gt, p_ge, p_max, p_min, p_eq, p_ne, p_in, p_nin, p_ix, p_slTo, p_slFrom, p_slB, p_neg, p_len, p_int, p_sum, p_all, p_tupL, p_tupT, p_lstL, p_lstT, p_isi, p_isN, p_notN, isin_ch, isin_tup, isin_list, isTy, q_addD1, q_addD2, q_addD3, q_addD4, q_ixD1, q_ixD2, q_ixD3, q_slD1, q_slD2, q_lenD1, q_lenD2, q_lenD3, q_ugo1, q_ugo2, q_sgo1, q_sgo2, q_agoF1, q_agoF2, q_ago1, q_ago2, q_ago3, aug_add, aug_sub, q_fgo1, q_fgo2, s_asg', s_unp', s_par', s_par3', s_setix', s_aug', s_ex', s_ite', s_for', s_while', s_ret', ss_nil', ss_cons', asg_one, asg_many, setMany, pk_d, fin_rt, fin_nx, fin_ex, nx_ok, pick_nil, pick_cons, startR, get_top, set_top, take_top, take_own, take_fd, take_fd2, stq_get, stq_set, stq_len, stq_app, stq_top, stq_take, stq_take2, eqOk_str, eqv_str, eqOk_int, eqv_int, eqOk_bool, eqv_bool, it_seq, it_r1, it_r2, it_el, it_et, it_zip, it_rev, q_seqD1, q_seqD2, q_seqD3, List.map_cons, List.map_nil, List.length_cons, List.length_nil, List.replicate_succ, List.replicate_zero, List.append_nil, List.nil_append, List.cons_append, List.getElem?_cons_zero, List.getElem?_cons_succ, List.getElem?_nil, List.set_cons_zero, List.set_cons_succ, Option.map_some, Option.map_none, if_true, if_false, ite_true, ite_false, reduceIte, Bool.not_true, Bool.not_false, Bool.false_eq_true, decide_true, decide_false, Bool.and_true, Bool.true_and, Bool.and_false, Bool.false_and, b2, kindNode]
    · simp only [lineOk4, lineOk5, lineOk6, lineOk7, lineOk8, lineOk9, lineOk10, lineOk11, lineOk12, lineOk13, lineOk14, lineOk15, lineOk16, lineOk17, lineOk18, lineOk19, lineOk20, lineOk21, lineOk22, lineOk23, lineOk24, lineOk25, lineOk26, lineOk27, lineOk28, lineOk29, lineOk30, lineOk31, lineOk32, lineOk33, lineOk34, lineOk35, lineOk36, lineOk37, lineOk38, lineOk39, lineOk40, nc0, nc1, nc2, nc3, nc4, lineOk0, lineOk1, lineOk2, lineOk3, Nat.reduceAdd, Nat.reduceSub, Int.reduceLT, Int.reduceLE, Int.reduceBEq, Int.reduceEq, Int.reduceAdd, Int.reduceSub, Int.reduceNeg, atI_0, atI_1, atI_2, atI_3, cut_1, cut_to1, eq_self, Option.bind_some, rb_ok, rb_exc, rb_bad, ro_ok, ro_exc, ro_bad, sq_nx, sq_rt, sq_bk, sq_ct, q_vgo1, q_vgo2, q_vgo3, q_pfin1, q_pfin2, q_pgo1, q_pgo2, q_cellD1, q_cellD2, q_cons21, q_cons22, q_cons23, q_tfin1, q_tfin2, q_tgo1, q_tgo2, q_isCell1, q_isCell2, q_appGo1, q_appGo2, q_extGo1, q_extGo2, q_popFin1, q_popFin2, q_popGo1, q_popGo2, q_newGo1, q_newGo2, q_setFin1, q_setFin2, q_setGo1, q_setGo2, q_chn1, q_chn2, q_compGo1, q_compGo2, q_ckGo1, q_ckGo2, e_var, e_glob, e_lit, e_pr, e_new, e_act0, e_act1, e_and, e_or, e_not, e_ite, e_chain, e_call, e_callk, e_comp, es_nil, es_cons, an_one, an_more, or_one, or_more, e_T, prim_eq, argsD, holds, deref_d, deref_loc, derefs_nil, derefs_cons, dsOf_nil, dsOf_cons, tru_eq, q_truD1, q_truD2, q_truD3, q_truD4, q_truD5, q_truD6, q_truD7, isLst_loc, do_app, do_ext, do_pop, new_eq, set_eq, p_tup, p_lst, p_add, p_sub, p_mul, p_fdiv, p_mod, p_pow, p_lt, p_le, p_gt, p_ge, p_max, p_min, p_eq, p_ne, p_in, p_nin, p_ix, p_slTo, p_slFrom, p_slB, p_neg, p_len, p_int, p_sum, p_all, p_tupL, p_tupT, p_lstL, p_lstT, p_isi, p_isN, p_notN, isin_ch, isin_tup, isin_list, isTy, q_addD1, q_addD2, q_addD3, q_addD4, q_ixD1, q_ixD2, q_ixD3, q_slD1, q_slD2, q_lenD1, q_lenD2, q_lenD3, q_ugo1, q_ugo2, q_sgo1, q_sgo2, q_agoF1, q_agoF2, q_ago1, q_ago2, q_ago3, aug_add, aug_sub, q_fgo1, q_fgo2, s_asg', s_unp', s_par', s_par3', s_setix', s_aug', s_ex', s_ite', s_for', s_while', s_ret', ss_nil', ss_cons', asg_one, asg_many, setMany, pk_d, fin_rt, fin_nx, fin_ex, nx_ok, pick_nil, pick_cons, startR, get_top, set_top, take_top, take_own, take_fd, take_fd2, stq_get, stq_set, stq_len, stq_app, stq_top, stq_take, stq_take2, eqOk_str, eqv_str, eqOk_int, eqv_int, eqOk_bool, eqv_bool, it_seq, it_r1, it_r2, it_el, it_et, it_zip, it_rev, q_seqD1, q_seqD2, q_seqD3, List.map_cons, List.map_nil, List.length_cons, List.length_nil, List.replicate_succ, List.replicate_zero, List.append_nil, List.nil_append, List.cons_append, List.getElem?_cons_zero, List.getElem?_cons_succ, List.getElem?_nil, List.set_cons_zero, List.set_cons_succ, Option.map_some, Option.map_none, if_true, if_false, ite_true, ite_false, reduceIte, Bool.not_true, Bool.not_false, Bool.false_eq_true, decide_true, decide_false, Bool.and_true, Bool.true_and, Bool.and_false, Bool.false_and, b2, kindNode]
    · cases a with
      | str w =>
        have hh : (PyData.strOk w && strFit y) = true := h
        rw [Bool.and_eq_true] at hh
        obtain ⟨h1, h2⟩ := hh
        clear h
        rcases r with _ | ⟨z, _ | ⟨z2, r⟩⟩
        · cases k1 : w == Str.ofString "base" <;> cases k4 : w == Str.ofString "arrow" <;>
            simp only [lineOk4, lineOk5, lineOk6, lineOk7, lineOk8, lineOk9, lineOk10, lineOk11, lineOk12, lineOk13, lineOk14, lineOk15, lineOk16, lineOk17, lineOk18, lineOk19, lineOk20, lineOk21, lineOk22, lineOk23, lineOk24, lineOk25, lineOk26, lineOk27, lineOk28, lineOk29, lineOk30, lineOk31, lineOk32, lineOk33, lineOk34, lineOk35, lineOk36, lineOk37, lineOk38, lineOk39, lineOk40, nc0, nc1, nc2, nc3, nc4, lineOk0, lineOk1, lineOk2, lineOk3, Nat.reduceAdd, Nat.reduceSub, Int.reduceLT, Int.reduceLE, Int.reduceBEq, Int.reduceEq, Int.reduceAdd, Int.reduceSub, Int.reduceNeg, atI_0, atI_1, atI_2, atI_3, cut_1, cut_to1, eq_self, Option.bind_some, rb_ok, rb_exc, rb_bad, ro_ok, ro_exc, ro_bad, sq_nx, sq_rt, sq_bk, sq_ct, q_vgo1, q_vgo2, q_vgo3, q_pfin1, q_pfin2, q_pgo1, q_pgo2, q_cellD1, q_cellD2, q_cons21, q_cons22, q_cons23, q_tfin1, q_tfin2, q_tgo1, q_tgo2, q_isCell1, q_isCell2, q_appGo1, q_appGo2, q_extGo1, q_extGo2, q_popFin1, q_popFin2, q_popGo1, q_popGo2, q_newGo1, q_newGo2, q_setFin1, q_setFin2, q_setGo1, q_setGo2, q_chn1, q_chn2, q_compGo1, q_compGo2, q_ckGo1, q_ckGo2, e_var, e_glob, e_lit, e_pr, e_new, e_act0, e_act1, e_and, e_or, e_not, e_ite, e_chain, e_call, e_callk, e_comp, es_nil, es_cons, an_one, an_more, or_one, or_more, e_T, prim_eq, argsD, holds, deref_d, deref_loc, derefs_nil, derefs_cons, dsOf_nil, dsOf_cons, tru_eq, q_truD1, q_truD2, q_truD3, q_truD4, q_truD5, q_truD6, q_truD7, isLst_loc, do_app, do_ext, do_pop, new_eq, set_eq, p_tup, p_lst, p_add, p_sub, p_mul, p_fdiv, p_mod, p_pow, p_lt, p_le, p_gt, p_ge, p_max, p_min, p_eq, p_ne, p_in, p_nin, p_ix, p_slTo, p_slFrom, p_slB, p_neg, p_len, p_int, p_sum, p_all, p_tupL, p_tupT, p_lstL, p_lstT, p_isi, p_isN, p_notN, isin_ch, isin_tup, isin_list, isTy, q_addD1, q_addD2, q_addD3, q_addD4, q_ixD1, q_ixD2, q_ixD3, q_slD1, q_slD2, q_lenD1, q_lenD2, q_lenD3, q_ugo1, q_ugo2, q_sgo1, q_sgo2, q_agoF1, q_agoF2, q_ago1, q_ago2, q_ago3, aug_add, aug_sub, q_fgo1, q_fgo2, s_asg', s_unp', s_par', s_par3', s_setix', s_aug', s_ex', s_ite', s_for', s_while', s_ret', ss_nil', ss_cons', asg_one, asg_many, setMany, pk_d, fin_rt, fin_nx, fin_ex, nx_ok, pick_nil, pick_cons, startR, get_top, set_top, take_top, take_own, take_fd, take_fd2, stq_get, stq_set, stq_len, stq_app, stq_top, stq_take, stq_take2, eqOk_str, eqv_str, eqOk_int, eqv_int, eqOk_bool, eqv_bool, it_seq, it_r1, it_r2, it_el, it_et, it_zip, it_rev, q_seqD1, q_seqD2, q_seqD3, List.map_cons, List.map_nil, List.length_cons, List.length_nil, List.replicate_succ, List.replicate_zero, List.append_nil, List.nil_append, List.cons_append, List.getElem?_cons_zero, List.getElem?_cons_succ, List.getElem?_nil, List.set_cons_zero, List.set_cons_succ, Option.map_some, Option.map_none, if_true, if_false, ite_true, ite_false, reduceIte, Bool.not_true, Bool.not_false, Bool.false_eq_true, decide_true, decide_false, Bool.and_true, Bool.true_and, Bool.and_false, Bool.false_and, b2, kindNode, so_base, so_arrow, h1, k1, k4, c_word n y st h2, List.isEmpty_nil, d01]
        · cases k1 : w == Str.ofString "base" <;> cases k4 : w == Str.ofString "arrow" <;>
            simp only [lineOk4, lineOk5, lineOk6, lineOk7, lineOk8, lineOk9, lineOk10, lineOk11, lineOk12, lineOk13, lineOk14, lineOk15, lineOk16, lineOk17, lineOk18, lineOk19, lineOk20, lineOk21, lineOk22, lineOk23, lineOk24, lineOk25, lineOk26, lineOk27, lineOk28, lineOk29, lineOk30, lineOk31, lineOk32, lineOk33, lineOk34, lineOk35, lineOk36, lineOk37, lineOk38, lineOk39, lineOk40, nc0, nc1, nc2, nc3, nc4, lineOk0, lineOk1, lineOk2, lineOk3, Nat.reduceAdd, Nat.reduceSub, Int.reduceLT, Int.reduceLE, Int.reduceBEq, Int.reduceEq, Int.reduceAdd, Int.reduceSub, Int.reduceNeg, atI_0, atI_1, atI_2, atI_3, cut_1, cut_to1, eq_self, Option.bind_some, rb_ok, rb_exc, rb_bad, ro_ok, ro_exc, ro_bad, sq_nx, sq_rt, sq_bk, sq_ct, q_vgo1, q_vgo2, q_vgo3, q_pfin1, q_pfin2, q_pgo1, q_pgo2, q_cellD1, q_cellD2, q_cons21, q_cons22, q_cons23, q_tfin1, q_tfin2, q_tgo1, q_tgo2, q_isCell1, q_isCell2, q_appGo1, q_appGo2, q_extGo1, q_extGo2, q_popFin1, q_popFin2, q_popGo1, q_popGo2, q_newGo1, q_newGo2, q_setFin1, q_setFin2, q_setGo1, q_setGo2, q_chn1, q_chn2, q_compGo1, q_compGo2, q_ckGo1, q_ckGo2, e_var, e_glob, e_lit, e_pr, e_new, e_act0, e_act1, e_and, e_or, e_not, e_ite, e_chain, e_call, e_callk, e_comp, es_nil, es_cons, an_one, an_more, or_one, or_more, e_T, prim_eq, argsD, holds, deref_d, deref_loc, derefs_nil, derefs_cons, dsOf_nil, dsOf_cons, tru_eq, q_truD1, q_truD2, q_truD3, q_truD4, q_truD5, q_truD6, q_truD7, isLst_loc, do_app, do_ext, do_pop, new_eq, set_eq, p_tup, p_lst, p_add, p_sub, p_mul, p_fdiv, p_mod, p_pow, p_lt, p_le, p_gt, p_ge, p_max, p_min, p_eq, p_ne, p_in, p_nin, p_ix, p_slTo, p_slFrom, p_slB, p_neg, p_len, p_int, p_sum, p_all, p_tupL, p_tupT, p_lstL, p_lstT, p_isi, p_isN, p_notN, isin_ch, isin_tup, isin_list, isTy, q_addD1, q_addD2, q_addD3, q_addD4, q_ixD1, q_ixD2, q_ixD3, q_slD1, q_slD2, q_lenD1, q_lenD2, q_lenD3, q_ugo1, q_ugo2, q_sgo1, q_sgo2, q_agoF1, q_agoF2, q_ago1, q_ago2, q_ago3, aug_add, aug_sub, q_fgo1, q_fgo2, s_asg', s_unp', s_par', s_par3', s_setix', s_aug', s_ex', s_ite', s_for', s_while', s_ret', ss_nil', ss_cons', asg_one, asg_many, setMany, pk_d, fin_rt, fin_nx, fin_ex, nx_ok, pick_nil, pick_cons, startR, get_top, set_top, take_top, take_own, take_fd, take_fd2, stq_get, stq_set, stq_len, stq_app, stq_top, stq_take, stq_take2, eqOk_str, eqv_str, eqOk_int, eqv_int, eqOk_bool, eqv_bool, it_seq, it_r1, it_r2, it_el, it_et, it_zip, it_rev, q_seqD1, q_seqD2, q_seqD3, List.map_cons, List.map_nil, List.length_cons, List.length_nil, List.replicate_succ, List.replicate_zero, List.append_nil, List.nil_append, List.cons_append, List.getElem?_cons_zero, List.getElem?_cons_succ, List.getElem?_nil, List.set_cons_zero, List.set_cons_succ, Option.map_some, Option.map_none, if_true, if_false, ite_true, ite_false, reduceIte, Bool.not_true, Bool.not_false, Bool.false_eq_true, decide_true, decide_false, Bool.and_true, Bool.true_and, Bool.and_false, Bool.false_and, b2, kindNode, so_base, so_arrow, h1, k1, k4, List.isEmpty_cons, d11]
        · cases k1 : w == Str.ofString "base" <;> cases k4 : w == Str.ofString "arrow" <;>
            simp only [lineOk4, lineOk5, lineOk6, lineOk7, lineOk8, lineOk9, lineOk10, lineOk11, lineOk12, lineOk13, lineOk14, lineOk15, lineOk16, lineOk17, lineOk18, lineOk19, lineOk20, lineOk21, lineOk22, lineOk23, lineOk24, lineOk25, lineOk26, lineOk27, lineOk28, lineOk29, lineOk30, lineOk31, lineOk32, lineOk33, lineOk34, lineOk35, lineOk36, lineOk37, lineOk38, lineOk39, lineOk40, nc0, nc1, nc2, nc3, nc4, lineOk0, lineOk1, lineOk2, lineOk3, Nat.reduceAdd, Nat.reduceSub, Int.reduceLT, Int.reduceLE, Int.reduceBEq, Int.reduceEq, Int.reduceAdd, Int.reduceSub, Int.reduceNeg, atI_0, atI_1, atI_2, atI_3, cut_1, cut_to1, eq_self, Option.bind_some, rb_ok, rb_exc, rb_bad, ro_ok, ro_exc, ro_bad, sq_nx, sq_rt, sq_bk, sq_ct, q_vgo1, q_vgo2, q_vgo3, q_pfin1, q_pfin2, q_pgo1, q_pgo2, q_cellD1, q_cellD2, q_cons21, q_cons22, q_cons23, q_tfin1, q_tfin2, q_tgo1, q_tgo2, q_isCell1, q_isCell2, q_appGo1, q_appGo2, q_extGo1, q_extGo2, q_popFin1, q_popFin2, q_popGo1, q_popGo2, q_newGo1, q_newGo2, q_setFin1, q_setFin2, q_setGo1, q_setGo2, q_chn1, q_chn2, q_compGo1, q_compGo2, q_ckGo1, q_ckGo2, e_var, e_glob, e_lit, e_pr, e_new, e_act0, e_act1, e_and, e_or, e_not, e_ite, e_chain, e_call, e_callk, e_comp, es_nil, es_cons, an_one, an_more, or_one, or_more, e_T, prim_eq, argsD, holds, deref_d, deref_loc, derefs_nil, derefs_cons, dsOf_nil, dsOf_cons, tru_eq, q_truD1, q_truD2, q_truD3, q_truD4, q_truD5, q_truD6, q_truD7, isLst_loc, do_app, do_ext, do_pop, new_eq, set_eq, p_tup, p_lst, p_add, p_sub, p_mul, p_fdiv, p_mod, p_pow, p_lt, p_le, p_gt, p_ge, p_max, p_min, p_eq, p_ne, p_in, p_nin, p_ix, p_slTo, p_slFrom, p_slB, p_neg, p_len, p_int, p_sum, p_all, p_tupL, p_tupT, p_lstL, p_lstT, p_isi, p_isN, p_notN, isin_ch, isin_tup, isin_list, isTy, q_addD1, q_addD2, q_addD3, q_addD4, q_ixD1, q_ixD2, q_ixD3, q_slD1, q_slD2, q_lenD1, q_lenD2, q_lenD3, q_ugo1, q_ugo2, q_sgo1, q_sgo2, q_agoF1, q_agoF2, q_ago1, q_ago2, q_ago3, aug_add, aug_sub, q_fgo1, q_fgo2, s_asg', s_unp', s_par', s_par3', s_setix', s_aug', s_ex', s_ite', s_for', s_while', s_ret', ss_nil', ss_cons', asg_one, asg_many, setMany, pk_d, fin_rt, fin_nx, fin_ex, nx_ok, pick_nil, pick_cons, startR, get_top, set_top, take_top, take_own, take_fd, take_fd2, stq_get, stq_set, stq_len, stq_app, stq_top, stq_take, stq_take2, eqOk_str, eqv_str, eqOk_int, eqv_int, eqOk_bool, eqv_bool, it_seq, it_r1, it_r2, it_el, it_et, it_zip, it_rev, q_seqD1, q_seqD2, q_seqD3, List.map_cons, List.map_nil, List.length_cons, List.length_nil, List.replicate_succ, List.replicate_zero, List.append_nil, List.nil_append, List.cons_append, List.getElem?_cons_zero, List.getElem?_cons_succ, List.getElem?_nil, List.set_cons_zero, List.set_cons_succ, Option.map_some, Option.map_none, if_true, if_false, ite_true, ite_false, reduceIte, Bool.not_true, Bool.not_false, Bool.false_eq_true, decide_true, decide_false, Bool.and_true, Bool.true_and, Bool.and_false, Bool.false_and, b2, kindNode, so_base, so_arrow, h1, k1, k4, List.isEmpty_cons, len4, len42, len43, len41]
      | _ =>
        rcases r with _ | ⟨z, _ | ⟨z2, r⟩⟩ <;> simp only [lineOk4, lineOk5, lineOk6, lineOk7, lineOk8, lineOk9, lineOk10, lineOk11, lineOk12, lineOk13, lineOk14, lineOk15, lineOk16, lineOk17, lineOk18, lineOk19, lineOk20, lineOk21, lineOk22, lineOk23, lineOk24, lineOk25, lineOk26, lineOk27, lineOk28, lineOk29, lineOk30, lineOk31, lineOk32, lineOk33, lineOk34, lineOk35, lineOk36, lineOk37, lineOk38, lineOk39, lineOk40, nc0, nc1, nc2, nc3, nc4, lineOk0, lineOk1, lineOk2, lineOk3, Nat.reduceAdd, Nat.reduceSub, Int.reduceLT, Int.reduceLE, Int.reduceBEq, Int.reduceEq, Int.reduceAdd, Int.reduceSub, Int.reduceNeg, atI_0, atI_1, atI_2, atI_3, cut_1, cut_to1, eq_self, Option.bind_some, rb_ok, rb_exc, rb_bad, ro_ok, ro_exc, ro_bad, sq_nx, sq_rt, sq_bk, sq_ct, q_vgo1, q_vgo2, q_vgo3, q_pfin1, q_pfin2, q_pgo1, q_pgo2, q_cellD1, q_cellD2, q_cons21, q_cons22, q_cons23, q_tfin1, q_tfin2, q_tgo1, q_tgo2, q_isCell1, q_isCell2, q_appGo1, q_appGo2, q_extGo1, q_extGo2, q_popFin1, q_popFin2, q_popGo1, q_popGo2, q_newGo1, q_newGo2, q_setFin1, q_setFin2, q_setGo1, q_setGo2, q_chn1, q_chn2, q_compGo1, q_compGo2, q_ckGo1, q_ckGo2, e_var, e_glob, e_lit, e_pr, e_new, e_act0, e_act1, e_and, e_or, e_not, e_ite, e_chain, e_call, e_callk, e_comp, es_nil, es_cons, an_one, an_more, or_one, or_more, e_T, prim_eq, argsD, holds, deref_d, deref_loc, derefs_nil, derefs_cons, dsOf_nil, dsOf_cons, tru_eq, q_truD1, q_truD2, q_truD3, q_truD4, q_truD5, q_truD6, q_truD7, isLst_loc, do_app, do_ext, do_pop, new_eq, set_eq, p_tup, p_lst, p_add, p_sub, p_mul, p_fdiv, p_mod, p_pow, p_lt, p_le, p_gt, p_ge, p_max, p_min, p_eq, p_ne, p_in, p_nin, p_ix, p_slTo, p_slFrom, p_slB, p_neg, p_len, p_int, p_sum, p_all, p_tupL, p_tupT, p_lstL, p_lstT, p_isi, p_isN, p_notN, isin_ch, isin_tup, isin_list, isTy, q_addD1, q_addD2, q_addD3, q_addD4, q_ixD1, q_ixD2, q_ixD3, q_slD1, q_slD2, q_lenD1, q_lenD2, q_lenD3, q_ugo1, q_ugo2, q_sgo1, q_sgo2, q_agoF1, q_agoF2, q_ago1, q_ago2, q_ago3, aug_add, aug_sub, q_fgo1, q_fgo2, s_asg', s_unp', s_par', s_par3', s_setix', s_aug', s_ex', s_ite', s_for', s_while', s_ret', ss_nil', ss_cons', asg_one, asg_many, setMany, pk_d, fin_rt, fin_nx, fin_ex, nx_ok, pick_nil, pick_cons, startR, get_top, set_top, take_top, take_own, take_fd, take_fd2, stq_get, stq_set, stq_len, stq_app, stq_top, stq_take, stq_take2, eqOk_str, eqv_str, eqOk_int, eqv_int, eqOk_bool, eqv_bool, it_seq, it_r1, it_r2, it_el, it_et, it_zip, it_rev, q_seqD1, q_seqD2, q_seqD3, List.map_cons, List.map_nil, List.length_cons, List.length_nil, List.replicate_succ, List.replicate_zero, List.append_nil, List.nil_append, List.cons_append, List.getElem?_cons_zero, List.getElem?_cons_succ, List.getElem?_nil, List.set_cons_zero, List.set_cons_succ, Option.map_some, Option.map_none, if_true, if_false, ite_true, ite_false, reduceIte, Bool.not_true, Bool.not_false, Bool.false_eq_true, decide_true, decide_false, Bool.and_true, Bool.true_and, Bool.and_false, Bool.false_and, b2, kindNode, len4]
  | _ => simp only [lineOk4, lineOk5, lineOk6, lineOk7, lineOk8, lineOk9, lineOk10, lineOk11, lineOk12, lineOk13, lineOk14, lineOk15, lineOk16, lineOk17, lineOk18, lineOk19, lineOk20, lineOk21, lineOk22, lineOk23, lineOk24, lineOk25, lineOk26, lineOk27, lineOk28, lineOk29, lineOk30, lineOk31, lineOk32, lineOk33, lineOk34, lineOk35, lineOk36, lineOk37, lineOk38, lineOk39, lineOk40, nc0, nc1, nc2, nc3, nc4, lineOk0, lineOk1, lineOk2, lineOk3, Nat.reduceAdd, Nat.reduceSub, Int.reduceLT, Int.reduceLE, Int.reduceBEq, Int.reduceEq, Int.reduceAdd, Int.reduceSub, Int.reduceNeg, atI_0, atI_1, atI_2, atI_3, cut_1, cut_to1, eq_self, Option.bind_some, rb_ok, rb_exc, rb_bad, ro_ok, ro_exc, ro_bad, sq_nx, sq_rt, sq_bk, sq_ct, q_vgo1, q_vgo2, q_vgo3, q_pfin1, q_pfin2, q_pgo1, q_pgo2, q_cellD1, q_cellD2, q_cons21, q_cons22, q_cons23, q_tfin1, q_tfin2, q_tgo1, q_tgo2, q_isCell1, q_isCell2, q_appGo1, q_appGo2, q_extGo1, q_extGo2, q_popFin1, q_popFin2, q_popGo1, q_popGo2, q_newGo1, q_newGo2, q_setFin1, q_setFin2, q_setGo1, q_setGo2, q_chn1, q_chn2, q_compGo1, q_compGo2, q_ckGo1, q_ckGo2, e_var, e_glob, e_lit, e_pr, e_new, e_act0, e_act1, e_and, e_or, e_not, e_ite, e_chain, e_call, e_callk, e_comp, es_nil, es_cons, an_one, an_more, or_one, or_more, e_T, prim_eq, argsD, holds, deref_d, deref_loc, derefs_nil, derefs_cons, dsOf_nil, dsOf_cons, tru_eq, q_truD1, q_truD2, q_truD3, q_truD4, q_truD5, q_truD6, q_truD7, isLst_loc, do_app, do_ext, do_pop, new_eq, set_eq, p_tup, p_lst, p_add, p_sub, p_mul, p_fdiv, p_mod, p_pow, p_lt, p_le, p_gt, p_ge, p_max, p_min, p_eq, p_ne, p_in, p_nin, p_ix, p_slTo, p_slFrom, p_slB, p_neg, p_len, p_int, p_sum, p_all, p_tupL, p_tupT, p_lstL, p_lstT, p_isi, p_isN, p_notN, isin_ch, isin_tup, isin_list, isTy, q_addD1, q_addD2, q_addD3, q_addD4, q_ixD1, q_ixD2, q_ixD3, q_slD1, q_slD2, q_lenD1, q_lenD2, q_lenD3, q_ugo1, q_ugo2, q_sgo1, q_sgo2, q_agoF1, q_agoF2, q_ago1, q_ago2, q_ago3, aug_add, aug_sub, q_fgo1, q_fgo2, s_asg', s_unp', s_par', s_par3', s_setix', s_aug', s_ex', s_ite', s_for', s_while', s_ret', ss_nil', ss_cons', asg_one, asg_many, setMany, pk_d, fin_rt, fin_nx, fin_ex, nx_ok, pick_nil, pick_cons, startR, get_top, set_top, take_top, take_own, take_fd, take_fd2, stq_get, stq_set, stq_len, stq_app, stq_top, stq_take, stq_take2, eqOk_str, eqv_str, eqOk_int, eqv_int, eqOk_bool, eqv_bool, it_seq, it_r1, it_r2, it_el, it_et, it_zip, it_rev, q_seqD1, q_seqD2, q_seqD3, List.map_cons, List.map_nil, List.length_cons, List.length_nil, List.replicate_succ, List.replicate_zero, List.append_nil, List.nil_append, List.cons_append, List.getElem?_cons_zero, List.getElem?_cons_succ, List.getElem?_nil, List.set_cons_zero, List.set_cons_succ, Option.map_some, Option.map_none, if_true, if_false, ite_true, ite_false, reduceIte, Bool.not_true, Bool.not_false, Bool.false_eq_true, decide_true, decide_false, Bool.and_true, Bool.true_and, Bool.and_false, Bool.false_and, b2, kindNode]
theorem eqd_str (y : PyData) (w : Str) (h : PyData.canLay0 y = true) : eqOk y (.str w) = PyData.strOk w := by
  unfold eqOk
  rw [h, Bool.true_and, PyData.canLay0]
  simp [PyData.depth]
/-- what the loose node's test asks of the first part -/
def headFit : PyData → Bool
  | .tuple (y :: _) => PyData.canLay0 y
  | _ => true
theorem c_loosenode (n : Nat) (x : PyData) (st : Sto) (h : nodeFit x = true) (hf : headFit x = true) : callF FT (n + 3) 7 [.d x] st = .ok (.d (.bool (looseNode x))) st := by
  rw [cf ft7]
  cases k : kindNode x
  · cases x with
    | tuple xs =>
      rcases xs with _ | ⟨a, _ | ⟨y, r⟩⟩
      · simp only [lineOk4, lineOk5, lineOk6, lineOk7, lineOk8, lineOk9, lineOk10, lineOk11, lineOk12, lineOk13, lineOk14, lineOk15, lineOk16, lineOk17, lineOk18, lineOk19, lineOk20, lineOk21, lineOk22, lineOk23, lineOk24, lineOk25, lineOk26, lineOk27, lineOk28, lineOk29, lineOk30, lineOk31, lineOk32, lineOk33, lineOk34, lineOk35, lineOk36, lineOk37, lineOk38, lineOk39, lineOk40, nc0, nc1, nc2, nc3, nc4, lineOk0, lineOk1, lineOk2, lineOk3, Nat.reduceAdd, Nat.reduceSub, Int.reduceLT, Int.reduceLE, Int.reduceBEq, Int.reduceEq, Int.reduceAdd, Int.reduceSub, Int.reduceNeg, atI_0, atI_1, atI_2, atI_3, cut_1, cut_to1, eq_self, Option.bind_some, rb_ok, rb_exc, rb_bad, ro_ok, ro_exc, ro_bad, sq_nx, sq_rt, sq_bk, sq_ct, q_vgo1, q_vgo2, q_vgo3, q_pfin1, q_pfin2, q_pgo1, q_pgo2, q_cellD1, q_cellD2, q_cons21, q_cons22, q_cons23, q_tfin1, q_tfin2, q_tgo1, q_tgo2, q_isCell1, q_isCell2, q_appGo1, q_appGo2, q_extGo1, q_extGo2, q_popFin1, q_popFin2, q_popGo1, q_popGo2, q_newGo1, q_newGo2, q_setFin1, q_setFin2, q_setGo1, q_setGo2, q_chn1, q_chn2, q_compGo1, q_compGo2, q_ckGo1, q_ckGo2, e_var, e_glob, e_lit, e_pr, e_new, e_act0, e_act1, e_and, e_or, e_not, e_ite, e_chain, e_call, e_callk, e_comp, es_nil, es_cons, an_one, an_more, or_one, or_more, e_T, prim_eq, argsD, holds, deref_d, deref_loc, derefs_nil, derefs_cons, dsOf_nil, dsOf_cons, tru_eq, q_truD1, q_truD2, q_truD3, q_truD4, q_truD5, q_truD6, q_truD7, isLst_loc, do_app, do_ext, do_pop, new_eq, set_eq, p_tup, p_lst, p_add, p_sub, p_mul, p_fdiv, p_mod, p_pow, p_lt, p_le, p_gt, p_ge, p_max, p_min, p_eq, p_ne, p_in, p_nin, p_ix, p_slTo, p_slFrom, p_slB, p_neg, p_len, p_int, p_sum, p_all, p_tupL, p_tupT, p_lstL, p_lstT, p_isi, p_isN, p_notN, isin_ch, isin_tup, isin_list, isTy, q_addD1, q_addD2, q_addD3, q_addD4, q_ixD1, q_ixD2, q_ixD3, q_slD1, q_slD2, q_lenD1, q_lenD2, q_lenD3, q_ugo1, q_ugo2, q_sgo1, q_sgo2, q_agoF1, q_agoF2, q_ago1, q_ago2, q_ago3, aug_add, aug_sub, q_fgo1, q_fgo2, s_asg', s_unp', s_par', s_par3', s_setix', s_aug', s_ex', s_ite', s_for', s_while', s_ret', ss_nil', ss_cons', asg_one, asg_many, setMany, pk_d, fin_rt, fin_nx, fin_ex, nx_ok, pick_nil, pick_cons, startR, get_top, set_top, take_top, take_own, take_fd, take_fd2, stq_get, stq_set, stq_len, stq_app, stq_top, stq_take, stq_take2, eqOk_str, eqv_str, eqOk_int, eqv_int, eqOk_bool, eqv_bool, it_seq, it_r1, it_r2, it_el, it_et, it_zip, it_rev, q_seqD1, q_seqD2, q_seqD3, List.map_cons, List.map_nil, List.length_cons, List.length_nil, List.replicate_succ, List.replicate_zero, List.append_nil, List.nil_append, List.cons_append, List.getElem?_cons_zero, List.getElem?_cons_succ, List.getElem?_nil, List.set_cons_zero, List.set_cons_succ, Option.map_some, Option.map_none, if_true, if_false, ite_true, ite_false, reduceIte, Bool.not_true, Bool.not_false, Bool.false_eq_true, decide_true, decide_false, Bool.and_true, Bool.true_and, Bool.and_false, Bool.false_and, b7, looseNode, k, c_kindnode n _ st h, Bool.false_or]
      · simp only [lineOk4, lineOk5, lineOk6, lineOk7, lineOk8, lineOk9, lineOk10, lineOk11, lineOk12, lineOk13, lineOk14, lineOk15, lineOk16, lineOk17, lineOk18, lineOk19, lineOk20, lineOk21, lineOk22, lineOk23, lineOk24, lineOk25, lineOk26, lineOk27, lineOk28, lineOk29, lineOk30, lineOk31, lineOk32, lineOk33, lineOk34, lineOk35, lineOk36, lineOk37, lineOk38, lineOk39, lineOk40, nc0, nc1, nc2, nc3, nc4, lineOk0, lineOk1, lineOk2, lineOk3, Nat.reduceAdd, Nat.reduceSub, Int.reduceLT, Int.reduceLE, Int.reduceBEq, Int.reduceEq, Int.reduceAdd, Int.reduceSub, Int.reduceNeg, atI_0, atI_1, atI_2, atI_3, cut_1, cut_to1, eq_self, Option.bind_some, rb_ok, rb_exc, rb_bad, ro_ok, ro_exc, ro_bad, sq_nx, sq_rt, sq_bk, sq_ct, q_vgo1, q_vgo2, q_vgo3, q_pfin1, q_pfin2, q_pgo1, q_pgo2, q_cellD1, q_cellD2, q_cons21, q_cons22, q_cons23, q_tfin1, q_tfin2, q_tgo1, q_tgo2, q_isCell1, q_isCell2, q_appGo1, q_appGo2, q_extGo1, q_extGo2, q_popFin1, q_popFin2, q_popGo1, q_popGo2, q_newGo1, q_newGo2, q_setFin1, q_setFin2, q_setGo1, q_setGo2, q_chn1, q_chn2, q_compGo1, q_compGo2, q_ckGo1, q_ckGo2, e_var, e_glob, e_lit, e_pr, e_new, e_act0, e_act1, e_and, e_or, e_not, e_ite, e_chain, e_call, e_callk, e_comp, es_nil, es_cons, an_one, an_more, or_one, or_more, e_T, prim_eq, argsD, holds, deref_d, deref_loc, derefs_nil, derefs_cons, dsOf_nil, dsOf_cons, tru_eq, q_truD1, q_truD2, q_truD3, q_truD4, q_truD5, q_truD6, q_truD7, isLst_loc, do_app, do_ext, do_pop, new_eq, set_eq, p_tup, p_lst, p_add, p_sub, p_mul, p_fdiv, p_mod, p_pow, p_lt, p_le, p_gt, p_ge, p_max, p_min, p_eq, p_ne, p_in, p_nin, p_ix, p_slTo, p_slFrom, p_slB, p_neg, p_len, p_int, p_sum, p_all, p_tupL, p_tupT, p_lstL, p_lstT, p_isi, p_isN, p_notN, isin_ch, isin_tup, isin_list, isTy, q_addD1, q_addD2, q_addD3, q_addD4, q_ixD1, q_ixD2, q_ixD3, q_slD1, q_slD2, q_lenD1, q_lenD2, q_lenD3, q_ugo1, q_ugo2, q_sgo1, q_sgo2, q_agoF1, q_agoF2, q_ago1, q_ago2, q_ago3, aug_add, aug_sub, q_fgo1, q_fgo2, s_asg', s_unp', s_par', s_par3', s_setix', s_aug', s_ex', s_ite', s_for', s_while', s_ret', ss_nil', ss_cons', asg_one, asg_many, setMany, pk_d, fin_rt, fin_nx, fin_ex, nx_ok, pick_nil, pick_cons, startR, get_top, set_top, take_top, take_own, take_fd, take_fd2, stq_get, stq_set, stq_len, stq_app, stq_top, stq_take, stq_take2, eqOk_str, eqv_str, eqOk_int, eqv_int, eqOk_bool, eqv_bool, it_seq, it_r1, it_r2, it_el, it_et, it_zip, it_rev, q_seqD1, q_seqD2, q_seqD3, List.map_cons, List.map_nil, List.length_cons, List.length_nil, List.replicate_succ, List.replicate_zero, List.append_nil, List.nil_append, List.cons_append, List.getElem?_cons_zero, List.getElem?_cons_succ, List.getElem?_nil, List.set_cons_zero, List.set_cons_succ, Option.map_some, Option.map_none, if_true, if_false, ite_true, ite_false, reduceIte, Bool.not_true, Bool.not_false, Bool.false_eq_true, decide_true, decide_false, Bool.and_true, Bool.true_and, Bool.and_false, Bool.false_and, b7, looseNode, k, c_kindnode n _ st h, Bool.false_or]
      · have hf0 : PyData.canLay0 a = true := hf
        clear hf
        have e1 := c_kindnode n _ st h
        clear h
        rcases r with _ | ⟨z, r⟩
        · cases a with
          | str w =>
            have hw : PyData.strOk w = true := by simpa [PyData.canLay0] using hf0
            cases k1 : w == Str.ofString "any" <;> simp only [lineOk4, lineOk5, lineOk6, lineOk7, lineOk8, lineOk9, lineOk10, lineOk11, lineOk12, lineOk13, lineOk14, lineOk15, lineOk16, lineOk17, lineOk18, lineOk19, lineOk20, lineOk21, lineOk22, lineOk23, lineOk24, lineOk25, lineOk26, lineOk27, lineOk28, lineOk29, lineOk30, lineOk31, lineOk32, lineOk33, lineOk34, lineOk35, lineOk36, lineOk37, lineOk38, lineOk39, lineOk40, nc0, nc1, nc2, nc3, nc4, lineOk0, lineOk1, lineOk2, lineOk3, Nat.reduceAdd, Nat.reduceSub, Int.reduceLT, Int.reduceLE, Int.reduceBEq, Int.reduceEq, Int.reduceAdd, Int.reduceSub, Int.reduceNeg, atI_0, atI_1, atI_2, atI_3, cut_1, cut_to1, eq_self, Option.bind_some, rb_ok, rb_exc, rb_bad, ro_ok, ro_exc, ro_bad, sq_nx, sq_rt, sq_bk, sq_ct, q_vgo1, q_vgo2, q_vgo3, q_pfin1, q_pfin2, q_pgo1, q_pgo2, q_cellD1, q_cellD2, q_cons21, q_cons22, q_cons23, q_tfin1, q_tfin2, q_tgo1, q_tgo2, q_isCell1, q_isCell2, q_appGo1, q_appGo2, q_extGo1, q_extGo2, q_popFin1, q_popFin2, q_popGo1, q_popGo2, q_newGo1, q_newGo2, q_setFin1, q_setFin2, q_setGo1, q_setGo2, q_chn1, q_chn2, q_compGo1, q_compGo2, q_ckGo1, q_ckGo2, e_var, e_glob, e_lit, e_pr, e_new, e_act0, e_act1, e_and, e_or, e_not, e_ite, e_chain, e_call, e_callk, e_comp, es_nil, es_cons, an_one, an_more, or_one, or_more, e_T, prim_eq, argsD, holds, deref_d, deref_loc, derefs_nil, derefs_cons, dsOf_nil, dsOf_cons, tru_eq, q_truD1, q_truD2, q_truD3, q_truD4, q_truD5, q_truD6, q_truD7, isLst_loc, do_app, do_ext, do_pop, new_eq, set_eq, p_tup, p_lst, p_add, p_sub, p_mul, p_fdiv, p_mod, p_pow, p_lt, p_le, p_gt, p_ge, p_max, p_min, p_eq, p_ne, p_in, p_nin, p_ix, p_slTo, p_slFrom, p_slB, p_neg, p_len, p_int, p_sum, p_all, p_tupL, p_tupT, p_lstL, p_lstT, p_isi, p_isN, p_notN, isin_ch, isin_tup, isin_list, isTy, q_addD1, q_addD2, q_addD3, q_addD4, q_ixD1, q_ixD2, q_ixD3, q_slD1, q_slD2, q_lenD1, q_lenD2, q_lenD3, q_ugo1, q_ugo2, q_sgo1, q_sgo2, q_agoF1, q_agoF2, q_ago1, q_ago2, q_ago3, aug_add, aug_sub, q_fgo1, q_fgo2, s_asg', s_unp', s_par', s_par3', s_setix', s_aug', s_ex', s_ite', s_for', s_while', s_ret', ss_nil', ss_cons', asg_one, asg_many, setMany, pk_d, fin_rt, fin_nx, fin_ex, nx_ok, pick_nil, pick_cons, startR, get_top, set_top, take_top, take_own, take_fd, take_fd2, stq_get, stq_set, stq_len, stq_app, stq_top, stq_take, stq_take2, eqOk_str, eqv_str, eqOk_int, eqv_int, eqOk_bool, eqv_bool, it_seq, it_r1, it_r2, it_el, it_et, it_zip, it_rev, q_seqD1, q_seqD2, q_seqD3, List.map_cons, List.map_nil, List.length_cons, List.length_nil, List.replicate_succ, List.replicate_zero, List.append_nil, List.nil_append, List.cons_append, List.getElem?_cons_zero, List.getElem?_cons_succ, List.getElem?_nil, List.set_cons_zero, List.set_cons_succ, Option.map_some, Option.map_none, if_true, if_false, ite_true, ite_false, reduceIte, Bool.not_true, Bool.not_false, Bool.false_eq_true, decide_true, decide_false, Bool.and_true, Bool.true_and, Bool.and_false, Bool.false_and, b7, looseNode, k, e1, hw, so_any, k1, c_int, Bool.false_or, List.isEmpty_nil]
          | _ => simp only [lineOk4, lineOk5, lineOk6, lineOk7, lineOk8, lineOk9, lineOk10, lineOk11, lineOk12, lineOk13, lineOk14, lineOk15, lineOk16, lineOk17, lineOk18, lineOk19, lineOk20, lineOk21, lineOk22, lineOk23, lineOk24, lineOk25, lineOk26, lineOk27, lineOk28, lineOk29, lineOk30, lineOk31, lineOk32, lineOk33, lineOk34, lineOk35, lineOk36, lineOk37, lineOk38, lineOk39, lineOk40, nc0, nc1, nc2, nc3, nc4, lineOk0, lineOk1, lineOk2, lineOk3, Nat.reduceAdd, Nat.reduceSub, Int.reduceLT, Int.reduceLE, Int.reduceBEq, Int.reduceEq, Int.reduceAdd, Int.reduceSub, Int.reduceNeg, atI_0, atI_1, atI_2, atI_3, cut_1, cut_to1, eq_self, Option.bind_some, rb_ok, rb_exc, rb_bad, ro_ok, ro_exc, ro_bad, sq_nx, sq_rt, sq_bk, sq_ct, q_vgo1, q_vgo2, q_vgo3, q_pfin1, q_pfin2, q_pgo1, q_pgo2, q_cellD1, q_cellD2, q_cons21, q_cons22, q_cons23, q_tfin1, q_tfin2, q_tgo1, q_tgo2, q_isCell1, q_isCell2, q_appGo1, q_appGo2, q_extGo1, q_extGo2, q_popFin1, q_popFin2, q_popGo1, q_popGo2, q_newGo1, q_newGo2, q_setFin1, q_setFin2, q_setGo1, q_setGo2, q_chn1, q_chn2, q_compGo1, q_compGo2, q_ckGo1, q_ckGo2, e_var, e_glob, e_lit, e_pr, e_new, e_act0, e_act1, e_and, e_or, e_not, e_ite, e_chain, e_call, e_callk, e_comp, es_nil, es_cons, an_one, an_more, or_one, or_more, e_T, prim_eq, argsD, holds, deref_d, deref_loc, derefs_nil, derefs_cons, dsOf_nil, dsOf_cons, tru_eq, q_truD1, q_truD2, q_truD3, q_truD4, q_truD5, q_truD6, q_truD7, isLst_loc, do_app, do_ext, do_pop, new_eq, set_eq, p_tup, p_lst, p_add, p_sub, p_mul, p_fdiv, p_mod, p_pow, p_lt, p_le, p_gt, p_ge, p_max, p_min, p_eq, p_ne, p_in, p_nin, p_ix, p_slTo, p_slFrom, p_slB, p_neg, p_len, p_int, p_sum, p_all, p_tupL, p_tupT, p_lstL, p_lstT, p_isi, p_isN, p_notN, isin_ch, isin_tup, isin_list, isTy, q_addD1, q_addD2, q_addD3, q_addD4, q_ixD1, q_ixD2, q_ixD3, q_slD1, q_slD2, q_lenD1, q_lenD2, q_lenD3, q_ugo1, q_ugo2, q_sgo1, q_sgo2, q_agoF1, q_agoF2, q_ago1, q_ago2, q_ago3, aug_add, aug_sub, q_fgo1, q_fgo2, s_asg', s_unp', s_par', s_par3', s_setix', s_aug', s_ex', s_ite', s_for', s_while', s_ret', ss_nil', ss_cons', asg_one, asg_many, setMany, pk_d, fin_rt, fin_nx, fin_ex, nx_ok, pick_nil, pick_cons, startR, get_top, set_top, take_top, take_own, take_fd, take_fd2, stq_get, stq_set, stq_len, stq_app, stq_top, stq_take, stq_take2, eqOk_str, eqv_str, eqOk_int, eqv_int, eqOk_bool, eqv_bool, it_seq, it_r1, it_r2, it_el, it_et, it_zip, it_rev, q_seqD1, q_seqD2, q_seqD3, List.map_cons, List.map_nil, List.length_cons, List.length_nil, List.replicate_succ, List.replicate_zero, List.append_nil, List.nil_append, List.cons_append, List.getElem?_cons_zero, List.getElem?_cons_succ, List.getElem?_nil, List.set_cons_zero, List.set_cons_succ, Option.map_some, Option.map_none, if_true, if_false, ite_true, ite_false, reduceIte, Bool.not_true, Bool.not_false, Bool.false_eq_true, decide_true, decide_false, Bool.and_true, Bool.true_and, Bool.and_false, Bool.false_and, b7, looseNode, k, e1, eqd_str _ _ hf0, so_any, PyData.eqv, c_int, Bool.false_or, List.isEmpty_nil]
        · have l3 : (((r.length + 1 + 1 + 1 : Nat) : Int) == 2) = false := beq_eq_false_iff_ne.mpr (by omega)
          cases a with
          | str w =>
            simp only [lineOk4, lineOk5, lineOk6, lineOk7, lineOk8, lineOk9, lineOk10, lineOk11, lineOk12, lineOk13, lineOk14, lineOk15, lineOk16, lineOk17, lineOk18, lineOk19, lineOk20, lineOk21, lineOk22, lineOk23, lineOk24, lineOk25, lineOk26, lineOk27, lineOk28, lineOk29, lineOk30, lineOk31, lineOk32, lineOk33, lineOk34, lineOk35, lineOk36, lineOk37, lineOk38, lineOk39, lineOk40, nc0, nc1, nc2, nc3, nc4, lineOk0, lineOk1, lineOk2, lineOk3, Nat.reduceAdd, Nat.reduceSub, Int.reduceLT, Int.reduceLE, Int.reduceBEq, Int.reduceEq, Int.reduceAdd, Int.reduceSub, Int.reduceNeg, atI_0, atI_1, atI_2, atI_3, cut_1, cut_to1, eq_self, Option.bind_some, rb_ok, rb_exc, rb_bad, ro_ok, ro_exc, ro_bad, sq_nx, sq_rt, sq_bk, sq_ct, q_vgo1, q_vgo2, q_vgo3, q_pfin1, q_pfin2, q_pgo1, q_pgo2, q_cellD1, q_cellD2, q_cons21, q_cons22, q_cons23, q_tfin1, q_tfin2, q_tgo1, q_tgo2, q_isCell1, q_isCell2, q_appGo1, q_appGo2, q_extGo1, q_extGo2, q_popFin1, q_popFin2, q_popGo1, q_popGo2, q_newGo1, q_newGo2, q_setFin1, q_setFin2, q_setGo1, q_setGo2, q_chn1, q_chn2, q_compGo1, q_compGo2, q_ckGo1, q_ckGo2, e_var, e_glob, e_lit, e_pr, e_new, e_act0, e_act1, e_and, e_or, e_not, e_ite, e_chain, e_call, e_callk, e_comp, es_nil, es_cons, an_one, an_more, or_one, or_more, e_T, prim_eq, argsD, holds, deref_d, deref_loc, derefs_nil, derefs_cons, dsOf_nil, dsOf_cons, tru_eq, q_truD1, q_truD2, q_truD3, q_truD4, q_truD5, q_truD6, q_truD7, isLst_loc, do_app, do_ext, do_pop, new_eq, set_eq, p_tup, p_lst, p_add, p_sub, p_mul, p_fdiv, p_mod, p_pow, p_lt, p_le, p_gt, p_ge, p_max, p_min, p_eq, p_ne, p_in, p_nin, p_ix, p_slTo, p_slFrom, p_slB, p_neg, p_len, p_int, p_sum, p_all, p_tupL, p_tupT, p_lstL, p_lstT, p_isi, p_isN, p_notN, isin_ch, isin_tup, isin_list, isTy, q_addD1, q_addD2, q_addD3, q_addD4, q_ixD1, q_ixD2, q_ixD3, q_slD1, q_slD2, q_lenD1, q_lenD2, q_lenD3, q_ugo1, q_ugo2, q_sgo1, q_sgo2, q_agoF1, q_agoF2, q_ago1, q_ago2, q_ago3, aug_add, aug_sub, q_fgo1, q_fgo2, s_asg', s_unp', s_par', s_par3', s_setix', s_aug', s_ex', s_ite', s_for', s_while', s_ret', ss_nil', ss_cons', asg_one, asg_many, setMany, pk_d, fin_rt, fin_nx, fin_ex, nx_ok, pick_nil, pick_cons, startR, get_top, set_top, take_top, take_own, take_fd, take_fd2, stq_get, stq_set, stq_len, stq_app, stq_top, stq_take, stq_take2, eqOk_str, eqv_str, eqOk_int, eqv_int, eqOk_bool, eqv_bool, it_seq, it_r1, it_r2, it_el, it_et, it_zip, it_rev, q_seqD1, q_seqD2, q_seqD3, List.map_cons, List.map_nil, List.length_cons, List.length_nil, List.replicate_succ, List.replicate_zero, List.append_nil, List.nil_append, List.cons_append, List.getElem?_cons_zero, List.getElem?_cons_succ, List.getElem?_nil, List.set_cons_zero, List.set_cons_succ, Option.map_some, Option.map_none, if_true, if_false, ite_true, ite_false, reduceIte, Bool.not_true, Bool.not_false, Bool.false_eq_true, decide_true, decide_false, Bool.and_true, Bool.true_and, Bool.and_false, Bool.false_and, b7, looseNode, k, e1, l3, Bool.false_or, List.isEmpty_cons]
          | _ => simp only [lineOk4, lineOk5, lineOk6, lineOk7, lineOk8, lineOk9, lineOk10, lineOk11, lineOk12, lineOk13, lineOk14, lineOk15, lineOk16, lineOk17, lineOk18, lineOk19, lineOk20, lineOk21, lineOk22, lineOk23, lineOk24, lineOk25, lineOk26, lineOk27, lineOk28, lineOk29, lineOk30, lineOk31, lineOk32, lineOk33, lineOk34, lineOk35, lineOk36, lineOk37, lineOk38, lineOk39, lineOk40, nc0, nc1, nc2, nc3, nc4, lineOk0, lineOk1, lineOk2, lineOk3, Nat.reduceAdd, Nat.reduceSub, Int.reduceLT, Int.reduceLE, Int.reduceBEq, Int.reduceEq, Int.reduceAdd, Int.reduceSub, Int.reduceNeg, atI_0, atI_1, atI_2, atI_3, cut_1, cut_to1, eq_self, Option.bind_some, rb_ok, rb_exc, rb_bad, ro_ok, ro_exc, ro_bad, sq_nx, sq_rt, sq_bk, sq_ct, q_vgo1, q_vgo2, q_vgo3, q_pfin1, q_pfin2, q_pgo1, q_pgo2, q_cellD1, q_cellD2, q_cons21, q_cons22, q_cons23, q_tfin1, q_tfin2, q_tgo1, q_tgo2, q_isCell1, q_isCell2, q_appGo1, q_appGo2, q_extGo1, q_extGo2, q_popFin1, q_popFin2, q_popGo1, q_popGo2, q_newGo1, q_newGo2, q_setFin1, q_setFin2, q_setGo1, q_setGo2, q_chn1, q_chn2, q_compGo1, q_compGo2, q_ckGo1, q_ckGo2, e_var, e_glob, e_lit, e_pr, e_new, e_act0, e_act1, e_and, e_or, e_not, e_ite, e_chain, e_call, e_callk, e_comp, es_nil, es_cons, an_one, an_more, or_one, or_more, e_T, prim_eq, argsD, holds, deref_d, deref_loc, derefs_nil, derefs_cons, dsOf_nil, dsOf_cons, tru_eq, q_truD1, q_truD2, q_truD3, q_truD4, q_truD5, q_truD6, q_truD7, isLst_loc, do_app, do_ext, do_pop, new_eq, set_eq, p_tup, p_lst, p_add, p_sub, p_mul, p_fdiv, p_mod, p_pow, p_lt, p_le, p_gt, p_ge, p_max, p_min, p_eq, p_ne, p_in, p_nin, p_ix, p_slTo, p_slFrom, p_slB, p_neg, p_len, p_int, p_sum, p_all, p_tupL, p_tupT, p_lstL, p_lstT, p_isi, p_isN, p_notN, isin_ch, isin_tup, isin_list, isTy, q_addD1, q_addD2, q_addD3, q_addD4, q_ixD1, q_ixD2, q_ixD3, q_slD1, q_slD2, q_lenD1, q_lenD2, q_lenD3, q_ugo1, q_ugo2, q_sgo1, q_sgo2, q_agoF1, q_agoF2, q_ago1, q_ago2, q_ago3, aug_add, aug_sub, q_fgo1, q_fgo2, s_asg', s_unp', s_par', s_par3', s_setix', s_aug', s_ex', s_ite', s_for', s_while', s_ret', ss_nil', ss_cons', asg_one, asg_many, setMany, pk_d, fin_rt, fin_nx, fin_ex, nx_ok, pick_nil, pick_cons, startR, get_top, set_top, take_top, take_own, take_fd, take_fd2, stq_get, stq_set, stq_len, stq_app, stq_top, stq_take, stq_take2, eqOk_str, eqv_str, eqOk_int, eqv_int, eqOk_bool, eqv_bool, it_seq, it_r1, it_r2, it_el, it_et, it_zip, it_rev, q_seqD1, q_seqD2, q_seqD3, List.map_cons, List.map_nil, List.length_cons, List.length_nil, List.replicate_succ, List.replicate_zero, List.append_nil, List.nil_append, List.cons_append, List.getElem?_cons_zero, List.getElem?_cons_succ, List.getElem?_nil, List.set_cons_zero, List.set_cons_succ, Option.map_some, Option.map_none, if_true, if_false, ite_true, ite_false, reduceIte, Bool.not_true, Bool.not_false, Bool.false_eq_true, decide_true, decide_false, Bool.and_true, Bool.true_and, Bool.and_false, Bool.false_and, b7, looseNode, k, e1, l3, Bool.false_or, List.isEmpty_cons]
    | _ => simp only [lineOk4, lineOk5, lineOk6, lineOk7, lineOk8, lineOk9, lineOk10, lineOk11, lineOk12, lineOk13, lineOk14, lineOk15, lineOk16, lineOk17, lineOk18, lineOk19, lineOk20, lineOk21, lineOk22, lineOk23, lineOk24, lineOk25, lineOk26, lineOk27, lineOk28, lineOk29, lineOk30, lineOk31, lineOk32, lineOk33, lineOk34, lineOk35, lineOk36, lineOk37, lineOk38, lineOk39, lineOk40, nc0, nc1, nc2, nc3, nc4, lineOk0, lineOk1, lineOk2, lineOk3, Nat.reduceAdd, Nat.reduceSub, Int.reduceLT, Int.reduceLE, Int.reduceBEq, Int.reduceEq, Int.reduceAdd, Int.reduceSub, Int.reduceNeg, atI_0, atI_1, atI_2, atI_3, cut_1, cut_to1, eq_self, Option.bind_some, rb_ok, rb_exc, rb_bad, ro_ok, ro_exc, ro_bad, sq_nx, sq_rt, sq_bk, sq_ct, q_vgo1, q_vgo2, q_vgo3, q_pfin1, q_pfin2, q_pgo1, q_pgo2, q_cellD1, q_cellD2, q_cons21, q_cons22, q_cons23, q_tfin1, q_tfin2, q_tgo1, q_tgo2, q_isCell1, q_isCell2, q_appGo1, q_appGo2, q_extGo1, q_extGo2, q_popFin1, q_popFin2, q_popGo1, q_popGo2, q_newGo1, q_newGo2, q_setFin1, q_setFin2, q_setGo1, q_setGo2, q_chn1, q_chn2, q_compGo1, q_compGo2, q_ckGo1, q_ckGo2, e_var, e_glob, e_lit, e_pr, e_new, e_act0, e_act1, e_and, e_or, e_not, e_ite, e_chain, e_call, e_callk, e_comp, es_nil, es_cons, an_one, an_more, or_one, or_more, e_T, prim_eq, argsD, holds, deref_d, deref_loc, derefs_nil, derefs_cons, dsOf_nil, dsOf_cons, tru_eq, q_truD1, q_truD2, q_truD3, q_truD4, q_truD5, q_truD6, q_truD7, isLst_loc, do_app, do_ext, do_pop, new_eq, set_eq, p_tup, p_lst, p_add, p_sub, p_mul, p_fdiv, p_mod, p_pow, p_lt, p_le, p_gt, p_ge, p_max, p_min, p_eq, p_ne, p_in, p_nin, p_ix, p_slTo, p_slFrom, p_slB, p_neg, p_len, p_int, p_sum, p_all, p_tupL, p_tupT, p_lstL, p_lstT, p_isi, p_isN, p_notN, isin_ch, isin_tup, isin_list, isTy, q_addD1, q_addD2, q_addD3, q_addD4, q_ixD1, q_ixD2, q_ixD3, q_slD1, q_slD2, q_lenD1, q_lenD2, q_lenD3, q_ugo1, q_ugo2, q_sgo1, q_sgo2, q_agoF1, q_agoF2, q_ago1, q_ago2, q_ago3, aug_add, aug_sub, q_fgo1, q_fgo2, s_asg', s_unp', s_par', s_par3', s_setix', s_aug', s_ex', s_ite', s_for', s_while', s_ret', ss_nil', ss_cons', asg_one, asg_many, setMany, pk_d, fin_rt, fin_nx, fin_ex, nx_ok, pick_nil, pick_cons, startR, get_top, set_top, take_top, take_own, take_fd, take_fd2, stq_get, stq_set, stq_len, stq_app, stq_top, stq_take, stq_take2, eqOk_str, eqv_str, eqOk_int, eqv_int, eqOk_bool, eqv_bool, it_seq, it_r1, it_r2, it_el, it_et, it_zip, it_rev, q_seqD1, q_seqD2, q_seqD3, List.map_cons, List.map_nil, List.length_cons, List.length_nil, List.replicate_succ, List.replicate_zero, List.append_nil, List.nil_append, List.cons_append, List.getElem?_cons_zero, List.getElem?_cons_succ, List.getElem?_nil, List.set_cons_zero, List.set_cons_succ, Option.map_some, Option.map_none, if_true, if_false, ite_true, ite_false, reduceIte, Bool.not_true, Bool.not_false, Bool.false_eq_true, decide_true, decide_false, Bool.and_true, Bool.true_and, Bool.and_false, Bool.false_and, b7, looseNode, k, c_kindnode n _ st h, Bool.false_or]
  · simp only [lineOk4, lineOk5, lineOk6, lineOk7, lineOk8, lineOk9, lineOk10, lineOk11, lineOk12, lineOk13, lineOk14, lineOk15, lineOk16, lineOk17, lineOk18, lineOk19, lineOk20, lineOk21, lineOk22, lineOk23, lineOk24, lineOk25, lineOk26, lineOk27, lineOk28, lineOk29, lineOk30, lineOk31, lineOk32, lineOk33, lineOk34, lineOk35, lineOk36, lineOk37, lineOk38, lineOk39, lineOk40, nc0, nc1, nc2, nc3, nc4, lineOk0, lineOk1, lineOk2, lineOk3, Nat.reduceAdd, Nat.reduceSub, Int.reduceLT, Int.reduceLE, Int.reduceBEq, Int.reduceEq, Int.reduceAdd, Int.reduceSub, Int.reduceNeg, atI_0, atI_1, atI_2, atI_3, cut_1, cut_to1, eq_self, Option.bind_some, rb_ok, rb_exc, rb_bad, ro_ok, ro_exc, ro_bad, sq_nx, sq_rt, sq_bk, sq_ct, q_vgo1, q_vgo2, q_vgo3, q_pfin1, q_pfin2, q_pgo1, q_pgo2, q_cellD1, q_cellD2, q_cons21, q_cons22, q_cons23, q_tfin1, q_tfin2, q_tgo1, q_tgo2, q_isCell1, q_isCell2, q_appGo1, q_appGo2, q_extGo1, q_extGo2, q_popFin1, q_popFin2, q_popGo1, q_popGo2, q_newGo1, q_newGo2, q_setFin1, q_setFin2, q_setGo1, q_setGo2, q_chn1, q_chn2, q_compGo1, q_compGo2, q_ckGo1, q_ckGo2, e_var, e_glob, e_lit, e_pr, e_new, e_act0, e_act1, e_and, e_or, e_not, e_ite, e_chain, e_call, e_callk, e_comp, es_nil, es_cons, an_one, an_more, or_one, or_more, e_T, prim_eq, argsD, holds, deref_d, deref_loc, derefs_nil, derefs_cons, dsOf_nil, dsOf_cons, tru_eq, q_truD1, q_truD2, q_truD3, q_truD4, q_truD5, q_truD6, q_truD7, isLst_loc, do_app, do_ext, do_pop, new_eq, set_eq, p_tup, p_lst, p_add, p_sub, p_mul, p_fdiv, p_mod, p_pow, p_lt, p_le, p_gt, p_ge, p_max, p_min, p_eq, p_ne, p_in, p_nin, p_ix, p_slTo, p_slFrom, p_slB, p_neg, p_len, p_int, p_sum, p_all, p_tupL, p_tupT, p_lstL, p_lstT, p_isi, p_isN, p_notN, isin_ch, isin_tup, isin_list, isTy, q_addD1, q_addD2, q_addD3, q_addD4, q_ixD1, q_ixD2, q_ixD3, q_slD1, q_slD2, q_lenD1, q_lenD2, q_lenD3, q_ugo1, q_ugo2, q_sgo1, q_sgo2, q_agoF1, q_agoF2, q_ago1, q_ago2, q_ago3, aug_add, aug_sub, q_fgo1, q_fgo2, s_asg', s_unp', s_par', s_par3', s_setix', s_aug', s_ex', s_ite', s_for', s_while', s_ret', ss_nil', ss_cons', asg_one, asg_many, setMany, pk_d, fin_rt, fin_nx, fin_ex, nx_ok, pick_nil, pick_cons, startR, get_top, set_top, take_top, take_own, take_fd, take_fd2, stq_get, stq_set, stq_len, stq_app, stq_top, stq_take, stq_take2, eqOk_str, eqv_str, eqOk_int, eqv_int, eqOk_bool, eqv_bool, it_seq, it_r1, it_r2, it_el, it_et, it_zip, it_rev, q_seqD1, q_seqD2, q_seqD3, List.map_cons, List.map_nil, List.length_cons, List.length_nil, List.replicate_succ, List.replicate_zero, List.append_nil, List.nil_append, List.cons_append, List.getElem?_cons_zero, List.getElem?_cons_succ, List.getElem?_nil, List.set_cons_zero, List.set_cons_succ, Option.map_some, Option.map_none, if_true, if_false, ite_true, ite_false, reduceIte, Bool.not_true, Bool.not_false, Bool.false_eq_true, decide_true, decide_false, Bool.and_true, Bool.true_and, Bool.and_false, Bool.false_and, b7, looseNode, k, c_kindnode n _ st h, Bool.true_or]
/-! ### trees -/
inductive Tr where
  | leaf (x : PyData)
  | un (a : Tr)
  | bin (a b : Tr)
def sLam : PyData := .str (Str.ofString "lam")
def sApp : PyData := .str (Str.ofString "app")
def sArr : PyData := .str (Str.ofString "arrow")
def encR : Tr → PyData
  | .leaf x => x
  | .un a => .tuple [sLam, encR a]
  | .bin a b => .tuple [sApp, encR a, encR b]
def encK : Tr → PyData
  | .leaf x => x
  | .un a => encK a
  | .bin a b => .tuple [sArr, encK a, encK b]
def Tr.size : Tr → Nat
  | .leaf _ => 1
  | .un a => a.size + 1
  | .bin a b => a.size + b.size + 1
def Tr.tall : Tr → Nat
  | .leaf _ => 1
  | .un a => a.tall + 1
  | .bin a b => max a.tall b.tall + 1
def Tr.all (p : PyData → Bool) : Tr → Bool
  | .leaf x => p x
  | .un a => a.all p
  | .bin a b => a.all p && b.all p
def Tr.flat : Tr → Bool
  | .leaf _ => true
  | .un _ => false
  | .bin a b => a.flat && b.flat
theorem Tr.size_pos : ∀ t : Tr, 0 < t.size
  | .leaf _ => Nat.one_pos
  | .un _ => Nat.succ_pos _
  | .bin _ _ => Nat.succ_pos _
theorem Tr.tall_pos : ∀ t : Tr, 0 < t.tall
  | .leaf _ => Nat.one_pos
  | .un _ => Nat.succ_pos _
  | .bin _ _ => Nat.succ_pos _
/-- a leaf that the walk of raw terms may meet: it can be looked at, and it has no parts if it is well -/
def leafR (x : PyData) : Bool := PyData.canLay0 x && (strFit x && (nodeFit x && (!rawNode x || match x with
  | .tuple (.str w :: _) => !(w == Str.ofString "lam") && !(w == Str.ofString "app")
  | _ => true)))
theorem layR : ∀ {t : Tr}, t.all leafR = true → PyData.canLay0 (encR t) = true
  | .leaf x, h => by
    have h : leafR x = true := h
    unfold leafR at h
    rw [Bool.and_eq_true] at h
    exact h.1
  | .un a, h => by simp [encR, PyData.canLay0, PyData.canLayAll0, sLam, so_lam, layR (t := a) h]
  | .bin a b, h => by
    have h : (a.all leafR && b.all leafR) = true := h
    rw [Bool.and_eq_true] at h
    simp [encR, PyData.canLay0, PyData.canLayAll0, sApp, so_app, layR h.1, layR h.2]
end K60

set_option Elab.async false
set_option linter.all false
set_option maxRecDepth 100000
set_option maxHeartbeats 4000000
namespace K60
open PySem PySem.Spec L2 Mp
theorem sbc (a b : Str) : (a == b) = (b == a) := by
  rw [Bool.eq_iff_iff, beq_iff_eq, beq_iff_eq]
  exact eq_comm
theorem flat_str (w : Str) : flatD (.str w) = true := rfl
def whC : Ss → E
  | .cons _ (.cons (.while_ c _) _) => c
  | _ => .lit .none
def whB : Ss → Ss
  | .cons _ (.cons (.while_ _ b) _) => b
  | _ => .nil
def hasParts (w : Str) : Bool := (w == Str.ofString "lam") || (w == Str.ofString "app")
theorem c_parts (n : Nat) (w : Str) (r : List PyData) (st : Sto) : callF FT (n + 1) 5 [.d (.tuple (.str w :: r))] st = .ok (.d (.tuple (if hasParts w then r else []))) st := by
  rw [cf ft5]
  cases k1 : w == Str.ofString "lam" <;> cases k2 : w == Str.ofString "app" <;>
    simp only [lineOk4, lineOk5, lineOk6, lineOk7, lineOk8, lineOk9, lineOk10, lineOk11, lineOk12, lineOk13, lineOk14, lineOk15, lineOk16, lineOk17, lineOk18, lineOk19, lineOk20, lineOk21, lineOk22, lineOk23, lineOk24, lineOk25, lineOk26, lineOk27, lineOk28, lineOk29, lineOk30, lineOk31, lineOk32, lineOk33, lineOk34, lineOk35, lineOk36, lineOk37, lineOk38, lineOk39, lineOk40, nc0, nc1, nc2, nc3, nc4, lineOk0, lineOk1, lineOk2, lineOk3, Nat.reduceAdd, Nat.reduceSub, Int.reduceLT, Int.reduceLE, Int.reduceBEq, Int.reduceEq, Int.reduceAdd, Int.reduceSub, Int.reduceNeg, atI_0, atI_1, atI_2, atI_3, cut_1, cut_to1, eq_self, Option.bind_some, rb_ok, rb_exc, rb_bad, ro_ok, ro_exc, ro_bad, sq_nx, sq_rt, sq_bk, sq_ct, q_vgo1, q_vgo2, q_vgo3, q_pfin1, q_pfin2, q_pgo1, q_pgo2, q_cellD1, q_cellD2, q_cons21, q_cons22, q_cons23, q_tfin1, q_tfin2, q_tgo1, q_tgo2, q_isCell1, q_isCell2, q_appGo1, q_appGo2, q_extGo1, q_extGo2, q_popFin1, q_popFin2, q_popGo1, q_popGo2, q_newGo1, q_newGo2, q_setFin1, q_setFin2, q_setGo1, q_setGo2, q_chn1, q_chn2, q_compGo1, q_compGo2, q_ckGo1, q_ckGo2, e_var, e_glob, e_lit, e_pr, e_new, e_act0, e_act1, e_and, e_or, e_not, e_ite, e_chain, e_call, e_callk, e_comp, es_nil, es_cons, an_one, an_more, or_one, or_more, e_T, prim_eq, argsD, holds, deref_d, deref_loc, derefs_nil, derefs_cons, dsOf_nil, dsOf_cons, tru_eq, q_truD1, q_truD2, q_truD3, q_truD4, q_truD5, q_truD6, q_truD7, isLst_loc, do_app, do_ext, do_pop, new_eq, set_eq, p_tup, p_lst, p_add, p_sub, p_mul, p_fdiv, p_mod, p_pow, p_lt, p_le, p_gt, p_ge, p_max, p_min, p_eq, p_ne, p_in, p_nin, p_ix, p_slTo, p_slFrom, p_slB, p_neg, p_len, p_int, p_sum, p_all, p_tupL, p_tupT, p_lstL, p_lstT, p_isi, p_isN, p_notN, isin_ch, isin_tup, isin_list, isTy, q_addD1, q_addD2, q_addD3, q_addD4, q_ixD1, q_ixD2, q_ixD3, q_slD1, q_slD2, q_lenD1, q_lenD2, q_lenD3, q_ugo1, q_ugo2, q_sgo1, q_sgo2, q_agoF1, q_agoF2, q_ago1, q_ago2, q_ago3, aug_add, aug_sub, q_fgo1, q_fgo2, s_asg', s_unp', s_par', s_par3', s_setix', s_aug', s_ex', s_ite', s_for', s_while', s_ret', ss_nil', ss_cons', asg_one, asg_many, setMany, pk_d, fin_rt, fin_nx, fin_ex, nx_ok, pick_nil, pick_cons, startR, get_top, set_top, take_top, take_own, take_fd, take_fd2, stq_get, stq_set, stq_len, stq_app, stq_top, stq_take, stq_take2, eqOk_str, eqv_str, eqOk_int, eqv_int, eqOk_bool, eqv_bool, it_seq, it_r1, it_r2, it_el, it_et, it_zip, it_rev, q_seqD1, q_seqD2, q_seqD3, List.map_cons, List.map_nil, List.length_cons, List.length_nil, List.replicate_succ, List.replicate_zero, List.append_nil, List.nil_append, List.cons_append, List.getElem?_cons_zero, List.getElem?_cons_succ, List.getElem?_nil, List.set_cons_zero, List.set_cons_succ, Option.map_some, Option.map_none, if_true, if_false, ite_true, ite_false, reduceIte, Bool.not_true, Bool.not_false, Bool.false_eq_true, decide_true, decide_false, Bool.and_true, Bool.true_and, Bool.and_false, Bool.false_and, b5, hasParts, flat_str, List.all_cons, List.all_nil, inD, List.any_cons, List.any_nil, sbc (Str.ofString "lam"), sbc (Str.ofString "app"), k1, k2, Bool.or_false, Bool.or_true, Bool.true_or, Bool.false_or]
theorem last_of (xs : List PyData) (y : PyData) : (xs ++ [y])[(xs ++ [y]).length - 1]? = some y := by simp
theorem eqNil (xs : List PyData) (h : PyData.canLayAll0 xs = true) : eqOk (.list xs) (.list []) = true := by
  unfold eqOk
  simp [PyData.canLay0, h, PyData.canLayAll0, PyData.depth, PyData.depthAll]
theorem eqvNil (xs : List PyData) : PyData.eqv (.list xs) (.list []) = xs.isEmpty := by
  cases xs <;> simp [PyData.eqv, PyData.eqvAll]
theorem cond6 (n : Nat) (thing a o1 o2 o3 : Option W) (st : Sto) (xs : List PyData) (h : PyData.canLayAll0 xs = true) :
    evT (callF FT n) (whC b6) [thing, some (.loc st.length), a, o1, o2, o3] (st ++ [.lst xs]) = .ok (!xs.isEmpty) (st ++ [.lst xs]) := by
  simp only [lineOk4, lineOk5, lineOk6, lineOk7, lineOk8, lineOk9, lineOk10, lineOk11, lineOk12, lineOk13, lineOk14, lineOk15, lineOk16, lineOk17, lineOk18, lineOk19, lineOk20, lineOk21, lineOk22, lineOk23, lineOk24, lineOk25, lineOk26, lineOk27, lineOk28, lineOk29, lineOk30, lineOk31, lineOk32, lineOk33, lineOk34, lineOk35, lineOk36, lineOk37, lineOk38, lineOk39, lineOk40, nc0, nc1, nc2, nc3, nc4, lineOk0, lineOk1, lineOk2, lineOk3, Nat.reduceAdd, Nat.reduceSub, Int.reduceLT, Int.reduceLE, Int.reduceBEq, Int.reduceEq, Int.reduceAdd, Int.reduceSub, Int.reduceNeg, atI_0, atI_1, atI_2, atI_3, cut_1, cut_to1, eq_self, Option.bind_some, rb_ok, rb_exc, rb_bad, ro_ok, ro_exc, ro_bad, sq_nx, sq_rt, sq_bk, sq_ct, q_vgo1, q_vgo2, q_vgo3, q_pfin1, q_pfin2, q_pgo1, q_pgo2, q_cellD1, q_cellD2, q_cons21, q_cons22, q_cons23, q_tfin1, q_tfin2, q_tgo1, q_tgo2, q_isCell1, q_isCell2, q_appGo1, q_appGo2, q_extGo1, q_extGo2, q_popFin1, q_popFin2, q_popGo1, q_popGo2, q_newGo1, q_newGo2, q_setFin1, q_setFin2, q_setGo1, q_setGo2, q_chn1, q_chn2, q_compGo1, q_compGo2, q_ckGo1, q_ckGo2, e_var, e_glob, e_lit, e_pr, e_new, e_act0, e_act1, e_and, e_or, e_not, e_ite, e_chain, e_call, e_callk, e_comp, es_nil, es_cons, an_one, an_more, or_one, or_more, e_T, prim_eq, argsD, holds, deref_d, deref_loc, derefs_nil, derefs_cons, dsOf_nil, dsOf_cons, tru_eq, q_truD1, q_truD2, q_truD3, q_truD4, q_truD5, q_truD6, q_truD7, isLst_loc, do_app, do_ext, do_pop, new_eq, set_eq, p_tup, p_lst, p_add, p_sub, p_mul, p_fdiv, p_mod, p_pow, p_lt, p_le, p_gt, p_ge, p_max, p_min, p_eq, p_ne, p_in, p_nin, p_ix, p_slTo, p_slFrom, p_slB, p_neg, p_len, p_int, p_sum, p_all, p_tupL, p_tupT, p_lstL, p_lstT, p_isi, p_isN, p_notN, isin_ch, isin_tup, isin_list, isTy, q_addD1, q_addD2, q_addD3, q_addD4, q_ixD1, q_ixD2, q_ixD3, q_slD1, q_slD2, q_lenD1, q_lenD2, q_lenD3, q_ugo1, q_ugo2, q_sgo1, q_sgo2, q_agoF1, q_agoF2, q_ago1, q_ago2, q_ago3, aug_add, aug_sub, q_fgo1, q_fgo2, s_asg', s_unp', s_par', s_par3', s_setix', s_aug', s_ex', s_ite', s_for', s_while', s_ret', ss_nil', ss_cons', asg_one, asg_many, setMany, pk_d, fin_rt, fin_nx, fin_ex, nx_ok, pick_nil, pick_cons, startR, get_top, set_top, take_top, take_own, take_fd, take_fd2, stq_get, stq_set, stq_len, stq_app, stq_top, stq_take, stq_take2, eqOk_str, eqv_str, eqOk_int, eqv_int, eqOk_bool, eqv_bool, it_seq, it_r1, it_r2, it_el, it_et, it_zip, it_rev, q_seqD1, q_seqD2, q_seqD3, List.map_cons, List.map_nil, List.length_cons, List.length_nil, List.replicate_succ, List.replicate_zero, List.append_nil, List.nil_append, List.cons_append, List.getElem?_cons_zero, List.getElem?_cons_succ, List.getElem?_nil, List.set_cons_zero, List.set_cons_succ, Option.map_some, Option.map_none, if_true, if_false, ite_true, ite_false, reduceIte, Bool.not_true, Bool.not_false, Bool.false_eq_true, decide_true, decide_false, Bool.and_true, Bool.true_and, Bool.and_false, Bool.false_and, whC, b6, eqNil xs h, eqvNil]
theorem body6 (n many d : Nat) (thing o1 o2 o3 : Option W) (st : Sto) (xs : List PyData) (x : PyData) (hx : nodeFit x = true) :
    evSs (callF FT (n + 2)) (whB b6) [thing, some (.loc st.length), some (.d (.int many)), o1, o2, o3] (st ++ [.lst (xs ++ [.tuple [x, .int d]])]) =
      if decide (2000 < many + 1) || (decide (60 < d) || !rawNode x) then .rt (.d (.bool false)) (st ++ [.lst xs]) else
        evSs (callF FT (n + 2)) (.cons (.for_ (.one 5) .seq (.cons (.call 5 (.cons (.var 3) .nil)) .nil) (.cons (.ex (.act1 .append (.var 1) (.pr .tup (.cons (.var 5) (.cons (.pr .add (.cons (.var 4) (.cons (.lit (.int 1)) .nil))) .nil))))) .nil)) .nil)
          [thing, some (.loc st.length), some (.d (.int ((many + 1 : Nat) : Int))), some (.d x), some (.d (.int d)), o3] (st ++ [.lst xs]) := by
  have e1 : decide ((2000 : Int) < ((many + 1 : Nat) : Int)) = decide (2000 < many + 1) := decide_eq_decide.mpr (by omega)
  have e2 : decide ((60 : Int) < (d : Int)) = decide (60 < d) := decide_eq_decide.mpr (by omega)
  have e3 : ((many : Int) + 1) = ((many + 1 : Nat) : Int) := by omega
  cases k1 : decide (2000 < many + 1) <;> cases k2 : decide (60 < d) <;> cases k3 : rawNode x <;>
    simp only [lineOk4, lineOk5, lineOk6, lineOk7, lineOk8, lineOk9, lineOk10, lineOk11, lineOk12, lineOk13, lineOk14, lineOk15, lineOk16, lineOk17, lineOk18, lineOk19, lineOk20, lineOk21, lineOk22, lineOk23, lineOk24, lineOk25, lineOk26, lineOk27, lineOk28, lineOk29, lineOk30, lineOk31, lineOk32, lineOk33, lineOk34, lineOk35, lineOk36, lineOk37, lineOk38, lineOk39, lineOk40, nc0, nc1, nc2, nc3, nc4, lineOk0, lineOk1, lineOk2, lineOk3, Nat.reduceAdd, Nat.reduceSub, Int.reduceLT, Int.reduceLE, Int.reduceBEq, Int.reduceEq, Int.reduceAdd, Int.reduceSub, Int.reduceNeg, atI_0, atI_1, atI_2, atI_3, cut_1, cut_to1, eq_self, Option.bind_some, rb_ok, rb_exc, rb_bad, ro_ok, ro_exc, ro_bad, sq_nx, sq_rt, sq_bk, sq_ct, q_vgo1, q_vgo2, q_vgo3, q_pfin1, q_pfin2, q_pgo1, q_pgo2, q_cellD1, q_cellD2, q_cons21, q_cons22, q_cons23, q_tfin1, q_tfin2, q_tgo1, q_tgo2, q_isCell1, q_isCell2, q_appGo1, q_appGo2, q_extGo1, q_extGo2, q_popFin1, q_popFin2, q_popGo1, q_popGo2, q_newGo1, q_newGo2, q_setFin1, q_setFin2, q_setGo1, q_setGo2, q_chn1, q_chn2, q_compGo1, q_compGo2, q_ckGo1, q_ckGo2, e_var, e_glob, e_lit, e_pr, e_new, e_act0, e_act1, e_and, e_or, e_not, e_ite, e_chain, e_call, e_callk, e_comp, es_nil, es_cons, an_one, an_more, or_one, or_more, e_T, prim_eq, argsD, holds, deref_d, deref_loc, derefs_nil, derefs_cons, dsOf_nil, dsOf_cons, tru_eq, q_truD1, q_truD2, q_truD3, q_truD4, q_truD5, q_truD6, q_truD7, isLst_loc, do_app, do_ext, do_pop, new_eq, set_eq, p_tup, p_lst, p_add, p_sub, p_mul, p_fdiv, p_mod, p_pow, p_lt, p_le, p_gt, p_ge, p_max, p_min, p_eq, p_ne, p_in, p_nin, p_ix, p_slTo, p_slFrom, p_slB, p_neg, p_len, p_int, p_sum, p_all, p_tupL, p_tupT, p_lstL, p_lstT, p_isi, p_isN, p_notN, isin_ch, isin_tup, isin_list, isTy, q_addD1, q_addD2, q_addD3, q_addD4, q_ixD1, q_ixD2, q_ixD3, q_slD1, q_slD2, q_lenD1, q_lenD2, q_lenD3, q_ugo1, q_ugo2, q_sgo1, q_sgo2, q_agoF1, q_agoF2, q_ago1, q_ago2, q_ago3, aug_add, aug_sub, q_fgo1, q_fgo2, s_asg', s_unp', s_par', s_par3', s_setix', s_aug', s_ex', s_ite', s_for', s_while', s_ret', ss_nil', ss_cons', asg_one, asg_many, setMany, pk_d, fin_rt, fin_nx, fin_ex, nx_ok, pick_nil, pick_cons, startR, get_top, set_top, take_top, take_own, take_fd, take_fd2, stq_get, stq_set, stq_len, stq_app, stq_top, stq_take, stq_take2, eqOk_str, eqv_str, eqOk_int, eqv_int, eqOk_bool, eqv_bool, it_seq, it_r1, it_r2, it_el, it_et, it_zip, it_rev, q_seqD1, q_seqD2, q_seqD3, List.map_cons, List.map_nil, List.length_cons, List.length_nil, List.replicate_succ, List.replicate_zero, List.append_nil, List.nil_append, List.cons_append, List.getElem?_cons_zero, List.getElem?_cons_succ, List.getElem?_nil, List.set_cons_zero, List.set_cons_succ, Option.map_some, Option.map_none, if_true, if_false, ite_true, ite_false, reduceIte, Bool.not_true, Bool.not_false, Bool.false_eq_true, decide_true, decide_false, Bool.and_true, Bool.true_and, Bool.and_false, Bool.false_and, whB, b6, last_of, List.dropLast_concat, c_rawnode n x _ hx, e1, e2, k1, k2, k3, e3, Bool.or_false, Bool.or_true, Bool.true_or, Bool.false_or]
def item (t : Tr × Nat) : PyData := .tuple [encR t.1, .int t.2]
def stk (L : List (Tr × Nat)) : List PyData := (L.map item).reverse
def total : List (Tr × Nat) → Nat
  | [] => 0
  | p :: r => p.1.size + total r
def chkL (node : PyData → Bool) (M D : Nat) (L : List (Tr × Nat)) (many : Nat) : Bool := decide (many + total L ≤ M) && L.all fun p => p.1.all node && decide (p.2 + p.1.tall ≤ D + 1)
theorem stk_cons (p : Tr × Nat) (L : List (Tr × Nat)) : stk (p :: L) = stk L ++ [.tuple [encR p.1, .int p.2]] := by simp [stk, item]
theorem stk_lay {L : List (Tr × Nat)} (h : ∀ p ∈ L, p.1.all leafR = true) : PyData.canLayAll0 (stk L) = true := by
  induction L with
  | nil => rfl
  | cons p L ih =>
    rw [stk_cons]
    have : ∀ xs : List PyData, PyData.canLayAll0 xs = true → ∀ y, PyData.canLay0 y = true → PyData.canLayAll0 (xs ++ [y]) = true := by
      intro xs
      induction xs with
      | nil => intro _ y hy; simp [PyData.canLayAll0, hy]
      | cons x xs ih2 =>
        intro hx y hy
        rw [PyData.canLayAll0, Bool.and_eq_true] at hx
        rw [List.cons_append, PyData.canLayAll0, hx.1, ih2 hx.2 y hy]
        rfl
    refine this _ (ih fun q hq => h q (by simp [hq])) _ ?_
    simp [PyData.canLay0, PyData.canLayAll0, layR (h p (by simp))]
theorem leafR_all {x : PyData} (h : leafR x = true) : PyData.canLay0 x = true ∧ strFit x = true ∧ nodeFit x = true ∧ (rawNode x = true → ∃ w r, x = .tuple (.str w :: r) ∧ hasParts w = false) := by
  unfold leafR at h
  rw [Bool.and_eq_true, Bool.and_eq_true, Bool.and_eq_true] at h
  obtain ⟨h1, h2, h3, h4⟩ := h
  refine ⟨h1, h2, h3, fun k => ?_⟩
  rw [k, Bool.not_true, Bool.false_or] at h4
  unfold rawNode at k
  split at k
  · rename_i w y r
    refine ⟨w, y :: r, rfl, ?_⟩
    have h4 : (!(w == Str.ofString "lam") && !(w == Str.ofString "app")) = true := h4
    unfold hasParts
    cases k1 : w == Str.ofString "lam" <;> cases k2 : w == Str.ofString "app" <;> rw [k1, k2] at h4 <;> first | rfl | cases h4
  · cases k
theorem strR : ∀ {t : Tr}, t.all leafR = true → strFit (encR t) = true
  | .leaf _, h => (leafR_all h).2.1
  | .un _, _ => rfl
  | .bin _ _, _ => rfl
theorem fitR : ∀ {t : Tr}, t.all leafR = true → nodeFit (encR t) = true
  | .leaf x, h => (leafR_all h).2.2.1
  | .un a, h => by
    show (PyData.strOk (Str.ofString "lam") && strFit (encR a)) = true
    rw [so_lam, Bool.true_and]
    exact strR (t := a) h
  | .bin a b, h => by
    have h : (a.all leafR && b.all leafR) = true := h
    rw [Bool.and_eq_true] at h
    show (PyData.strOk (Str.ofString "app") && strFit (encR a)) = true
    rw [so_app, Bool.true_and]
    exact strR h.1
def tail6 : Ss := .cons (.for_ (.one 5) .seq (.cons (.call 5 (.cons (.var 3) .nil)) .nil) (.cons (.ex (.act1 .append (.var 1) (.pr .tup (.cons (.var 5) (.cons (.pr .add (.cons (.var 4) (.cons (.lit (.int 1)) .nil))) .nil))))) .nil)) .nil
theorem tail_leaf (n d : Nat) (thing m o3 : Option W) (st : Sto) (xs r : List PyData) (w : Str) (h : hasParts w = false) :
    evSs (callF FT (n + 2)) tail6 [thing, some (.loc st.length), m, some (.d (.tuple (.str w :: r))), some (.d (.int d)), o3] (st ++ [.lst xs]) = .nx [thing, some (.loc st.length), m, some (.d (.tuple (.str w :: r))), some (.d (.int d)), o3] (st ++ [.lst xs]) := by
  simp only [lineOk4, lineOk5, lineOk6, lineOk7, lineOk8, lineOk9, lineOk10, lineOk11, lineOk12, lineOk13, lineOk14, lineOk15, lineOk16, lineOk17, lineOk18, lineOk19, lineOk20, lineOk21, lineOk22, lineOk23, lineOk24, lineOk25, lineOk26, lineOk27, lineOk28, lineOk29, lineOk30, lineOk31, lineOk32, lineOk33, lineOk34, lineOk35, lineOk36, lineOk37, lineOk38, lineOk39, lineOk40, nc0, nc1, nc2, nc3, nc4, lineOk0, lineOk1, lineOk2, lineOk3, Nat.reduceAdd, Nat.reduceSub, Int.reduceLT, Int.reduceLE, Int.reduceBEq, Int.reduceEq, Int.reduceAdd, Int.reduceSub, Int.reduceNeg, atI_0, atI_1, atI_2, atI_3, cut_1, cut_to1, eq_self, Option.bind_some, rb_ok, rb_exc, rb_bad, ro_ok, ro_exc, ro_bad, sq_nx, sq_rt, sq_bk, sq_ct, q_vgo1, q_vgo2, q_vgo3, q_pfin1, q_pfin2, q_pgo1, q_pgo2, q_cellD1, q_cellD2, q_cons21, q_cons22, q_cons23, q_tfin1, q_tfin2, q_tgo1, q_tgo2, q_isCell1, q_isCell2, q_appGo1, q_appGo2, q_extGo1, q_extGo2, q_popFin1, q_popFin2, q_popGo1, q_popGo2, q_newGo1, q_newGo2, q_setFin1, q_setFin2, q_setGo1, q_setGo2, q_chn1, q_chn2, q_compGo1, q_compGo2, q_ckGo1, q_ckGo2, e_var, e_glob, e_lit, e_pr, e_new, e_act0, e_act1, e_and, e_or, e_not, e_ite, e_chain, e_call, e_callk, e_comp, es_nil, es_cons, an_one, an_more, or_one, or_more, e_T, prim_eq, argsD, holds, deref_d, deref_loc, derefs_nil, derefs_cons, dsOf_nil, dsOf_cons, tru_eq, q_truD1, q_truD2, q_truD3, q_truD4, q_truD5, q_truD6, q_truD7, isLst_loc, do_app, do_ext, do_pop, new_eq, set_eq, p_tup, p_lst, p_add, p_sub, p_mul, p_fdiv, p_mod, p_pow, p_lt, p_le, p_gt, p_ge, p_max, p_min, p_eq, p_ne, p_in, p_nin, p_ix, p_slTo, p_slFrom, p_slB, p_neg, p_len, p_int, p_sum, p_all, p_tupL, p_tupT, p_lstL, p_lstT, p_isi, p_isN, p_notN, isin_ch, isin_tup, isin_list, isTy, q_addD1, q_addD2, q_addD3, q_addD4, q_ixD1, q_ixD2, q_ixD3, q_slD1, q_slD2, q_lenD1, q_lenD2, q_lenD3, q_ugo1, q_ugo2, q_sgo1, q_sgo2, q_agoF1, q_agoF2, q_ago1, q_ago2, q_ago3, aug_add, aug_sub, q_fgo1, q_fgo2, s_asg', s_unp', s_par', s_par3', s_setix', s_aug', s_ex', s_ite', s_for', s_while', s_ret', ss_nil', ss_cons', asg_one, asg_many, setMany, pk_d, fin_rt, fin_nx, fin_ex, nx_ok, pick_nil, pick_cons, startR, get_top, set_top, take_top, take_own, take_fd, take_fd2, stq_get, stq_set, stq_len, stq_app, stq_top, stq_take, stq_take2, eqOk_str, eqv_str, eqOk_int, eqv_int, eqOk_bool, eqv_bool, it_seq, it_r1, it_r2, it_el, it_et, it_zip, it_rev, q_seqD1, q_seqD2, q_seqD3, List.map_cons, List.map_nil, List.length_cons, List.length_nil, List.replicate_succ, List.replicate_zero, List.append_nil, List.nil_append, List.cons_append, List.getElem?_cons_zero, List.getElem?_cons_succ, List.getElem?_nil, List.set_cons_zero, List.set_cons_succ, Option.map_some, Option.map_none, if_true, if_false, ite_true, ite_false, reduceIte, Bool.not_true, Bool.not_false, Bool.false_eq_true, decide_true, decide_false, Bool.and_true, Bool.true_and, Bool.and_false, Bool.false_and, tail6, c_parts, h, forL_nil]
theorem cast1 (d : Nat) : (d : Int) + 1 = ((d + 1 : Nat) : Int) := by omega
theorem rl : rawNode (.tuple [sLam, sLam]) = true := by decide +kernel
theorem hp_lam : hasParts (Str.ofString "lam") = true := by decide +kernel
theorem hp_app : hasParts (Str.ofString "app") = true := by decide +kernel
theorem tail_un (n d : Nat) (thing m o3 : Option W) (st : Sto) (xs : List PyData) (x : PyData) (h : lineOk (xs.length + 1) = true) :
    evSs (callF FT (n + 2)) tail6 [thing, some (.loc st.length), m, some (.d (.tuple [sLam, x])), some (.d (.int d)), o3] (st ++ [.lst xs]) = .nx [thing, some (.loc st.length), m, some (.d (.tuple [sLam, x])), some (.d (.int d)), some (.d x)] (st ++ [.lst (xs ++ [.tuple [x, .int (d + 1 : Nat)]])]) := by
  simp only [lineOk4, lineOk5, lineOk6, lineOk7, lineOk8, lineOk9, lineOk10, lineOk11, lineOk12, lineOk13, lineOk14, lineOk15, lineOk16, lineOk17, lineOk18, lineOk19, lineOk20, lineOk21, lineOk22, lineOk23, lineOk24, lineOk25, lineOk26, lineOk27, lineOk28, lineOk29, lineOk30, lineOk31, lineOk32, lineOk33, lineOk34, lineOk35, lineOk36, lineOk37, lineOk38, lineOk39, lineOk40, nc0, nc1, nc2, nc3, nc4, lineOk0, lineOk1, lineOk2, lineOk3, Nat.reduceAdd, Nat.reduceSub, Int.reduceLT, Int.reduceLE, Int.reduceBEq, Int.reduceEq, Int.reduceAdd, Int.reduceSub, Int.reduceNeg, atI_0, atI_1, atI_2, atI_3, cut_1, cut_to1, eq_self, Option.bind_some, rb_ok, rb_exc, rb_bad, ro_ok, ro_exc, ro_bad, sq_nx, sq_rt, sq_bk, sq_ct, q_vgo1, q_vgo2, q_vgo3, q_pfin1, q_pfin2, q_pgo1, q_pgo2, q_cellD1, q_cellD2, q_cons21, q_cons22, q_cons23, q_tfin1, q_tfin2, q_tgo1, q_tgo2, q_isCell1, q_isCell2, q_appGo1, q_appGo2, q_extGo1, q_extGo2, q_popFin1, q_popFin2, q_popGo1, q_popGo2, q_newGo1, q_newGo2, q_setFin1, q_setFin2, q_setGo1, q_setGo2, q_chn1, q_chn2, q_compGo1, q_compGo2, q_ckGo1, q_ckGo2, e_var, e_glob, e_lit, e_pr, e_new, e_act0, e_act1, e_and, e_or, e_not, e_ite, e_chain, e_call, e_callk, e_comp, es_nil, es_cons, an_one, an_more, or_one, or_more, e_T, prim_eq, argsD, holds, deref_d, deref_loc, derefs_nil, derefs_cons, dsOf_nil, dsOf_cons, tru_eq, q_truD1, q_truD2, q_truD3, q_truD4, q_truD5, q_truD6, q_truD7, isLst_loc, do_app, do_ext, do_pop, new_eq, set_eq, p_tup, p_lst, p_add, p_sub, p_mul, p_fdiv, p_mod, p_pow, p_lt, p_le, p_gt, p_ge, p_max, p_min, p_eq, p_ne, p_in, p_nin, p_ix, p_slTo, p_slFrom, p_slB, p_neg, p_len, p_int, p_sum, p_all, p_tupL, p_tupT, p_lstL, p_lstT, p_isi, p_isN, p_notN, isin_ch, isin_tup, isin_list, isTy, q_addD1, q_addD2, q_addD3, q_addD4, q_ixD1, q_ixD2, q_ixD3, q_slD1, q_slD2, q_lenD1, q_lenD2, q_lenD3, q_ugo1, q_ugo2, q_sgo1, q_sgo2, q_agoF1, q_agoF2, q_ago1, q_ago2, q_ago3, aug_add, aug_sub, q_fgo1, q_fgo2, s_asg', s_unp', s_par', s_par3', s_setix', s_aug', s_ex', s_ite', s_for', s_while', s_ret', ss_nil', ss_cons', asg_one, asg_many, setMany, pk_d, fin_rt, fin_nx, fin_ex, nx_ok, pick_nil, pick_cons, startR, get_top, set_top, take_top, take_own, take_fd, take_fd2, stq_get, stq_set, stq_len, stq_app, stq_top, stq_take, stq_take2, eqOk_str, eqv_str, eqOk_int, eqv_int, eqOk_bool, eqv_bool, it_seq, it_r1, it_r2, it_el, it_et, it_zip, it_rev, q_seqD1, q_seqD2, q_seqD3, List.map_cons, List.map_nil, List.length_cons, List.length_nil, List.replicate_succ, List.replicate_zero, List.append_nil, List.nil_append, List.cons_append, List.getElem?_cons_zero, List.getElem?_cons_succ, List.getElem?_nil, List.set_cons_zero, List.set_cons_succ, Option.map_some, Option.map_none, if_true, if_false, ite_true, ite_false, reduceIte, Bool.not_true, Bool.not_false, Bool.false_eq_true, decide_true, decide_false, Bool.and_true, Bool.true_and, Bool.and_false, Bool.false_and, tail6, c_parts, hp_lam, sLam, forL_nil, forL_cons, forF_one, q_fstep1, h, cast1]
theorem tail_bin (n d : Nat) (thing m o3 : Option W) (st : Sto) (xs : List PyData) (x y : PyData) (h : lineOk (xs.length + 1) = true) (h' : lineOk (xs.length + 1 + 1) = true) :
    evSs (callF FT (n + 2)) tail6 [thing, some (.loc st.length), m, some (.d (.tuple [sApp, x, y])), some (.d (.int d)), o3] (st ++ [.lst xs]) = .nx [thing, some (.loc st.length), m, some (.d (.tuple [sApp, x, y])), some (.d (.int d)), some (.d y)] (st ++ [.lst (xs ++ [.tuple [x, .int (d + 1 : Nat)]] ++ [.tuple [y, .int (d + 1 : Nat)]])]) := by
  simp only [lineOk4, lineOk5, lineOk6, lineOk7, lineOk8, lineOk9, lineOk10, lineOk11, lineOk12, lineOk13, lineOk14, lineOk15, lineOk16, lineOk17, lineOk18, lineOk19, lineOk20, lineOk21, lineOk22, lineOk23, lineOk24, lineOk25, lineOk26, lineOk27, lineOk28, lineOk29, lineOk30, lineOk31, lineOk32, lineOk33, lineOk34, lineOk35, lineOk36, lineOk37, lineOk38, lineOk39, lineOk40, nc0, nc1, nc2, nc3, nc4, lineOk0, lineOk1, lineOk2, lineOk3, Nat.reduceAdd, Nat.reduceSub, Int.reduceLT, Int.reduceLE, Int.reduceBEq, Int.reduceEq, Int.reduceAdd, Int.reduceSub, Int.reduceNeg, atI_0, atI_1, atI_2, atI_3, cut_1, cut_to1, eq_self, Option.bind_some, rb_ok, rb_exc, rb_bad, ro_ok, ro_exc, ro_bad, sq_nx, sq_rt, sq_bk, sq_ct, q_vgo1, q_vgo2, q_vgo3, q_pfin1, q_pfin2, q_pgo1, q_pgo2, q_cellD1, q_cellD2, q_cons21, q_cons22, q_cons23, q_tfin1, q_tfin2, q_tgo1, q_tgo2, q_isCell1, q_isCell2, q_appGo1, q_appGo2, q_extGo1, q_extGo2, q_popFin1, q_popFin2, q_popGo1, q_popGo2, q_newGo1, q_newGo2, q_setFin1, q_setFin2, q_setGo1, q_setGo2, q_chn1, q_chn2, q_compGo1, q_compGo2, q_ckGo1, q_ckGo2, e_var, e_glob, e_lit, e_pr, e_new, e_act0, e_act1, e_and, e_or, e_not, e_ite, e_chain, e_call, e_callk, e_comp, es_nil, es_cons, an_one, an_more, or_one, or_more, e_T, prim_eq, argsD, holds, deref_d, deref_loc, derefs_nil, derefs_cons, dsOf_nil, dsOf_cons, tru_eq, q_truD1, q_truD2, q_truD3, q_truD4, q_truD5, q_truD6, q_truD7, isLst_loc, do_app, do_ext, do_pop, new_eq, set_eq, p_tup, p_lst, p_add, p_sub, p_mul, p_fdiv, p_mod, p_pow, p_lt, p_le, p_gt, p_ge, p_max, p_min, p_eq, p_ne, p_in, p_nin, p_ix, p_slTo, p_slFrom, p_slB, p_neg, p_len, p_int, p_sum, p_all, p_tupL, p_tupT, p_lstL, p_lstT, p_isi, p_isN, p_notN, isin_ch, isin_tup, isin_list, isTy, q_addD1, q_addD2, q_addD3, q_addD4, q_ixD1, q_ixD2, q_ixD3, q_slD1, q_slD2, q_lenD1, q_lenD2, q_lenD3, q_ugo1, q_ugo2, q_sgo1, q_sgo2, q_agoF1, q_agoF2, q_ago1, q_ago2, q_ago3, aug_add, aug_sub, q_fgo1, q_fgo2, s_asg', s_unp', s_par', s_par3', s_setix', s_aug', s_ex', s_ite', s_for', s_while', s_ret', ss_nil', ss_cons', asg_one, asg_many, setMany, pk_d, fin_rt, fin_nx, fin_ex, nx_ok, pick_nil, pick_cons, startR, get_top, set_top, take_top, take_own, take_fd, take_fd2, stq_get, stq_set, stq_len, stq_app, stq_top, stq_take, stq_take2, eqOk_str, eqv_str, eqOk_int, eqv_int, eqOk_bool, eqv_bool, it_seq, it_r1, it_r2, it_el, it_et, it_zip, it_rev, q_seqD1, q_seqD2, q_seqD3, List.map_cons, List.map_nil, List.length_cons, List.length_nil, List.replicate_succ, List.replicate_zero, List.append_nil, List.nil_append, List.cons_append, List.getElem?_cons_zero, List.getElem?_cons_succ, List.getElem?_nil, List.set_cons_zero, List.set_cons_succ, Option.map_some, Option.map_none, if_true, if_false, ite_true, ite_false, reduceIte, Bool.not_true, Bool.not_false, Bool.false_eq_true, decide_true, decide_false, Bool.and_true, Bool.true_and, Bool.and_false, Bool.false_and, tail6, c_parts, hp_app, sApp, forL_nil, forL_cons, forF_one, q_fstep1, h, h', cast1, List.length_append]
theorem raw_un (x : PyData) : rawNode (.tuple [sLam, x]) = true := by
  have e1 : (Str.ofString "lam" == Str.ofString "var") = false := by decide +kernel
  have e2 : (Str.ofString "lam" == Str.ofString "con") = false := by decide +kernel
  simp [rawNode, sLam, e1, e2]
theorem raw_bin (x y : PyData) : rawNode (.tuple [sApp, x, y]) = true := by
  have e1 : (Str.ofString "app" == Str.ofString "var") = false := by decide +kernel
  have e2 : (Str.ofString "app" == Str.ofString "con") = false := by decide +kernel
  have e3 : (Str.ofString "app" == Str.ofString "lam") = false := by decide +kernel
  simp [rawNode, sApp, e1, e2, e3]
theorem loop6 (n : Nat) (thing : Option W) (st : Sto) : ∀ (fuel : Nat) (L : List (Tr × Nat)) (many : Nat) (o1 o2 o3 : Option W), (∀ p ∈ L, p.1.all leafR = true) → L.length ≤ many + 1 → many ≤ 2000 → 2002 ≤ fuel + many →
    (chkL rawNode 2000 60 L many = true → ∃ ρ, whileL (evT (callF FT (n + 2)) (whC b6)) (evSs (callF FT (n + 2)) (whB b6)) fuel [thing, some (.loc st.length), some (.d (.int many)), o1, o2, o3] (st ++ [.lst (stk L)]) = .nx ρ (st ++ [.lst []])) ∧
    (chkL rawNode 2000 60 L many = false → ∃ xs, whileL (evT (callF FT (n + 2)) (whC b6)) (evSs (callF FT (n + 2)) (whB b6)) fuel [thing, some (.loc st.length), some (.d (.int many)), o1, o2, o3] (st ++ [.lst (stk L)]) = .rt (.d (.bool false)) (st ++ [.lst xs]))
  | 0, L, many, o1, o2, o3, _, _, h3, h4 => by omega
  | fuel + 1, [], many, o1, o2, o3, _, _, h3, _ => by
    rw [wh_step, cond6 _ _ _ _ _ _ _ _ rfl]
    have e : chkL rawNode 2000 60 [] many = true := by
      unfold chkL total
      rw [decide_eq_true (by omega)]
      rfl
    rw [e]
    exact ⟨fun _ => ⟨_, rfl⟩, (fun z => by cases z)⟩
  | fuel + 1, (t, d) :: L, many, o1, o2, o3, hl, h2, h3, h4 => by
    rw [wh_step, cond6 _ _ _ _ _ _ _ _ (stk_lay hl)]
    have ne : (!(stk ((t, d) :: L)).isEmpty) = true := by rw [stk_cons]; simp
    rw [ne]
    have ht := hl _ (List.mem_cons_self)
    have hL : ∀ p ∈ L, p.1.all leafR = true := fun p hp => hl p (List.mem_cons_of_mem _ hp)
    simp only [ro_ok, if_true]
    rw [stk_cons, body6 _ _ _ _ _ _ _ _ _ _ (fitR ht)]
    have sz := t.size_pos
    have tl := t.tall_pos
    rw [List.length_cons] at h2
    by_cases c : (decide (2000 < many + 1) || (decide (60 < d) || !rawNode (encR t))) = true
    · rw [if_pos c]
      have e : chkL rawNode 2000 60 ((t, d) :: L) many = false := by
        rw [Bool.or_eq_true, Bool.or_eq_true] at c
        refine Bool.eq_false_iff.mpr fun z => ?_
        simp only [chkL, List.all_cons, Bool.and_eq_true, decide_eq_true_eq] at z
        simp only [total] at z
        obtain ⟨z1, ⟨z2, z3⟩, _⟩ := z
        rcases c with c | c | c
        · have := of_decide_eq_true c; omega
        · have := of_decide_eq_true c; omega
        · cases t with
          | leaf x =>
            have c : (!rawNode x) = true := c
            have z2 : rawNode x = true := z2
            rw [z2] at c
            cases c
          | un a => rw [encR, raw_un] at c; cases c
          | bin a b => rw [encR, raw_bin] at c; cases c
      rw [e]
      exact ⟨(fun z => by cases z), fun _ => ⟨_, rfl⟩⟩
    · rw [if_neg c]
      simp only [Bool.or_eq_true, decide_eq_true_eq, not_or, Bool.not_eq_true', Bool.not_eq_false] at c
      obtain ⟨c1, c2, c3⟩ := c
      have hlen : (stk L).length ≤ 2001 := by unfold stk; rw [List.length_reverse, List.length_map]; omega
      have lk1 : lineOk ((stk L).length + 1) = true := lineOk_small (by omega)
      have lk2 : lineOk ((stk L).length + 1 + 1) = true := lineOk_small (by omega)
      cases t with
      | leaf x =>
        obtain ⟨w, r, ex, hp⟩ := (leafR_all ht).2.2.2 c3
        have := tail_leaf n d thing (some (.d (.int ((many + 1 : Nat) : Int)))) o3 st (stk L) r w hp
        unfold tail6 at this
        rw [encR, ex, this]
        simp only [q_fstep1]
        have e : chkL rawNode 2000 60 ((.leaf x, d) :: L) many = chkL rawNode 2000 60 L (many + 1) := by
          have c3 : rawNode x = true := c3
          rw [Bool.eq_iff_iff]
          simp only [chkL, List.all_cons, Tr.all, Bool.and_eq_true, decide_eq_true_eq, c3]
          simp only [total, Tr.tall, Tr.size]
          exact ⟨fun ⟨a, ⟨_, _⟩, c⟩ => ⟨by omega, c⟩, fun ⟨a, c⟩ => ⟨by omega, ⟨trivial, by omega⟩, c⟩⟩
        rw [← ex, e]
        exact loop6 n thing st fuel L (many + 1) _ _ _ hL (by omega) (by omega) (by omega)
      | un a =>
        have := tail_un n d thing (some (.d (.int ((many + 1 : Nat) : Int)))) o3 st (stk L) (encR a) lk1
        unfold tail6 at this
        rw [encR, this]
        simp only [q_fstep1]
        have e : chkL rawNode 2000 60 ((.un a, d) :: L) many = chkL rawNode 2000 60 ((a, d + 1) :: L) (many + 1) := by
          rw [Bool.eq_iff_iff]
          simp only [chkL, List.all_cons, Tr.all, Bool.and_eq_true, decide_eq_true_eq]
          simp only [total, Tr.tall, Tr.size]
          exact ⟨fun ⟨a, ⟨b, _⟩, c⟩ => ⟨by omega, ⟨b, by omega⟩, c⟩, fun ⟨a, ⟨b, _⟩, c⟩ => ⟨by omega, ⟨b, by omega⟩, c⟩⟩
        rw [e]
        have := loop6 n thing st fuel ((a, d + 1) :: L) (many + 1) (some (.d (.tuple [sLam, encR a]))) (some (.d (.int d))) (some (.d (encR a))) (fun p hp => by
          rcases List.mem_cons.mp hp with rfl | hp
          · exact ht
          · exact hL p hp) (by rw [List.length_cons]; omega) (by omega) (by omega)
        rw [stk_cons] at this
        exact this
      | bin a b =>
        have ht2 : (a.all leafR && b.all leafR) = true := ht
        rw [Bool.and_eq_true] at ht2
        have := tail_bin n d thing (some (.d (.int ((many + 1 : Nat) : Int)))) o3 st (stk L) (encR a) (encR b) lk1 lk2
        unfold tail6 at this
        rw [encR, this]
        simp only [q_fstep1]
        have e : chkL rawNode 2000 60 ((.bin a b, d) :: L) many = chkL rawNode 2000 60 ((b, d + 1) :: (a, d + 1) :: L) (many + 1) := by
          rw [Bool.eq_iff_iff]
          simp only [chkL, List.all_cons, Tr.all, Bool.and_eq_true, decide_eq_true_eq]
          simp only [total, Tr.tall, Tr.size]
          exact ⟨fun ⟨a, ⟨⟨b1, b2⟩, _⟩, c⟩ => ⟨by omega, ⟨b2, by omega⟩, ⟨b1, by omega⟩, c⟩, fun ⟨a, ⟨b2, _⟩, ⟨b1, _⟩, c⟩ => ⟨by omega, ⟨⟨b1, b2⟩, by omega⟩, c⟩⟩
        rw [e]
        have := loop6 n thing st fuel ((b, d + 1) :: (a, d + 1) :: L) (many + 1) (some (.d (.tuple [sApp, encR a, encR b]))) (some (.d (.int d))) (some (.d (encR b))) (fun p hp => by
          rcases List.mem_cons.mp hp with rfl | hp
          · exact ht2.2
          · rcases List.mem_cons.mp hp with rfl | hp
            · exact ht2.1
            · exact hL p hp) (by rw [List.length_cons, List.length_cons]; omega) (by omega) (by omega)
        rw [stk_cons, stk_cons] at this
        exact this
def okR (t : Tr) : Bool := t.all rawNode && (decide (t.size ≤ 2000) && decide (t.tall ≤ 60))
theorem c_rawform (n : Nat) (t : Tr) (st : Sto) (h : t.all leafR = true) : callF FT (n + 3) 6 [.d (encR t)] st = .ok (.d (.bool (okR t))) st := by
  rw [cf ft6]
  have e : b6 = .cons (.par 1 2 (.new (.cons (.pr .tup (.cons (.var 0) (.cons (.lit (.int 1)) .nil))) .nil)) (.lit (.int 0))) (.cons (.while_ (whC b6) (whB b6)) (.cons (.ret (.lit (.bool true))) .nil)) := rfl
  have e2 : chkL rawNode 2000 60 [(t, 1)] 0 = okR t := by
    rw [Bool.eq_iff_iff]
    simp only [chkL, okR, List.all_cons, List.all_nil, Bool.and_eq_true, decide_eq_true_eq]
    simp only [total]
    exact ⟨fun ⟨a, ⟨b, _⟩, _⟩ => ⟨b, by omega, by omega⟩, fun ⟨b, _, _⟩ => ⟨by omega, ⟨b, by omega⟩, trivial⟩⟩
  have L := loop6 n (some (.d (encR t))) st wFuel [(t, 1)] 0 none none none (fun p hp => by rw [List.mem_singleton] at hp; subst hp; exact h) (by simp) (by omega) (by decide)
  rw [e2] at L
  have es : stk [(t, 1)] = [.tuple [encR t, .int 1]] := rfl
  rw [es] at L
  simp only [nc0] at L
  rw [e]
  cases k : okR t
  · obtain ⟨xs, q⟩ := L.2 k
    simp only [lineOk4, lineOk5, lineOk6, lineOk7, lineOk8, lineOk9, lineOk10, lineOk11, lineOk12, lineOk13, lineOk14, lineOk15, lineOk16, lineOk17, lineOk18, lineOk19, lineOk20, lineOk21, lineOk22, lineOk23, lineOk24, lineOk25, lineOk26, lineOk27, lineOk28, lineOk29, lineOk30, lineOk31, lineOk32, lineOk33, lineOk34, lineOk35, lineOk36, lineOk37, lineOk38, lineOk39, lineOk40, nc0, nc1, nc2, nc3, nc4, lineOk0, lineOk1, lineOk2, lineOk3, Nat.reduceAdd, Nat.reduceSub, Int.reduceLT, Int.reduceLE, Int.reduceBEq, Int.reduceEq, Int.reduceAdd, Int.reduceSub, Int.reduceNeg, atI_0, atI_1, atI_2, atI_3, cut_1, cut_to1, eq_self, Option.bind_some, rb_ok, rb_exc, rb_bad, ro_ok, ro_exc, ro_bad, sq_nx, sq_rt, sq_bk, sq_ct, q_vgo1, q_vgo2, q_vgo3, q_pfin1, q_pfin2, q_pgo1, q_pgo2, q_cellD1, q_cellD2, q_cons21, q_cons22, q_cons23, q_tfin1, q_tfin2, q_tgo1, q_tgo2, q_isCell1, q_isCell2, q_appGo1, q_appGo2, q_extGo1, q_extGo2, q_popFin1, q_popFin2, q_popGo1, q_popGo2, q_newGo1, q_newGo2, q_setFin1, q_setFin2, q_setGo1, q_setGo2, q_chn1, q_chn2, q_compGo1, q_compGo2, q_ckGo1, q_ckGo2, e_var, e_glob, e_lit, e_pr, e_new, e_act0, e_act1, e_and, e_or, e_not, e_ite, e_chain, e_call, e_callk, e_comp, es_nil, es_cons, an_one, an_more, or_one, or_more, e_T, prim_eq, argsD, holds, deref_d, deref_loc, derefs_nil, derefs_cons, dsOf_nil, dsOf_cons, tru_eq, q_truD1, q_truD2, q_truD3, q_truD4, q_truD5, q_truD6, q_truD7, isLst_loc, do_app, do_ext, do_pop, new_eq, set_eq, p_tup, p_lst, p_add, p_sub, p_mul, p_fdiv, p_mod, p_pow, p_lt, p_le, p_gt, p_ge, p_max, p_min, p_eq, p_ne, p_in, p_nin, p_ix, p_slTo, p_slFrom, p_slB, p_neg, p_len, p_int, p_sum, p_all, p_tupL, p_tupT, p_lstL, p_lstT, p_isi, p_isN, p_notN, isin_ch, isin_tup, isin_list, isTy, q_addD1, q_addD2, q_addD3, q_addD4, q_ixD1, q_ixD2, q_ixD3, q_slD1, q_slD2, q_lenD1, q_lenD2, q_lenD3, q_ugo1, q_ugo2, q_sgo1, q_sgo2, q_agoF1, q_agoF2, q_ago1, q_ago2, q_ago3, aug_add, aug_sub, q_fgo1, q_fgo2, s_asg', s_unp', s_par', s_par3', s_setix', s_aug', s_ex', s_ite', s_for', s_while', s_ret', ss_nil', ss_cons', asg_one, asg_many, setMany, pk_d, fin_rt, fin_nx, fin_ex, nx_ok, pick_nil, pick_cons, startR, get_top, set_top, take_top, take_own, take_fd, take_fd2, stq_get, stq_set, stq_len, stq_app, stq_top, stq_take, stq_take2, eqOk_str, eqv_str, eqOk_int, eqv_int, eqOk_bool, eqv_bool, it_seq, it_r1, it_r2, it_el, it_et, it_zip, it_rev, q_seqD1, q_seqD2, q_seqD3, List.map_cons, List.map_nil, List.length_cons, List.length_nil, List.replicate_succ, List.replicate_zero, List.append_nil, List.nil_append, List.cons_append, List.getElem?_cons_zero, List.getElem?_cons_succ, List.getElem?_nil, List.set_cons_zero, List.set_cons_succ, Option.map_some, Option.map_none, if_true, if_false, ite_true, ite_false, reduceIte, Bool.not_true, Bool.not_false, Bool.false_eq_true, decide_true, decide_false, Bool.and_true, Bool.true_and, Bool.and_false, Bool.false_and, q]
  · obtain ⟨ρ, q⟩ := L.1 k
    simp only [lineOk4, lineOk5, lineOk6, lineOk7, lineOk8, lineOk9, lineOk10, lineOk11, lineOk12, lineOk13, lineOk14, lineOk15, lineOk16, lineOk17, lineOk18, lineOk19, lineOk20, lineOk21, lineOk22, lineOk23, lineOk24, lineOk25, lineOk26, lineOk27, lineOk28, lineOk29, lineOk30, lineOk31, lineOk32, lineOk33, lineOk34, lineOk35, lineOk36, lineOk37, lineOk38, lineOk39, lineOk40, nc0, nc1, nc2, nc3, nc4, lineOk0, lineOk1, lineOk2, lineOk3, Nat.reduceAdd, Nat.reduceSub, Int.reduceLT, Int.reduceLE, Int.reduceBEq, Int.reduceEq, Int.reduceAdd, Int.reduceSub, Int.reduceNeg, atI_0, atI_1, atI_2, atI_3, cut_1, cut_to1, eq_self, Option.bind_some, rb_ok, rb_exc, rb_bad, ro_ok, ro_exc, ro_bad, sq_nx, sq_rt, sq_bk, sq_ct, q_vgo1, q_vgo2, q_vgo3, q_pfin1, q_pfin2, q_pgo1, q_pgo2, q_cellD1, q_cellD2, q_cons21, q_cons22, q_cons23, q_tfin1, q_tfin2, q_tgo1, q_tgo2, q_isCell1, q_isCell2, q_appGo1, q_appGo2, q_extGo1, q_extGo2, q_popFin1, q_popFin2, q_popGo1, q_popGo2, q_newGo1, q_newGo2, q_setFin1, q_setFin2, q_setGo1, q_setGo2, q_chn1, q_chn2, q_compGo1, q_compGo2, q_ckGo1, q_ckGo2, e_var, e_glob, e_lit, e_pr, e_new, e_act0, e_act1, e_and, e_or, e_not, e_ite, e_chain, e_call, e_callk, e_comp, es_nil, es_cons, an_one, an_more, or_one, or_more, e_T, prim_eq, argsD, holds, deref_d, deref_loc, derefs_nil, derefs_cons, dsOf_nil, dsOf_cons, tru_eq, q_truD1, q_truD2, q_truD3, q_truD4, q_truD5, q_truD6, q_truD7, isLst_loc, do_app, do_ext, do_pop, new_eq, set_eq, p_tup, p_lst, p_add, p_sub, p_mul, p_fdiv, p_mod, p_pow, p_lt, p_le, p_gt, p_ge, p_max, p_min, p_eq, p_ne, p_in, p_nin, p_ix, p_slTo, p_slFrom, p_slB, p_neg, p_len, p_int, p_sum, p_all, p_tupL, p_tupT, p_lstL, p_lstT, p_isi, p_isN, p_notN, isin_ch, isin_tup, isin_list, isTy, q_addD1, q_addD2, q_addD3, q_addD4, q_ixD1, q_ixD2, q_ixD3, q_slD1, q_slD2, q_lenD1, q_lenD2, q_lenD3, q_ugo1, q_ugo2, q_sgo1, q_sgo2, q_agoF1, q_agoF2, q_ago1, q_ago2, q_ago3, aug_add, aug_sub, q_fgo1, q_fgo2, s_asg', s_unp', s_par', s_par3', s_setix', s_aug', s_ex', s_ite', s_for', s_while', s_ret', ss_nil', ss_cons', asg_one, asg_many, setMany, pk_d, fin_rt, fin_nx, fin_ex, nx_ok, pick_nil, pick_cons, startR, get_top, set_top, take_top, take_own, take_fd, take_fd2, stq_get, stq_set, stq_len, stq_app, stq_top, stq_take, stq_take2, eqOk_str, eqv_str, eqOk_int, eqv_int, eqOk_bool, eqv_bool, it_seq, it_r1, it_r2, it_el, it_et, it_zip, it_rev, q_seqD1, q_seqD2, q_seqD3, List.map_cons, List.map_nil, List.length_cons, List.length_nil, List.replicate_succ, List.replicate_zero, List.append_nil, List.nil_append, List.cons_append, List.getElem?_cons_zero, List.getElem?_cons_succ, List.getElem?_nil, List.set_cons_zero, List.set_cons_succ, Option.map_some, Option.map_none, if_true, if_false, ite_true, ite_false, reduceIte, Bool.not_true, Bool.not_false, Bool.false_eq_true, decide_true, decide_false, Bool.and_true, Bool.true_and, Bool.and_false, Bool.false_and, q]
theorem c_raw (n : Nat) (t : Tr) (st : Sto) (h : t.all leafR = true) : callF FT (n + 4) 9 [.d (encR t)] st = .ok (.d (.bool (okR t))) st := by
  rw [cf ft9]
  simp only [lineOk4, lineOk5, lineOk6, lineOk7, lineOk8, lineOk9, lineOk10, lineOk11, lineOk12, lineOk13, lineOk14, lineOk15, lineOk16, lineOk17, lineOk18, lineOk19, lineOk20, lineOk21, lineOk22, lineOk23, lineOk24, lineOk25, lineOk26, lineOk27, lineOk28, lineOk29, lineOk30, lineOk31, lineOk32, lineOk33, lineOk34, lineOk35, lineOk36, lineOk37, lineOk38, lineOk39, lineOk40, nc0, nc1, nc2, nc3, nc4, lineOk0, lineOk1, lineOk2, lineOk3, Nat.reduceAdd, Nat.reduceSub, Int.reduceLT, Int.reduceLE, Int.reduceBEq, Int.reduceEq, Int.reduceAdd, Int.reduceSub, Int.reduceNeg, atI_0, atI_1, atI_2, atI_3, cut_1, cut_to1, eq_self, Option.bind_some, rb_ok, rb_exc, rb_bad, ro_ok, ro_exc, ro_bad, sq_nx, sq_rt, sq_bk, sq_ct, q_vgo1, q_vgo2, q_vgo3, q_pfin1, q_pfin2, q_pgo1, q_pgo2, q_cellD1, q_cellD2, q_cons21, q_cons22, q_cons23, q_tfin1, q_tfin2, q_tgo1, q_tgo2, q_isCell1, q_isCell2, q_appGo1, q_appGo2, q_extGo1, q_extGo2, q_popFin1, q_popFin2, q_popGo1, q_popGo2, q_newGo1, q_newGo2, q_setFin1, q_setFin2, q_setGo1, q_setGo2, q_chn1, q_chn2, q_compGo1, q_compGo2, q_ckGo1, q_ckGo2, e_var, e_glob, e_lit, e_pr, e_new, e_act0, e_act1, e_and, e_or, e_not, e_ite, e_chain, e_call, e_callk, e_comp, es_nil, es_cons, an_one, an_more, or_one, or_more, e_T, prim_eq, argsD, holds, deref_d, deref_loc, derefs_nil, derefs_cons, dsOf_nil, dsOf_cons, tru_eq, q_truD1, q_truD2, q_truD3, q_truD4, q_truD5, q_truD6, q_truD7, isLst_loc, do_app, do_ext, do_pop, new_eq, set_eq, p_tup, p_lst, p_add, p_sub, p_mul, p_fdiv, p_mod, p_pow, p_lt, p_le, p_gt, p_ge, p_max, p_min, p_eq, p_ne, p_in, p_nin, p_ix, p_slTo, p_slFrom, p_slB, p_neg, p_len, p_int, p_sum, p_all, p_tupL, p_tupT, p_lstL, p_lstT, p_isi, p_isN, p_notN, isin_ch, isin_tup, isin_list, isTy, q_addD1, q_addD2, q_addD3, q_addD4, q_ixD1, q_ixD2, q_ixD3, q_slD1, q_slD2, q_lenD1, q_lenD2, q_lenD3, q_ugo1, q_ugo2, q_sgo1, q_sgo2, q_agoF1, q_agoF2, q_ago1, q_ago2, q_ago3, aug_add, aug_sub, q_fgo1, q_fgo2, s_asg', s_unp', s_par', s_par3', s_setix', s_aug', s_ex', s_ite', s_for', s_while', s_ret', ss_nil', ss_cons', asg_one, asg_many, setMany, pk_d, fin_rt, fin_nx, fin_ex, nx_ok, pick_nil, pick_cons, startR, get_top, set_top, take_top, take_own, take_fd, take_fd2, stq_get, stq_set, stq_len, stq_app, stq_top, stq_take, stq_take2, eqOk_str, eqv_str, eqOk_int, eqv_int, eqOk_bool, eqv_bool, it_seq, it_r1, it_r2, it_el, it_et, it_zip, it_rev, q_seqD1, q_seqD2, q_seqD3, List.map_cons, List.map_nil, List.length_cons, List.length_nil, List.replicate_succ, List.replicate_zero, List.append_nil, List.nil_append, List.cons_append, List.getElem?_cons_zero, List.getElem?_cons_succ, List.getElem?_nil, List.set_cons_zero, List.set_cons_succ, Option.map_some, Option.map_none, if_true, if_false, ite_true, ite_false, reduceIte, Bool.not_true, Bool.not_false, Bool.false_eq_true, decide_true, decide_false, Bool.and_true, Bool.true_and, Bool.and_false, Bool.false_and, b9, c_rawform n t st h]
end K60

set_option Elab.async false
set_option linter.all false
set_option maxRecDepth 100000
set_option maxHeartbeats 4000000
namespace K60
open PySem PySem.Spec L2 Mp
def leafK (x : PyData) : Bool := PyData.canLay0 x && (strFit x && (nodeFit x && (headFit x && (!looseNode x || match x with
  | .tuple (.str w :: _) => !(w == Str.ofString "arrow")
  | _ => true))))
theorem leafK_all {x : PyData} (h : leafK x = true) : PyData.canLay0 x = true ∧ strFit x = true ∧ nodeFit x = true ∧ headFit x = true ∧ (looseNode x = true → ∃ w r, x = .tuple (.str w :: r) ∧ PyData.strOk w = true ∧ (w == Str.ofString "arrow") = false) := by
  unfold leafK at h
  rw [Bool.and_eq_true, Bool.and_eq_true, Bool.and_eq_true, Bool.and_eq_true] at h
  obtain ⟨h1, h2, h3, h5, h4⟩ := h
  refine ⟨h1, h2, h3, h5, fun k => ?_⟩
  rw [k, Bool.not_true, Bool.false_or] at h4
  have : ∃ w r, x = .tuple (.str w :: r) := by
    unfold looseNode kindNode at k
    split at k
    · exact ⟨_, _, rfl⟩
    · cases k
  obtain ⟨w, r, rfl⟩ := this
  refine ⟨w, r, rfl, ?_, by simpa using h4⟩
  have : (PyData.strOk w && PyData.canLayAll0 r) = true := by simpa [PyData.canLay0, PyData.canLayAll0] using h1
  rw [Bool.and_eq_true] at this
  exact this.1
theorem layK : ∀ {t : Tr}, t.all leafK = true → PyData.canLay0 (encK t) = true
  | .leaf x, h => (leafK_all h).1
  | .un a, h => layK (t := a) h
  | .bin a b, h => by
    have h : (a.all leafK && b.all leafK) = true := h
    rw [Bool.and_eq_true] at h
    simp [encK, PyData.canLay0, PyData.canLayAll0, sArr, so_arrow, layK h.1, layK h.2]
theorem strK : ∀ {t : Tr}, t.all leafK = true → strFit (encK t) = true
  | .leaf _, h => (leafK_all h).2.1
  | .un a, h => strK (t := a) h
  | .bin _ _, _ => rfl
theorem fitK : ∀ {t : Tr}, t.all leafK = true → nodeFit (encK t) = true
  | .leaf x, h => (leafK_all h).2.2.1
  | .un a, h => fitK (t := a) h
  | .bin a b, h => by
    have h : (a.all leafK && b.all leafK) = true := h
    rw [Bool.and_eq_true] at h
    show (PyData.strOk (Str.ofString "arrow") && strFit (encK a)) = true
    rw [so_arrow, Bool.true_and]
    exact strK h.1
theorem hdK : ∀ {t : Tr}, t.all leafK = true → headFit (encK t) = true
  | .leaf x, h => (leafK_all h).2.2.2.1
  | .un a, h => hdK (t := a) h
  | .bin a b, h => by
    show PyData.strOk (Str.ofString "arrow") = true
    exact so_arrow
def itemK (t : Tr × Nat) : PyData := .tuple [encK t.1, .int t.2]
def stkK (L : List (Tr × Nat)) : List PyData := (L.map itemK).reverse
theorem stkK_cons (p : Tr × Nat) (L : List (Tr × Nat)) : stkK (p :: L) = stkK L ++ [.tuple [encK p.1, .int p.2]] := by simp [stkK, itemK]
theorem stkK_lay {L : List (Tr × Nat)} (h : ∀ p ∈ L, p.1.all leafK = true) : PyData.canLayAll0 (stkK L) = true := by
  induction L with
  | nil => rfl
  | cons p L ih =>
    rw [stkK_cons]
    have : ∀ xs : List PyData, PyData.canLayAll0 xs = true → ∀ y, PyData.canLay0 y = true → PyData.canLayAll0 (xs ++ [y]) = true := by
      intro xs
      induction xs with
      | nil => intro _ y hy; simp [PyData.canLayAll0, hy]
      | cons x xs ih2 =>
        intro hx y hy
        rw [PyData.canLayAll0, Bool.and_eq_true] at hx
        rw [List.cons_append, PyData.canLayAll0, hx.1, ih2 hx.2 y hy]
        rfl
    refine this _ (ih fun q hq => h q (by simp [hq])) _ ?_
    simp [PyData.canLay0, PyData.canLayAll0, layK (h p (by simp))]
theorem kind_bin (x y : PyData) : kindNode (.tuple [sArr, x, y]) = true := by
  have e1 : (Str.ofString "arrow" == Str.ofString "base") = false := by decide +kernel
  simp [kindNode, sArr, e1]
theorem loose_bin (x y : PyData) : looseNode (.tuple [sArr, x, y]) = true := by
  unfold looseNode
  rw [kind_bin, Bool.true_or]
theorem arr_self : (Str.ofString "arrow" == Str.ofString "arrow") = true := by decide +kernel
theorem kind_loose {x : PyData} (h : kindNode x = true) : looseNode x = true := by
  unfold looseNode
  rw [h, Bool.true_or]
theorem cond3 (n : Nat) (thing a o1 o2 : Option W) (st : Sto) (xs : List PyData) (h : PyData.canLayAll0 xs = true) :
    evT (callF FT n) (whC b3) [thing, some (.loc st.length), a, o1, o2] (st ++ [.lst xs]) = .ok (!xs.isEmpty) (st ++ [.lst xs]) := by
  simp only [lineOk4, lineOk5, lineOk6, lineOk7, lineOk8, lineOk9, lineOk10, lineOk11, lineOk12, lineOk13, lineOk14, lineOk15, lineOk16, lineOk17, lineOk18, lineOk19, lineOk20, lineOk21, lineOk22, lineOk23, lineOk24, lineOk25, lineOk26, lineOk27, lineOk28, lineOk29, lineOk30, lineOk31, lineOk32, lineOk33, lineOk34, lineOk35, lineOk36, lineOk37, lineOk38, lineOk39, lineOk40, nc0, nc1, nc2, nc3, nc4, lineOk0, lineOk1, lineOk2, lineOk3, Nat.reduceAdd, Nat.reduceSub, Int.reduceLT, Int.reduceLE, Int.reduceBEq, Int.reduceEq, Int.reduceAdd, Int.reduceSub, Int.reduceNeg, atI_0, atI_1, atI_2, atI_3, cut_1, cut_to1, eq_self, Option.bind_some, rb_ok, rb_exc, rb_bad, ro_ok, ro_exc, ro_bad, sq_nx, sq_rt, sq_bk, sq_ct, q_vgo1, q_vgo2, q_vgo3, q_pfin1, q_pfin2, q_pgo1, q_pgo2, q_cellD1, q_cellD2, q_cons21, q_cons22, q_cons23, q_tfin1, q_tfin2, q_tgo1, q_tgo2, q_isCell1, q_isCell2, q_appGo1, q_appGo2, q_extGo1, q_extGo2, q_popFin1, q_popFin2, q_popGo1, q_popGo2, q_newGo1, q_newGo2, q_setFin1, q_setFin2, q_setGo1, q_setGo2, q_chn1, q_chn2, q_compGo1, q_compGo2, q_ckGo1, q_ckGo2, e_var, e_glob, e_lit, e_pr, e_new, e_act0, e_act1, e_and, e_or, e_not, e_ite, e_chain, e_call, e_callk, e_comp, es_nil, es_cons, an_one, an_more, or_one, or_more, e_T, prim_eq, argsD, holds, deref_d, deref_loc, derefs_nil, derefs_cons, dsOf_nil, dsOf_cons, tru_eq, q_truD1, q_truD2, q_truD3, q_truD4, q_truD5, q_truD6, q_truD7, isLst_loc, do_app, do_ext, do_pop, new_eq, set_eq, p_tup, p_lst, p_add, p_sub, p_mul, p_fdiv, p_mod, p_pow, p_lt, p_le, p_gt, p_ge, p_max, p_min, p_eq, p_ne, p_in, p_nin, p_ix, p_slTo, p_slFrom, p_slB, p_neg, p_len, p_int, p_sum, p_all, p_tupL, p_tupT, p_lstL, p_lstT, p_isi, p_isN, p_notN, isin_ch, isin_tup, isin_list, isTy, q_addD1, q_addD2, q_addD3, q_addD4, q_ixD1, q_ixD2, q_ixD3, q_slD1, q_slD2, q_lenD1, q_lenD2, q_lenD3, q_ugo1, q_ugo2, q_sgo1, q_sgo2, q_agoF1, q_agoF2, q_ago1, q_ago2, q_ago3, aug_add, aug_sub, q_fgo1, q_fgo2, s_asg', s_unp', s_par', s_par3', s_setix', s_aug', s_ex', s_ite', s_for', s_while', s_ret', ss_nil', ss_cons', asg_one, asg_many, setMany, pk_d, fin_rt, fin_nx, fin_ex, nx_ok, pick_nil, pick_cons, startR, get_top, set_top, take_top, take_own, take_fd, take_fd2, stq_get, stq_set, stq_len, stq_app, stq_top, stq_take, stq_take2, eqOk_str, eqv_str, eqOk_int, eqv_int, eqOk_bool, eqv_bool, it_seq, it_r1, it_r2, it_el, it_et, it_zip, it_rev, q_seqD1, q_seqD2, q_seqD3, List.map_cons, List.map_nil, List.length_cons, List.length_nil, List.replicate_succ, List.replicate_zero, List.append_nil, List.nil_append, List.cons_append, List.getElem?_cons_zero, List.getElem?_cons_succ, List.getElem?_nil, List.set_cons_zero, List.set_cons_succ, Option.map_some, Option.map_none, if_true, if_false, ite_true, ite_false, reduceIte, Bool.not_true, Bool.not_false, Bool.false_eq_true, decide_true, decide_false, Bool.and_true, Bool.true_and, Bool.and_false, Bool.false_and, whC, b3, eqNil xs h, eqvNil]
def tail3 : Ss := .cons (.ite (.pr .eq (.cons (.pr .ix (.cons (.var 3) (.cons (.lit (.int 0)) .nil))) (.cons (.lit (.str "arrow")) .nil))) (.cons (.ex (.act1 .extend (.var 1) (.pr .lst (.cons (.pr .tup (.cons (.pr .ix (.cons (.var 3) (.cons (.lit (.int 2)) .nil))) (.cons (.pr .add (.cons (.var 4) (.cons (.lit (.int 1)) .nil))) .nil))) (.cons (.pr .tup (.cons (.pr .ix (.cons (.var 3) (.cons (.lit (.int 1)) .nil))) (.cons (.pr .add (.cons (.var 4) (.cons (.lit (.int 1)) .nil))) .nil))) .nil)))))
    .nil) .nil) .nil
theorem body3 (n many d : Nat) (thing o1 o2 : Option W) (st : Sto) (xs : List PyData) (x : PyData) (hx : nodeFit x = true) (hy : headFit x = true) :
    evSs (callF FT (n + 3)) (whB b3) [thing, some (.loc st.length), some (.d (.int many)), o1, o2] (st ++ [.lst (xs ++ [.tuple [x, .int d]])]) =
      if decide (200 < many + 1) || (decide (20 < d) || !kindNode x) then .rt (.d (.bool false)) (st ++ [.lst xs]) else
        evSs (callF FT (n + 3)) tail3 [thing, some (.loc st.length), some (.d (.int ((many + 1 : Nat) : Int))), some (.d x), some (.d (.int d))] (st ++ [.lst xs]) := by
  have e1 : decide ((200 : Int) < ((many + 1 : Nat) : Int)) = decide (200 < many + 1) := decide_eq_decide.mpr (by omega)
  have e2 : decide ((20 : Int) < (d : Int)) = decide (20 < d) := decide_eq_decide.mpr (by omega)
  have e3 : ((many : Int) + 1) = ((many + 1 : Nat) : Int) := by omega
  cases k1 : decide (200 < many + 1) <;> cases k2 : decide (20 < d) <;> cases k3 : kindNode x <;>
    simp only [lineOk4, lineOk5, lineOk6, lineOk7, lineOk8, lineOk9, lineOk10, lineOk11, lineOk12, lineOk13, lineOk14, lineOk15, lineOk16, lineOk17, lineOk18, lineOk19, lineOk20, lineOk21, lineOk22, lineOk23, lineOk24, lineOk25, lineOk26, lineOk27, lineOk28, lineOk29, lineOk30, lineOk31, lineOk32, lineOk33, lineOk34, lineOk35, lineOk36, lineOk37, lineOk38, lineOk39, lineOk40, nc0, nc1, nc2, nc3, nc4, lineOk0, lineOk1, lineOk2, lineOk3, Nat.reduceAdd, Nat.reduceSub, Int.reduceLT, Int.reduceLE, Int.reduceBEq, Int.reduceEq, Int.reduceAdd, Int.reduceSub, Int.reduceNeg, atI_0, atI_1, atI_2, atI_3, cut_1, cut_to1, eq_self, Option.bind_some, rb_ok, rb_exc, rb_bad, ro_ok, ro_exc, ro_bad, sq_nx, sq_rt, sq_bk, sq_ct, q_vgo1, q_vgo2, q_vgo3, q_pfin1, q_pfin2, q_pgo1, q_pgo2, q_cellD1, q_cellD2, q_cons21, q_cons22, q_cons23, q_tfin1, q_tfin2, q_tgo1, q_tgo2, q_isCell1, q_isCell2, q_appGo1, q_appGo2, q_extGo1, q_extGo2, q_popFin1, q_popFin2, q_popGo1, q_popGo2, q_newGo1, q_newGo2, q_setFin1, q_setFin2, q_setGo1, q_setGo2, q_chn1, q_chn2, q_compGo1, q_compGo2, q_ckGo1, q_ckGo2, e_var, e_glob, e_lit, e_pr, e_new, e_act0, e_act1, e_and, e_or, e_not, e_ite, e_chain, e_call, e_callk, e_comp, es_nil, es_cons, an_one, an_more, or_one, or_more, e_T, prim_eq, argsD, holds, deref_d, deref_loc, derefs_nil, derefs_cons, dsOf_nil, dsOf_cons, tru_eq, q_truD1, q_truD2, q_truD3, q_truD4, q_truD5, q_truD6, q_truD7, isLst_loc, do_app, do_ext, do_pop, new_eq, set_eq, p_tup, p_lst, p_add, p_sub, p_mul, p_fdiv, p_mod, p_pow, p_lt, p_le, p_gt, p_ge, p_max, p_min, p_eq, p_ne, p_in, p_nin, p_ix, p_slTo, p_slFrom, p_slB, p_neg, p_len, p_int, p_sum, p_all, p_tupL, p_tupT, p_lstL, p_lstT, p_isi, p_isN, p_notN, isin_ch, isin_tup, isin_list, isTy, q_addD1, q_addD2, q_addD3, q_addD4, q_ixD1, q_ixD2, q_ixD3, q_slD1, q_slD2, q_lenD1, q_lenD2, q_lenD3, q_ugo1, q_ugo2, q_sgo1, q_sgo2, q_agoF1, q_agoF2, q_ago1, q_ago2, q_ago3, aug_add, aug_sub, q_fgo1, q_fgo2, s_asg', s_unp', s_par', s_par3', s_setix', s_aug', s_ex', s_ite', s_for', s_while', s_ret', ss_nil', ss_cons', asg_one, asg_many, setMany, pk_d, fin_rt, fin_nx, fin_ex, nx_ok, pick_nil, pick_cons, startR, get_top, set_top, take_top, take_own, take_fd, take_fd2, stq_get, stq_set, stq_len, stq_app, stq_top, stq_take, stq_take2, eqOk_str, eqv_str, eqOk_int, eqv_int, eqOk_bool, eqv_bool, it_seq, it_r1, it_r2, it_el, it_et, it_zip, it_rev, q_seqD1, q_seqD2, q_seqD3, List.map_cons, List.map_nil, List.length_cons, List.length_nil, List.replicate_succ, List.replicate_zero, List.append_nil, List.nil_append, List.cons_append, List.getElem?_cons_zero, List.getElem?_cons_succ, List.getElem?_nil, List.set_cons_zero, List.set_cons_succ, Option.map_some, Option.map_none, if_true, if_false, ite_true, ite_false, reduceIte, Bool.not_true, Bool.not_false, Bool.false_eq_true, decide_true, decide_false, Bool.and_true, Bool.true_and, Bool.and_false, Bool.false_and, whB, b3, tail3, last_of, List.dropLast_concat, c_kindnode (n + 1) x _ hx, e1, e2, k1, k2, k3, e3, Bool.or_false, Bool.or_true, Bool.true_or, Bool.false_or]
theorem tail_leaf3 (n d : Nat) (thing m : Option W) (st : Sto) (xs r : List PyData) (w : Str) (h : PyData.strOk w = true) (h' : (w == Str.ofString "arrow") = false) :
    evSs (callF FT (n + 3)) tail3 [thing, some (.loc st.length), m, some (.d (.tuple (.str w :: r))), some (.d (.int d))] (st ++ [.lst xs]) = .nx [thing, some (.loc st.length), m, some (.d (.tuple (.str w :: r))), some (.d (.int d))] (st ++ [.lst xs]) := by
  simp only [lineOk4, lineOk5, lineOk6, lineOk7, lineOk8, lineOk9, lineOk10, lineOk11, lineOk12, lineOk13, lineOk14, lineOk15, lineOk16, lineOk17, lineOk18, lineOk19, lineOk20, lineOk21, lineOk22, lineOk23, lineOk24, lineOk25, lineOk26, lineOk27, lineOk28, lineOk29, lineOk30, lineOk31, lineOk32, lineOk33, lineOk34, lineOk35, lineOk36, lineOk37, lineOk38, lineOk39, lineOk40, nc0, nc1, nc2, nc3, nc4, lineOk0, lineOk1, lineOk2, lineOk3, Nat.reduceAdd, Nat.reduceSub, Int.reduceLT, Int.reduceLE, Int.reduceBEq, Int.reduceEq, Int.reduceAdd, Int.reduceSub, Int.reduceNeg, atI_0, atI_1, atI_2, atI_3, cut_1, cut_to1, eq_self, Option.bind_some, rb_ok, rb_exc, rb_bad, ro_ok, ro_exc, ro_bad, sq_nx, sq_rt, sq_bk, sq_ct, q_vgo1, q_vgo2, q_vgo3, q_pfin1, q_pfin2, q_pgo1, q_pgo2, q_cellD1, q_cellD2, q_cons21, q_cons22, q_cons23, q_tfin1, q_tfin2, q_tgo1, q_tgo2, q_isCell1, q_isCell2, q_appGo1, q_appGo2, q_extGo1, q_extGo2, q_popFin1, q_popFin2, q_popGo1, q_popGo2, q_newGo1, q_newGo2, q_setFin1, q_setFin2, q_setGo1, q_setGo2, q_chn1, q_chn2, q_compGo1, q_compGo2, q_ckGo1, q_ckGo2, e_var, e_glob, e_lit, e_pr, e_new, e_act0, e_act1, e_and, e_or, e_not, e_ite, e_chain, e_call, e_callk, e_comp, es_nil, es_cons, an_one, an_more, or_one, or_more, e_T, prim_eq, argsD, holds, deref_d, deref_loc, derefs_nil, derefs_cons, dsOf_nil, dsOf_cons, tru_eq, q_truD1, q_truD2, q_truD3, q_truD4, q_truD5, q_truD6, q_truD7, isLst_loc, do_app, do_ext, do_pop, new_eq, set_eq, p_tup, p_lst, p_add, p_sub, p_mul, p_fdiv, p_mod, p_pow, p_lt, p_le, p_gt, p_ge, p_max, p_min, p_eq, p_ne, p_in, p_nin, p_ix, p_slTo, p_slFrom, p_slB, p_neg, p_len, p_int, p_sum, p_all, p_tupL, p_tupT, p_lstL, p_lstT, p_isi, p_isN, p_notN, isin_ch, isin_tup, isin_list, isTy, q_addD1, q_addD2, q_addD3, q_addD4, q_ixD1, q_ixD2, q_ixD3, q_slD1, q_slD2, q_lenD1, q_lenD2, q_lenD3, q_ugo1, q_ugo2, q_sgo1, q_sgo2, q_agoF1, q_agoF2, q_ago1, q_ago2, q_ago3, aug_add, aug_sub, q_fgo1, q_fgo2, s_asg', s_unp', s_par', s_par3', s_setix', s_aug', s_ex', s_ite', s_for', s_while', s_ret', ss_nil', ss_cons', asg_one, asg_many, setMany, pk_d, fin_rt, fin_nx, fin_ex, nx_ok, pick_nil, pick_cons, startR, get_top, set_top, take_top, take_own, take_fd, take_fd2, stq_get, stq_set, stq_len, stq_app, stq_top, stq_take, stq_take2, eqOk_str, eqv_str, eqOk_int, eqv_int, eqOk_bool, eqv_bool, it_seq, it_r1, it_r2, it_el, it_et, it_zip, it_rev, q_seqD1, q_seqD2, q_seqD3, List.map_cons, List.map_nil, List.length_cons, List.length_nil, List.replicate_succ, List.replicate_zero, List.append_nil, List.nil_append, List.cons_append, List.getElem?_cons_zero, List.getElem?_cons_succ, List.getElem?_nil, List.set_cons_zero, List.set_cons_succ, Option.map_some, Option.map_none, if_true, if_false, ite_true, ite_false, reduceIte, Bool.not_true, Bool.not_false, Bool.false_eq_true, decide_true, decide_false, Bool.and_true, Bool.true_and, Bool.and_false, Bool.false_and, tail3, h, h', so_arrow]
theorem tail_bin3 (n d : Nat) (thing m : Option W) (st : Sto) (xs : List PyData) (x y : PyData) (h' : lineOk (xs.length + 2) = true) :
    evSs (callF FT (n + 3)) tail3 [thing, some (.loc st.length), m, some (.d (.tuple [sArr, x, y])), some (.d (.int d))] (st ++ [.lst xs]) = .nx [thing, some (.loc st.length), m, some (.d (.tuple [sArr, x, y])), some (.d (.int d))] (st ++ [.lst (xs ++ [.tuple [y, .int (d + 1 : Nat)], .tuple [x, .int (d + 1 : Nat)]])]) := by
  simp only [lineOk4, lineOk5, lineOk6, lineOk7, lineOk8, lineOk9, lineOk10, lineOk11, lineOk12, lineOk13, lineOk14, lineOk15, lineOk16, lineOk17, lineOk18, lineOk19, lineOk20, lineOk21, lineOk22, lineOk23, lineOk24, lineOk25, lineOk26, lineOk27, lineOk28, lineOk29, lineOk30, lineOk31, lineOk32, lineOk33, lineOk34, lineOk35, lineOk36, lineOk37, lineOk38, lineOk39, lineOk40, nc0, nc1, nc2, nc3, nc4, lineOk0, lineOk1, lineOk2, lineOk3, Nat.reduceAdd, Nat.reduceSub, Int.reduceLT, Int.reduceLE, Int.reduceBEq, Int.reduceEq, Int.reduceAdd, Int.reduceSub, Int.reduceNeg, atI_0, atI_1, atI_2, atI_3, cut_1, cut_to1, eq_self, Option.bind_some, rb_ok, rb_exc, rb_bad, ro_ok, ro_exc, ro_bad, sq_nx, sq_rt, sq_bk, sq_ct, q_vgo1, q_vgo2, q_vgo3, q_pfin1, q_pfin2, q_pgo1, q_pgo2, q_cellD1, q_cellD2, q_cons21, q_cons22, q_cons23, q_tfin1, q_tfin2, q_tgo1, q_tgo2, q_isCell1, q_isCell2, q_appGo1, q_appGo2, q_extGo1, q_extGo2, q_popFin1, q_popFin2, q_popGo1, q_popGo2, q_newGo1, q_newGo2, q_setFin1, q_setFin2, q_setGo1, q_setGo2, q_chn1, q_chn2, q_compGo1, q_compGo2, q_ckGo1, q_ckGo2, e_var, e_glob, e_lit, e_pr, e_new, e_act0, e_act1, e_and, e_or, e_not, e_ite, e_chain, e_call, e_callk, e_comp, es_nil, es_cons, an_one, an_more, or_one, or_more, e_T, prim_eq, argsD, holds, deref_d, deref_loc, derefs_nil, derefs_cons, dsOf_nil, dsOf_cons, tru_eq, q_truD1, q_truD2, q_truD3, q_truD4, q_truD5, q_truD6, q_truD7, isLst_loc, do_app, do_ext, do_pop, new_eq, set_eq, p_tup, p_lst, p_add, p_sub, p_mul, p_fdiv, p_mod, p_pow, p_lt, p_le, p_gt, p_ge, p_max, p_min, p_eq, p_ne, p_in, p_nin, p_ix, p_slTo, p_slFrom, p_slB, p_neg, p_len, p_int, p_sum, p_all, p_tupL, p_tupT, p_lstL, p_lstT, p_isi, p_isN, p_notN, isin_ch, isin_tup, isin_list, isTy, q_addD1, q_addD2, q_addD3, q_addD4, q_ixD1, q_ixD2, q_ixD3, q_slD1, q_slD2, q_lenD1, q_lenD2, q_lenD3, q_ugo1, q_ugo2, q_sgo1, q_sgo2, q_agoF1, q_agoF2, q_ago1, q_ago2, q_ago3, aug_add, aug_sub, q_fgo1, q_fgo2, s_asg', s_unp', s_par', s_par3', s_setix', s_aug', s_ex', s_ite', s_for', s_while', s_ret', ss_nil', ss_cons', asg_one, asg_many, setMany, pk_d, fin_rt, fin_nx, fin_ex, nx_ok, pick_nil, pick_cons, startR, get_top, set_top, take_top, take_own, take_fd, take_fd2, stq_get, stq_set, stq_len, stq_app, stq_top, stq_take, stq_take2, eqOk_str, eqv_str, eqOk_int, eqv_int, eqOk_bool, eqv_bool, it_seq, it_r1, it_r2, it_el, it_et, it_zip, it_rev, q_seqD1, q_seqD2, q_seqD3, List.map_cons, List.map_nil, List.length_cons, List.length_nil, List.replicate_succ, List.replicate_zero, List.append_nil, List.nil_append, List.cons_append, List.getElem?_cons_zero, List.getElem?_cons_succ, List.getElem?_nil, List.set_cons_zero, List.set_cons_succ, Option.map_some, Option.map_none, if_true, if_false, ite_true, ite_false, reduceIte, Bool.not_true, Bool.not_false, Bool.false_eq_true, decide_true, decide_false, Bool.and_true, Bool.true_and, Bool.and_false, Bool.false_and, tail3, sArr, so_arrow, arr_self, h', cast1]
theorem loop3 (n : Nat) (thing : Option W) (st : Sto) : ∀ (fuel : Nat) (L : List (Tr × Nat)) (many : Nat) (o1 o2 : Option W), (∀ p ∈ L, p.1.all leafK = true ∧ p.1.flat = true) → L.length ≤ many + 1 → many ≤ 200 → 202 ≤ fuel + many →
    (chkL kindNode 200 20 L many = true → ∃ ρ, whileL (evT (callF FT (n + 3)) (whC b3)) (evSs (callF FT (n + 3)) (whB b3)) fuel [thing, some (.loc st.length), some (.d (.int many)), o1, o2] (st ++ [.lst (stkK L)]) = .nx ρ (st ++ [.lst []])) ∧
    (chkL kindNode 200 20 L many = false → ∃ xs, whileL (evT (callF FT (n + 3)) (whC b3)) (evSs (callF FT (n + 3)) (whB b3)) fuel [thing, some (.loc st.length), some (.d (.int many)), o1, o2] (st ++ [.lst (stkK L)]) = .rt (.d (.bool false)) (st ++ [.lst xs]))
  | 0, L, many, o1, o2, _, _, h3, h4 => by omega
  | fuel + 1, [], many, o1, o2, _, _, h3, _ => by
    rw [wh_step, cond3 _ _ _ _ _ _ _ rfl]
    have e : chkL kindNode 200 20 [] many = true := by
      unfold chkL total
      rw [decide_eq_true (by omega)]
      rfl
    rw [e]
    exact ⟨fun _ => ⟨_, rfl⟩, (fun z => by cases z)⟩
  | fuel + 1, (t, d) :: L, many, o1, o2, hl, h2, h3, h4 => by
    rw [wh_step, cond3 _ _ _ _ _ _ _ (stkK_lay fun p hp => (hl p hp).1)]
    have ne : (!(stkK ((t, d) :: L)).isEmpty) = true := by rw [stkK_cons]; simp
    rw [ne]
    obtain ⟨ht, hf⟩ := hl _ (List.mem_cons_self)
    have hL : ∀ p ∈ L, p.1.all leafK = true ∧ p.1.flat = true := fun p hp => hl p (List.mem_cons_of_mem _ hp)
    simp only [ro_ok, if_true]
    rw [stkK_cons, body3 _ _ _ _ _ _ _ _ _ (fitK ht) (hdK ht)]
    have sz := t.size_pos
    have tl := t.tall_pos
    rw [List.length_cons] at h2
    by_cases c : (decide (200 < many + 1) || (decide (20 < d) || !kindNode (encK t))) = true
    · rw [if_pos c]
      have e : chkL kindNode 200 20 ((t, d) :: L) many = false := by
        rw [Bool.or_eq_true, Bool.or_eq_true] at c
        refine Bool.eq_false_iff.mpr fun z => ?_
        simp only [chkL, List.all_cons, Bool.and_eq_true, decide_eq_true_eq] at z
        simp only [total] at z
        obtain ⟨z1, ⟨z2, z3⟩, _⟩ := z
        rcases c with c | c | c
        · have := of_decide_eq_true c; omega
        · have := of_decide_eq_true c; omega
        · cases t with
          | leaf x =>
            have c : (!kindNode x) = true := c
            have z2 : kindNode x = true := z2
            rw [z2] at c
            cases c
          | un a => cases hf
          | bin a b => rw [encK, kind_bin] at c; cases c
      rw [e]
      exact ⟨(fun z => by cases z), fun _ => ⟨_, rfl⟩⟩
    · rw [if_neg c]
      simp only [Bool.or_eq_true, decide_eq_true_eq, not_or, Bool.not_eq_true', Bool.not_eq_false] at c
      obtain ⟨c1, c2, c3⟩ := c
      have hlen : (stkK L).length ≤ 201 := by unfold stkK; rw [List.length_reverse, List.length_map]; omega
      have lk2 : lineOk ((stkK L).length + 2) = true := lineOk_small (by omega)
      cases t with
      | leaf x =>
        obtain ⟨w, r, ex, hp, hp2⟩ := (leafK_all ht).2.2.2.2 (kind_loose c3)
        rw [encK, ex, tail_leaf3 n d thing _ st (stkK L) r w hp hp2]
        simp only [q_fstep1]
        have e : chkL kindNode 200 20 ((.leaf x, d) :: L) many = chkL kindNode 200 20 L (many + 1) := by
          have c3 : kindNode x = true := c3
          rw [Bool.eq_iff_iff]
          simp only [chkL, List.all_cons, Tr.all, Bool.and_eq_true, decide_eq_true_eq, c3]
          simp only [total, Tr.tall, Tr.size]
          exact ⟨fun ⟨a, ⟨_, _⟩, c⟩ => ⟨by omega, c⟩, fun ⟨a, c⟩ => ⟨by omega, ⟨trivial, by omega⟩, c⟩⟩
        rw [← ex, e]
        exact loop3 n thing st fuel L (many + 1) _ _ hL (by omega) (by omega) (by omega)
      | un a => cases hf
      | bin a b =>
        have ht2 : (a.all leafK && b.all leafK) = true := ht
        rw [Bool.and_eq_true] at ht2
        have hf2 : (a.flat && b.flat) = true := hf
        rw [Bool.and_eq_true] at hf2
        rw [encK, tail_bin3 n d thing _ st (stkK L) (encK a) (encK b) lk2]
        simp only [q_fstep1]
        have e : chkL kindNode 200 20 ((.bin a b, d) :: L) many = chkL kindNode 200 20 ((a, d + 1) :: (b, d + 1) :: L) (many + 1) := by
          rw [Bool.eq_iff_iff]
          simp only [chkL, List.all_cons, Tr.all, Bool.and_eq_true, decide_eq_true_eq]
          simp only [total, Tr.tall, Tr.size]
          exact ⟨fun ⟨a, ⟨⟨b1, b2⟩, _⟩, c⟩ => ⟨by omega, ⟨b1, by omega⟩, ⟨b2, by omega⟩, c⟩, fun ⟨a, ⟨b1, _⟩, ⟨b2, _⟩, c⟩ => ⟨by omega, ⟨⟨b1, b2⟩, by omega⟩, c⟩⟩
        rw [e]
        have := loop3 n thing st fuel ((a, d + 1) :: (b, d + 1) :: L) (many + 1) (some (.d (.tuple [sArr, encK a, encK b]))) (some (.d (.int d))) (fun p hp => by
          rcases List.mem_cons.mp hp with rfl | hp
          · exact ⟨ht2.1, hf2.1⟩
          · rcases List.mem_cons.mp hp with rfl | hp
            · exact ⟨ht2.2, hf2.2⟩
            · exact hL p hp) (by rw [List.length_cons, List.length_cons]; omega) (by omega) (by omega)
        rw [stkK_cons, stkK_cons, List.append_assoc] at this
        exact this
def okK (t : Tr) : Bool := t.all kindNode && (decide (t.size ≤ 200) && decide (t.tall ≤ 20))
theorem c_form3 (n : Nat) (t : Tr) (st : Sto) (h : t.all leafK = true) (hf : t.flat = true) : callF FT (n + 4) 3 [.d (encK t)] st = .ok (.d (.bool (okK t))) st := by
  rw [cf ft3]
  have e : b3 = .cons (.par 1 2 (.new (.cons (.pr .tup (.cons (.var 0) (.cons (.lit (.int 1)) .nil))) .nil)) (.lit (.int 0))) (.cons (.while_ (whC b3) (whB b3)) (.cons (.ret (.lit (.bool true))) .nil)) := rfl
  have e2 : chkL kindNode 200 20 [(t, 1)] 0 = okK t := by
    rw [Bool.eq_iff_iff]
    simp only [chkL, okK, List.all_cons, List.all_nil, Bool.and_eq_true, decide_eq_true_eq]
    simp only [total]
    exact ⟨fun ⟨a, ⟨b, _⟩, _⟩ => ⟨b, by omega, by omega⟩, fun ⟨b, _, _⟩ => ⟨by omega, ⟨b, by omega⟩, trivial⟩⟩
  have L := loop3 n (some (.d (encK t))) st wFuel [(t, 1)] 0 none none (fun p hp => by rw [List.mem_singleton] at hp; subst hp; exact ⟨h, hf⟩) (by simp) (by omega) (by decide)
  rw [e2] at L
  have es : stkK [(t, 1)] = [.tuple [encK t, .int 1]] := rfl
  rw [es] at L
  simp only [nc0] at L
  rw [e]
  cases k : okK t
  · obtain ⟨xs, q⟩ := L.2 k
    simp only [lineOk4, lineOk5, lineOk6, lineOk7, lineOk8, lineOk9, lineOk10, lineOk11, lineOk12, lineOk13, lineOk14, lineOk15, lineOk16, lineOk17, lineOk18, lineOk19, lineOk20, lineOk21, lineOk22, lineOk23, lineOk24, lineOk25, lineOk26, lineOk27, lineOk28, lineOk29, lineOk30, lineOk31, lineOk32, lineOk33, lineOk34, lineOk35, lineOk36, lineOk37, lineOk38, lineOk39, lineOk40, nc0, nc1, nc2, nc3, nc4, lineOk0, lineOk1, lineOk2, lineOk3, Nat.reduceAdd, Nat.reduceSub, Int.reduceLT, Int.reduceLE, Int.reduceBEq, Int.reduceEq, Int.reduceAdd, Int.reduceSub, Int.reduceNeg, atI_0, atI_1, atI_2, atI_3, cut_1, cut_to1, eq_self, Option.bind_some, rb_ok, rb_exc, rb_bad, ro_ok, ro_exc, ro_bad, sq_nx, sq_rt, sq_bk, sq_ct, q_vgo1, q_vgo2, q_vgo3, q_pfin1, q_pfin2, q_pgo1, q_pgo2, q_cellD1, q_cellD2, q_cons21, q_cons22, q_cons23, q_tfin1, q_tfin2, q_tgo1, q_tgo2, q_isCell1, q_isCell2, q_appGo1, q_appGo2, q_extGo1, q_extGo2, q_popFin1, q_popFin2, q_popGo1, q_popGo2, q_newGo1, q_newGo2, q_setFin1, q_setFin2, q_setGo1, q_setGo2, q_chn1, q_chn2, q_compGo1, q_compGo2, q_ckGo1, q_ckGo2, e_var, e_glob, e_lit, e_pr, e_new, e_act0, e_act1, e_and, e_or, e_not, e_ite, e_chain, e_call, e_callk, e_comp, es_nil, es_cons, an_one, an_more, or_one, or_more, e_T, prim_eq, argsD, holds, deref_d, deref_loc, derefs_nil, derefs_cons, dsOf_nil, dsOf_cons, tru_eq, q_truD1, q_truD2, q_truD3, q_truD4, q_truD5, q_truD6, q_truD7, isLst_loc, do_app, do_ext, do_pop, new_eq, set_eq, p_tup, p_lst, p_add, p_sub, p_mul, p_fdiv, p_mod, p_pow, p_lt, p_le, p_gt, p_ge, p_max, p_min, p_eq, p_ne, p_in, p_nin, p_ix, p_slTo, p_slFrom, p_slB, p_neg, p_len, p_int, p_sum, p_all, p_tupL, p_tupT, p_lstL, p_lstT, p_isi, p_isN, p_notN, isin_ch, isin_tup, isin_list, isTy, q_addD1, q_addD2, q_addD3, q_addD4, q_ixD1, q_ixD2, q_ixD3, q_slD1, q_slD2, q_lenD1, q_lenD2, q_lenD3, q_ugo1, q_ugo2, q_sgo1, q_sgo2, q_agoF1, q_agoF2, q_ago1, q_ago2, q_ago3, aug_add, aug_sub, q_fgo1, q_fgo2, s_asg', s_unp', s_par', s_par3', s_setix', s_aug', s_ex', s_ite', s_for', s_while', s_ret', ss_nil', ss_cons', asg_one, asg_many, setMany, pk_d, fin_rt, fin_nx, fin_ex, nx_ok, pick_nil, pick_cons, startR, get_top, set_top, take_top, take_own, take_fd, take_fd2, stq_get, stq_set, stq_len, stq_app, stq_top, stq_take, stq_take2, eqOk_str, eqv_str, eqOk_int, eqv_int, eqOk_bool, eqv_bool, it_seq, it_r1, it_r2, it_el, it_et, it_zip, it_rev, q_seqD1, q_seqD2, q_seqD3, List.map_cons, List.map_nil, List.length_cons, List.length_nil, List.replicate_succ, List.replicate_zero, List.append_nil, List.nil_append, List.cons_append, List.getElem?_cons_zero, List.getElem?_cons_succ, List.getElem?_nil, List.set_cons_zero, List.set_cons_succ, Option.map_some, Option.map_none, if_true, if_false, ite_true, ite_false, reduceIte, Bool.not_true, Bool.not_false, Bool.false_eq_true, decide_true, decide_false, Bool.and_true, Bool.true_and, Bool.and_false, Bool.false_and, q]
  · obtain ⟨ρ, q⟩ := L.1 k
    simp only [lineOk4, lineOk5, lineOk6, lineOk7, lineOk8, lineOk9, lineOk10, lineOk11, lineOk12, lineOk13, lineOk14, lineOk15, lineOk16, lineOk17, lineOk18, lineOk19, lineOk20, lineOk21, lineOk22, lineOk23, lineOk24, lineOk25, lineOk26, lineOk27, lineOk28, lineOk29, lineOk30, lineOk31, lineOk32, lineOk33, lineOk34, lineOk35, lineOk36, lineOk37, lineOk38, lineOk39, lineOk40, nc0, nc1, nc2, nc3, nc4, lineOk0, lineOk1, lineOk2, lineOk3, Nat.reduceAdd, Nat.reduceSub, Int.reduceLT, Int.reduceLE, Int.reduceBEq, Int.reduceEq, Int.reduceAdd, Int.reduceSub, Int.reduceNeg, atI_0, atI_1, atI_2, atI_3, cut_1, cut_to1, eq_self, Option.bind_some, rb_ok, rb_exc, rb_bad, ro_ok, ro_exc, ro_bad, sq_nx, sq_rt, sq_bk, sq_ct, q_vgo1, q_vgo2, q_vgo3, q_pfin1, q_pfin2, q_pgo1, q_pgo2, q_cellD1, q_cellD2, q_cons21, q_cons22, q_cons23, q_tfin1, q_tfin2, q_tgo1, q_tgo2, q_isCell1, q_isCell2, q_appGo1, q_appGo2, q_extGo1, q_extGo2, q_popFin1, q_popFin2, q_popGo1, q_popGo2, q_newGo1, q_newGo2, q_setFin1, q_setFin2, q_setGo1, q_setGo2, q_chn1, q_chn2, q_compGo1, q_compGo2, q_ckGo1, q_ckGo2, e_var, e_glob, e_lit, e_pr, e_new, e_act0, e_act1, e_and, e_or, e_not, e_ite, e_chain, e_call, e_callk, e_comp, es_nil, es_cons, an_one, an_more, or_one, or_more, e_T, prim_eq, argsD, holds, deref_d, deref_loc, derefs_nil, derefs_cons, dsOf_nil, dsOf_cons, tru_eq, q_truD1, q_truD2, q_truD3, q_truD4, q_truD5, q_truD6, q_truD7, isLst_loc, do_app, do_ext, do_pop, new_eq, set_eq, p_tup, p_lst, p_add, p_sub, p_mul, p_fdiv, p_mod, p_pow, p_lt, p_le, p_gt, p_ge, p_max, p_min, p_eq, p_ne, p_in, p_nin, p_ix, p_slTo, p_slFrom, p_slB, p_neg, p_len, p_int, p_sum, p_all, p_tupL, p_tupT, p_lstL, p_lstT, p_isi, p_isN, p_notN, isin_ch, isin_tup, isin_list, isTy, q_addD1, q_addD2, q_addD3, q_addD4, q_ixD1, q_ixD2, q_ixD3, q_slD1, q_slD2, q_lenD1, q_lenD2, q_lenD3, q_ugo1, q_ugo2, q_sgo1, q_sgo2, q_agoF1, q_agoF2, q_ago1, q_ago2, q_ago3, aug_add, aug_sub, q_fgo1, q_fgo2, s_asg', s_unp', s_par', s_par3', s_setix', s_aug', s_ex', s_ite', s_for', s_while', s_ret', ss_nil', ss_cons', asg_one, asg_many, setMany, pk_d, fin_rt, fin_nx, fin_ex, nx_ok, pick_nil, pick_cons, startR, get_top, set_top, take_top, take_own, take_fd, take_fd2, stq_get, stq_set, stq_len, stq_app, stq_top, stq_take, stq_take2, eqOk_str, eqv_str, eqOk_int, eqv_int, eqOk_bool, eqv_bool, it_seq, it_r1, it_r2, it_el, it_et, it_zip, it_rev, q_seqD1, q_seqD2, q_seqD3, List.map_cons, List.map_nil, List.length_cons, List.length_nil, List.replicate_succ, List.replicate_zero, List.append_nil, List.nil_append, List.cons_append, List.getElem?_cons_zero, List.getElem?_cons_succ, List.getElem?_nil, List.set_cons_zero, List.set_cons_succ, Option.map_some, Option.map_none, if_true, if_false, ite_true, ite_false, reduceIte, Bool.not_true, Bool.not_false, Bool.false_eq_true, decide_true, decide_false, Bool.and_true, Bool.true_and, Bool.and_false, Bool.false_and, q]
theorem cond8 (n : Nat) (thing a o1 o2 : Option W) (st : Sto) (xs : List PyData) (h : PyData.canLayAll0 xs = true) :
    evT (callF FT n) (whC b8) [thing, some (.loc st.length), a, o1, o2] (st ++ [.lst xs]) = .ok (!xs.isEmpty) (st ++ [.lst xs]) := by
  simp only [lineOk4, lineOk5, lineOk6, lineOk7, lineOk8, lineOk9, lineOk10, lineOk11, lineOk12, lineOk13, lineOk14, lineOk15, lineOk16, lineOk17, lineOk18, lineOk19, lineOk20, lineOk21, lineOk22, lineOk23, lineOk24, lineOk25, lineOk26, lineOk27, lineOk28, lineOk29, lineOk30, lineOk31, lineOk32, lineOk33, lineOk34, lineOk35, lineOk36, lineOk37, lineOk38, lineOk39, lineOk40, nc0, nc1, nc2, nc3, nc4, lineOk0, lineOk1, lineOk2, lineOk3, Nat.reduceAdd, Nat.reduceSub, Int.reduceLT, Int.reduceLE, Int.reduceBEq, Int.reduceEq, Int.reduceAdd, Int.reduceSub, Int.reduceNeg, atI_0, atI_1, atI_2, atI_3, cut_1, cut_to1, eq_self, Option.bind_some, rb_ok, rb_exc, rb_bad, ro_ok, ro_exc, ro_bad, sq_nx, sq_rt, sq_bk, sq_ct, q_vgo1, q_vgo2, q_vgo3, q_pfin1, q_pfin2, q_pgo1, q_pgo2, q_cellD1, q_cellD2, q_cons21, q_cons22, q_cons23, q_tfin1, q_tfin2, q_tgo1, q_tgo2, q_isCell1, q_isCell2, q_appGo1, q_appGo2, q_extGo1, q_extGo2, q_popFin1, q_popFin2, q_popGo1, q_popGo2, q_newGo1, q_newGo2, q_setFin1, q_setFin2, q_setGo1, q_setGo2, q_chn1, q_chn2, q_compGo1, q_compGo2, q_ckGo1, q_ckGo2, e_var, e_glob, e_lit, e_pr, e_new, e_act0, e_act1, e_and, e_or, e_not, e_ite, e_chain, e_call, e_callk, e_comp, es_nil, es_cons, an_one, an_more, or_one, or_more, e_T, prim_eq, argsD, holds, deref_d, deref_loc, derefs_nil, derefs_cons, dsOf_nil, dsOf_cons, tru_eq, q_truD1, q_truD2, q_truD3, q_truD4, q_truD5, q_truD6, q_truD7, isLst_loc, do_app, do_ext, do_pop, new_eq, set_eq, p_tup, p_lst, p_add, p_sub, p_mul, p_fdiv, p_mod, p_pow, p_lt, p_le, p_gt, p_ge, p_max, p_min, p_eq, p_ne, p_in, p_nin, p_ix, p_slTo, p_slFrom, p_slB, p_neg, p_len, p_int, p_sum, p_all, p_tupL, p_tupT, p_lstL, p_lstT, p_isi, p_isN, p_notN, isin_ch, isin_tup, isin_list, isTy, q_addD1, q_addD2, q_addD3, q_addD4, q_ixD1, q_ixD2, q_ixD3, q_slD1, q_slD2, q_lenD1, q_lenD2, q_lenD3, q_ugo1, q_ugo2, q_sgo1, q_sgo2, q_agoF1, q_agoF2, q_ago1, q_ago2, q_ago3, aug_add, aug_sub, q_fgo1, q_fgo2, s_asg', s_unp', s_par', s_par3', s_setix', s_aug', s_ex', s_ite', s_for', s_while', s_ret', ss_nil', ss_cons', asg_one, asg_many, setMany, pk_d, fin_rt, fin_nx, fin_ex, nx_ok, pick_nil, pick_cons, startR, get_top, set_top, take_top, take_own, take_fd, take_fd2, stq_get, stq_set, stq_len, stq_app, stq_top, stq_take, stq_take2, eqOk_str, eqv_str, eqOk_int, eqv_int, eqOk_bool, eqv_bool, it_seq, it_r1, it_r2, it_el, it_et, it_zip, it_rev, q_seqD1, q_seqD2, q_seqD3, List.map_cons, List.map_nil, List.length_cons, List.length_nil, List.replicate_succ, List.replicate_zero, List.append_nil, List.nil_append, List.cons_append, List.getElem?_cons_zero, List.getElem?_cons_succ, List.getElem?_nil, List.set_cons_zero, List.set_cons_succ, Option.map_some, Option.map_none, if_true, if_false, ite_true, ite_false, reduceIte, Bool.not_true, Bool.not_false, Bool.false_eq_true, decide_true, decide_false, Bool.and_true, Bool.true_and, Bool.and_false, Bool.false_and, whC, b8, eqNil xs h, eqvNil]
def tail8 : Ss := .cons (.ite (.pr .eq (.cons (.pr .ix (.cons (.var 3) (.cons (.lit (.int 0)) .nil))) (.cons (.lit (.str "arrow")) .nil))) (.cons (.ex (.act1 .extend (.var 1) (.pr .lst (.cons (.pr .tup (.cons (.pr .ix (.cons (.var 3) (.cons (.lit (.int 2)) .nil))) (.cons (.pr .add (.cons (.var 4) (.cons (.lit (.int 1)) .nil))) .nil))) (.cons (.pr .tup (.cons (.pr .ix (.cons (.var 3) (.cons (.lit (.int 1)) .nil))) (.cons (.pr .add (.cons (.var 4) (.cons (.lit (.int 1)) .nil))) .nil))) .nil)))))
    .nil) .nil) .nil
theorem body8 (n many d : Nat) (thing o1 o2 : Option W) (st : Sto) (xs : List PyData) (x : PyData) (hx : nodeFit x = true) (hy : headFit x = true) :
    evSs (callF FT (n + 3)) (whB b8) [thing, some (.loc st.length), some (.d (.int many)), o1, o2] (st ++ [.lst (xs ++ [.tuple [x, .int d]])]) =
      if decide (200 < many + 1) || (decide (20 < d) || !looseNode x) then .rt (.d (.bool false)) (st ++ [.lst xs]) else
        evSs (callF FT (n + 3)) tail8 [thing, some (.loc st.length), some (.d (.int ((many + 1 : Nat) : Int))), some (.d x), some (.d (.int d))] (st ++ [.lst xs]) := by
  have e1 : decide ((200 : Int) < ((many + 1 : Nat) : Int)) = decide (200 < many + 1) := decide_eq_decide.mpr (by omega)
  have e2 : decide ((20 : Int) < (d : Int)) = decide (20 < d) := decide_eq_decide.mpr (by omega)
  have e3 : ((many : Int) + 1) = ((many + 1 : Nat) : Int) := by omega
  cases k1 : decide (200 < many + 1) <;> cases k2 : decide (20 < d) <;> cases k3 : looseNode x <;>
    simp only [lineOk4, lineOk5, lineOk6, lineOk7, lineOk8, lineOk9, lineOk10, lineOk11, lineOk12, lineOk13, lineOk14, lineOk15, lineOk16, lineOk17, lineOk18, lineOk19, lineOk20, lineOk21, lineOk22, lineOk23, lineOk24, lineOk25, lineOk26, lineOk27, lineOk28, lineOk29, lineOk30, lineOk31, lineOk32, lineOk33, lineOk34, lineOk35, lineOk36, lineOk37, lineOk38, lineOk39, lineOk40, nc0, nc1, nc2, nc3, nc4, lineOk0, lineOk1, lineOk2, lineOk3, Nat.reduceAdd, Nat.reduceSub, Int.reduceLT, Int.reduceLE, Int.reduceBEq, Int.reduceEq, Int.reduceAdd, Int.reduceSub, Int.reduceNeg, atI_0, atI_1, atI_2, atI_3, cut_1, cut_to1, eq_self, Option.bind_some, rb_ok, rb_exc, rb_bad, ro_ok, ro_exc, ro_bad, sq_nx, sq_rt, sq_bk, sq_ct, q_vgo1, q_vgo2, q_vgo3, q_pfin1, q_pfin2, q_pgo1, q_pgo2, q_cellD1, q_cellD2, q_cons21, q_cons22, q_cons23, q_tfin1, q_tfin2, q_tgo1, q_tgo2, q_isCell1, q_isCell2, q_appGo1, q_appGo2, q_extGo1, q_extGo2, q_popFin1, q_popFin2, q_popGo1, q_popGo2, q_newGo1, q_newGo2, q_setFin1, q_setFin2, q_setGo1, q_setGo2, q_chn1, q_chn2, q_compGo1, q_compGo2, q_ckGo1, q_ckGo2, e_var, e_glob, e_lit, e_pr, e_new, e_act0, e_act1, e_and, e_or, e_not, e_ite, e_chain, e_call, e_callk, e_comp, es_nil, es_cons, an_one, an_more, or_one, or_more, e_T, prim_eq, argsD, holds, deref_d, deref_loc, derefs_nil, derefs_cons, dsOf_nil, dsOf_cons, tru_eq, q_truD1, q_truD2, q_truD3, q_truD4, q_truD5, q_truD6, q_truD7, isLst_loc, do_app, do_ext, do_pop, new_eq, set_eq, p_tup, p_lst, p_add, p_sub, p_mul, p_fdiv, p_mod, p_pow, p_lt, p_le, p_gt, p_ge, p_max, p_min, p_eq, p_ne, p_in, p_nin, p_ix, p_slTo, p_slFrom, p_slB, p_neg, p_len, p_int, p_sum, p_all, p_tupL, p_tupT, p_lstL, p_lstT, p_isi, p_isN, p_notN, isin_ch, isin_tup, isin_list, isTy, q_addD1, q_addD2, q_addD3, q_addD4, q_ixD1, q_ixD2, q_ixD3, q_slD1, q_slD2, q_lenD1, q_lenD2, q_lenD3, q_ugo1, q_ugo2, q_sgo1, q_sgo2, q_agoF1, q_agoF2, q_ago1, q_ago2, q_ago3, aug_add, aug_sub, q_fgo1, q_fgo2, s_asg', s_unp', s_par', s_par3', s_setix', s_aug', s_ex', s_ite', s_for', s_while', s_ret', ss_nil', ss_cons', asg_one, asg_many, setMany, pk_d, fin_rt, fin_nx, fin_ex, nx_ok, pick_nil, pick_cons, startR, get_top, set_top, take_top, take_own, take_fd, take_fd2, stq_get, stq_set, stq_len, stq_app, stq_top, stq_take, stq_take2, eqOk_str, eqv_str, eqOk_int, eqv_int, eqOk_bool, eqv_bool, it_seq, it_r1, it_r2, it_el, it_et, it_zip, it_rev, q_seqD1, q_seqD2, q_seqD3, List.map_cons, List.map_nil, List.length_cons, List.length_nil, List.replicate_succ, List.replicate_zero, List.append_nil, List.nil_append, List.cons_append, List.getElem?_cons_zero, List.getElem?_cons_succ, List.getElem?_nil, List.set_cons_zero, List.set_cons_succ, Option.map_some, Option.map_none, if_true, if_false, ite_true, ite_false, reduceIte, Bool.not_true, Bool.not_false, Bool.false_eq_true, decide_true, decide_false, Bool.and_true, Bool.true_and, Bool.and_false, Bool.false_and, whB, b8, tail8, last_of, List.dropLast_concat, c_loosenode n x _ hx hy, e1, e2, k1, k2, k3, e3, Bool.or_false, Bool.or_true, Bool.true_or, Bool.false_or]
theorem tail_leaf8 (n d : Nat) (thing m : Option W) (st : Sto) (xs r : List PyData) (w : Str) (h : PyData.strOk w = true) (h' : (w == Str.ofString "arrow") = false) :
    evSs (callF FT (n + 3)) tail8 [thing, some (.loc st.length), m, some (.d (.tuple (.str w :: r))), some (.d (.int d))] (st ++ [.lst xs]) = .nx [thing, some (.loc st.length), m, some (.d (.tuple (.str w :: r))), some (.d (.int d))] (st ++ [.lst xs]) := by
  simp only [lineOk4, lineOk5, lineOk6, lineOk7, lineOk8, lineOk9, lineOk10, lineOk11, lineOk12, lineOk13, lineOk14, lineOk15, lineOk16, lineOk17, lineOk18, lineOk19, lineOk20, lineOk21, lineOk22, lineOk23, lineOk24, lineOk25, lineOk26, lineOk27, lineOk28, lineOk29, lineOk30, lineOk31, lineOk32, lineOk33, lineOk34, lineOk35, lineOk36, lineOk37, lineOk38, lineOk39, lineOk40, nc0, nc1, nc2, nc3, nc4, lineOk0, lineOk1, lineOk2, lineOk3, Nat.reduceAdd, Nat.reduceSub, Int.reduceLT, Int.reduceLE, Int.reduceBEq, Int.reduceEq, Int.reduceAdd, Int.reduceSub, Int.reduceNeg, atI_0, atI_1, atI_2, atI_3, cut_1, cut_to1, eq_self, Option.bind_some, rb_ok, rb_exc, rb_bad, ro_ok, ro_exc, ro_bad, sq_nx, sq_rt, sq_bk, sq_ct, q_vgo1, q_vgo2, q_vgo3, q_pfin1, q_pfin2, q_pgo1, q_pgo2, q_cellD1, q_cellD2, q_cons21, q_cons22, q_cons23, q_tfin1, q_tfin2, q_tgo1, q_tgo2, q_isCell1, q_isCell2, q_appGo1, q_appGo2, q_extGo1, q_extGo2, q_popFin1, q_popFin2, q_popGo1, q_popGo2, q_newGo1, q_newGo2, q_setFin1, q_setFin2, q_setGo1, q_setGo2, q_chn1, q_chn2, q_compGo1, q_compGo2, q_ckGo1, q_ckGo2, e_var, e_glob, e_lit, e_pr, e_new, e_act0, e_act1, e_and, e_or, e_not, e_ite, e_chain, e_call, e_callk, e_comp, es_nil, es_cons, an_one, an_more, or_one, or_more, e_T, prim_eq, argsD, holds, deref_d, deref_loc, derefs_nil, derefs_cons, dsOf_nil, dsOf_cons, tru_eq, q_truD1, q_truD2, q_truD3, q_truD4, q_truD5, q_truD6, q_truD7, isLst_loc, do_app, do_ext, do_pop, new_eq, set_eq, p_tup, p_lst, p_add, p_sub, p_mul, p_fdiv, p_mod, p_pow, p_lt, p_le, p_gt, p_ge, p_max, p_min, p_eq, p_ne, p_in, p_nin, p_ix, p_slTo, p_slFrom, p_slB, p_neg, p_len, p_int, p_sum, p_all, p_tupL, p_tupT, p_lstL, p_lstT, p_isi, p_isN, p_notN, isin_ch, isin_tup, isin_list, isTy, q_addD1, q_addD2, q_addD3, q_addD4, q_ixD1, q_ixD2, q_ixD3, q_slD1, q_slD2, q_lenD1, q_lenD2, q_lenD3, q_ugo1, q_ugo2, q_sgo1, q_sgo2, q_agoF1, q_agoF2, q_ago1, q_ago2, q_ago3, aug_add, aug_sub, q_fgo1, q_fgo2, s_asg', s_unp', s_par', s_par3', s_setix', s_aug', s_ex', s_ite', s_for', s_while', s_ret', ss_nil', ss_cons', asg_one, asg_many, setMany, pk_d, fin_rt, fin_nx, fin_ex, nx_ok, pick_nil, pick_cons, startR, get_top, set_top, take_top, take_own, take_fd, take_fd2, stq_get, stq_set, stq_len, stq_app, stq_top, stq_take, stq_take2, eqOk_str, eqv_str, eqOk_int, eqv_int, eqOk_bool, eqv_bool, it_seq, it_r1, it_r2, it_el, it_et, it_zip, it_rev, q_seqD1, q_seqD2, q_seqD3, List.map_cons, List.map_nil, List.length_cons, List.length_nil, List.replicate_succ, List.replicate_zero, List.append_nil, List.nil_append, List.cons_append, List.getElem?_cons_zero, List.getElem?_cons_succ, List.getElem?_nil, List.set_cons_zero, List.set_cons_succ, Option.map_some, Option.map_none, if_true, if_false, ite_true, ite_false, reduceIte, Bool.not_true, Bool.not_false, Bool.false_eq_true, decide_true, decide_false, Bool.and_true, Bool.true_and, Bool.and_false, Bool.false_and, tail8, h, h', so_arrow]
theorem tail_bin8 (n d : Nat) (thing m : Option W) (st : Sto) (xs : List PyData) (x y : PyData) (h' : lineOk (xs.length + 2) = true) :
    evSs (callF FT (n + 3)) tail8 [thing, some (.loc st.length), m, some (.d (.tuple [sArr, x, y])), some (.d (.int d))] (st ++ [.lst xs]) = .nx [thing, some (.loc st.length), m, some (.d (.tuple [sArr, x, y])), some (.d (.int d))] (st ++ [.lst (xs ++ [.tuple [y, .int (d + 1 : Nat)], .tuple [x, .int (d + 1 : Nat)]])]) := by
  simp only [lineOk4, lineOk5, lineOk6, lineOk7, lineOk8, lineOk9, lineOk10, lineOk11, lineOk12, lineOk13, lineOk14, lineOk15, lineOk16, lineOk17, lineOk18, lineOk19, lineOk20, lineOk21, lineOk22, lineOk23, lineOk24, lineOk25, lineOk26, lineOk27, lineOk28, lineOk29, lineOk30, lineOk31, lineOk32, lineOk33, lineOk34, lineOk35, lineOk36, lineOk37, lineOk38, lineOk39, lineOk40, nc0, nc1, nc2, nc3, nc4, lineOk0, lineOk1, lineOk2, lineOk3, Nat.reduceAdd, Nat.reduceSub, Int.reduceLT, Int.reduceLE, Int.reduceBEq, Int.reduceEq, Int.reduceAdd, Int.reduceSub, Int.reduceNeg, atI_0, atI_1, atI_2, atI_3, cut_1, cut_to1, eq_self, Option.bind_some, rb_ok, rb_exc, rb_bad, ro_ok, ro_exc, ro_bad, sq_nx, sq_rt, sq_bk, sq_ct, q_vgo1, q_vgo2, q_vgo3, q_pfin1, q_pfin2, q_pgo1, q_pgo2, q_cellD1, q_cellD2, q_cons21, q_cons22, q_cons23, q_tfin1, q_tfin2, q_tgo1, q_tgo2, q_isCell1, q_isCell2, q_appGo1, q_appGo2, q_extGo1, q_extGo2, q_popFin1, q_popFin2, q_popGo1, q_popGo2, q_newGo1, q_newGo2, q_setFin1, q_setFin2, q_setGo1, q_setGo2, q_chn1, q_chn2, q_compGo1, q_compGo2, q_ckGo1, q_ckGo2, e_var, e_glob, e_lit, e_pr, e_new, e_act0, e_act1, e_and, e_or, e_not, e_ite, e_chain, e_call, e_callk, e_comp, es_nil, es_cons, an_one, an_more, or_one, or_more, e_T, prim_eq, argsD, holds, deref_d, deref_loc, derefs_nil, derefs_cons, dsOf_nil, dsOf_cons, tru_eq, q_truD1, q_truD2, q_truD3, q_truD4, q_truD5, q_truD6, q_truD7, isLst_loc, do_app, do_ext, do_pop, new_eq, set_eq, p_tup, p_lst, p_add, p_sub, p_mul, p_fdiv, p_mod, p_pow, p_lt, p_le, p_gt, p_ge, p_max, p_min, p_eq, p_ne, p_in, p_nin, p_ix, p_slTo, p_slFrom, p_slB, p_neg, p_len, p_int, p_sum, p_all, p_tupL, p_tupT, p_lstL, p_lstT, p_isi, p_isN, p_notN, isin_ch, isin_tup, isin_list, isTy, q_addD1, q_addD2, q_addD3, q_addD4, q_ixD1, q_ixD2, q_ixD3, q_slD1, q_slD2, q_lenD1, q_lenD2, q_lenD3, q_ugo1, q_ugo2, q_sgo1, q_sgo2, q_agoF1, q_agoF2, q_ago1, q_ago2, q_ago3, aug_add, aug_sub, q_fgo1, q_fgo2, s_asg', s_unp', s_par', s_par3', s_setix', s_aug', s_ex', s_ite', s_for', s_while', s_ret', ss_nil', ss_cons', asg_one, asg_many, setMany, pk_d, fin_rt, fin_nx, fin_ex, nx_ok, pick_nil, pick_cons, startR, get_top, set_top, take_top, take_own, take_fd, take_fd2, stq_get, stq_set, stq_len, stq_app, stq_top, stq_take, stq_take2, eqOk_str, eqv_str, eqOk_int, eqv_int, eqOk_bool, eqv_bool, it_seq, it_r1, it_r2, it_el, it_et, it_zip, it_rev, q_seqD1, q_seqD2, q_seqD3, List.map_cons, List.map_nil, List.length_cons, List.length_nil, List.replicate_succ, List.replicate_zero, List.append_nil, List.nil_append, List.cons_append, List.getElem?_cons_zero, List.getElem?_cons_succ, List.getElem?_nil, List.set_cons_zero, List.set_cons_succ, Option.map_some, Option.map_none, if_true, if_false, ite_true, ite_false, reduceIte, Bool.not_true, Bool.not_false, Bool.false_eq_true, decide_true, decide_false, Bool.and_true, Bool.true_and, Bool.and_false, Bool.false_and, tail8, sArr, so_arrow, arr_self, h', cast1]
theorem loop8 (n : Nat) (thing : Option W) (st : Sto) : ∀ (fuel : Nat) (L : List (Tr × Nat)) (many : Nat) (o1 o2 : Option W), (∀ p ∈ L, p.1.all leafK = true ∧ p.1.flat = true) → L.length ≤ many + 1 → many ≤ 200 → 202 ≤ fuel + many →
    (chkL looseNode 200 20 L many = true → ∃ ρ, whileL (evT (callF FT (n + 3)) (whC b8)) (evSs (callF FT (n + 3)) (whB b8)) fuel [thing, some (.loc st.length), some (.d (.int many)), o1, o2] (st ++ [.lst (stkK L)]) = .nx ρ (st ++ [.lst []])) ∧
    (chkL looseNode 200 20 L many = false → ∃ xs, whileL (evT (callF FT (n + 3)) (whC b8)) (evSs (callF FT (n + 3)) (whB b8)) fuel [thing, some (.loc st.length), some (.d (.int many)), o1, o2] (st ++ [.lst (stkK L)]) = .rt (.d (.bool false)) (st ++ [.lst xs]))
  | 0, L, many, o1, o2, _, _, h3, h4 => by omega
  | fuel + 1, [], many, o1, o2, _, _, h3, _ => by
    rw [wh_step, cond8 _ _ _ _ _ _ _ rfl]
    have e : chkL looseNode 200 20 [] many = true := by
      unfold chkL total
      rw [decide_eq_true (by omega)]
      rfl
    rw [e]
    exact ⟨fun _ => ⟨_, rfl⟩, (fun z => by cases z)⟩
  | fuel + 1, (t, d) :: L, many, o1, o2, hl, h2, h3, h4 => by
    rw [wh_step, cond8 _ _ _ _ _ _ _ (stkK_lay fun p hp => (hl p hp).1)]
    have ne : (!(stkK ((t, d) :: L)).isEmpty) = true := by rw [stkK_cons]; simp
    rw [ne]
    obtain ⟨ht, hf⟩ := hl _ (List.mem_cons_self)
    have hL : ∀ p ∈ L, p.1.all leafK = true ∧ p.1.flat = true := fun p hp => hl p (List.mem_cons_of_mem _ hp)
    simp only [ro_ok, if_true]
    rw [stkK_cons, body8 _ _ _ _ _ _ _ _ _ (fitK ht) (hdK ht)]
    have sz := t.size_pos
    have tl := t.tall_pos
    rw [List.length_cons] at h2
    by_cases c : (decide (200 < many + 1) || (decide (20 < d) || !looseNode (encK t))) = true
    · rw [if_pos c]
      have e : chkL looseNode 200 20 ((t, d) :: L) many = false := by
        rw [Bool.or_eq_true, Bool.or_eq_true] at c
        refine Bool.eq_false_iff.mpr fun z => ?_
        simp only [chkL, List.all_cons, Bool.and_eq_true, decide_eq_true_eq] at z
        simp only [total] at z
        obtain ⟨z1, ⟨z2, z3⟩, _⟩ := z
        rcases c with c | c | c
        · have := of_decide_eq_true c; omega
        · have := of_decide_eq_true c; omega
        · cases t with
          | leaf x =>
            have c : (!looseNode x) = true := c
            have z2 : looseNode x = true := z2
            rw [z2] at c
            cases c
          | un a => cases hf
          | bin a b => rw [encK, loose_bin] at c; cases c
      rw [e]
      exact ⟨(fun z => by cases z), fun _ => ⟨_, rfl⟩⟩
    · rw [if_neg c]
      simp only [Bool.or_eq_true, decide_eq_true_eq, not_or, Bool.not_eq_true', Bool.not_eq_false] at c
      obtain ⟨c1, c2, c3⟩ := c
      have hlen : (stkK L).length ≤ 201 := by unfold stkK; rw [List.length_reverse, List.length_map]; omega
      have lk2 : lineOk ((stkK L).length + 2) = true := lineOk_small (by omega)
      cases t with
      | leaf x =>
        obtain ⟨w, r, ex, hp, hp2⟩ := (leafK_all ht).2.2.2.2 (id c3)
        rw [encK, ex, tail_leaf8 n d thing _ st (stkK L) r w hp hp2]
        simp only [q_fstep1]
        have e : chkL looseNode 200 20 ((.leaf x, d) :: L) many = chkL looseNode 200 20 L (many + 1) := by
          have c3 : looseNode x = true := c3
          rw [Bool.eq_iff_iff]
          simp only [chkL, List.all_cons, Tr.all, Bool.and_eq_true, decide_eq_true_eq, c3]
          simp only [total, Tr.tall, Tr.size]
          exact ⟨fun ⟨a, ⟨_, _⟩, c⟩ => ⟨by omega, c⟩, fun ⟨a, c⟩ => ⟨by omega, ⟨trivial, by omega⟩, c⟩⟩
        rw [← ex, e]
        exact loop8 n thing st fuel L (many + 1) _ _ hL (by omega) (by omega) (by omega)
      | un a => cases hf
      | bin a b =>
        have ht2 : (a.all leafK && b.all leafK) = true := ht
        rw [Bool.and_eq_true] at ht2
        have hf2 : (a.flat && b.flat) = true := hf
        rw [Bool.and_eq_true] at hf2
        rw [encK, tail_bin8 n d thing _ st (stkK L) (encK a) (encK b) lk2]
        simp only [q_fstep1]
        have e : chkL looseNode 200 20 ((.bin a b, d) :: L) many = chkL looseNode 200 20 ((a, d + 1) :: (b, d + 1) :: L) (many + 1) := by
          rw [Bool.eq_iff_iff]
          simp only [chkL, List.all_cons, Tr.all, Bool.and_eq_true, decide_eq_true_eq]
          simp only [total, Tr.tall, Tr.size]
          exact ⟨fun ⟨a, ⟨⟨b1, b2⟩, _⟩, c⟩ => ⟨by omega, ⟨b1, by omega⟩, ⟨b2, by omega⟩, c⟩, fun ⟨a, ⟨b1, _⟩, ⟨b2, _⟩, c⟩ => ⟨by omega, ⟨⟨b1, b2⟩, by omega⟩, c⟩⟩
        rw [e]
        have := loop8 n thing st fuel ((a, d + 1) :: (b, d + 1) :: L) (many + 1) (some (.d (.tuple [sArr, encK a, encK b]))) (some (.d (.int d))) (fun p hp => by
          rcases List.mem_cons.mp hp with rfl | hp
          · exact ⟨ht2.1, hf2.1⟩
          · rcases List.mem_cons.mp hp with rfl | hp
            · exact ⟨ht2.2, hf2.2⟩
            · exact hL p hp) (by rw [List.length_cons, List.length_cons]; omega) (by omega) (by omega)
        rw [stkK_cons, stkK_cons, List.append_assoc] at this
        exact this
def okL (t : Tr) : Bool := t.all looseNode && (decide (t.size ≤ 200) && decide (t.tall ≤ 20))
theorem c_form8 (n : Nat) (t : Tr) (st : Sto) (h : t.all leafK = true) (hf : t.flat = true) : callF FT (n + 4) 8 [.d (encK t)] st = .ok (.d (.bool (okL t))) st := by
  rw [cf ft8]
  have e : b8 = .cons (.par 1 2 (.new (.cons (.pr .tup (.cons (.var 0) (.cons (.lit (.int 1)) .nil))) .nil)) (.lit (.int 0))) (.cons (.while_ (whC b8) (whB b8)) (.cons (.ret (.lit (.bool true))) .nil)) := rfl
  have e2 : chkL looseNode 200 20 [(t, 1)] 0 = okL t := by
    rw [Bool.eq_iff_iff]
    simp only [chkL, okL, List.all_cons, List.all_nil, Bool.and_eq_true, decide_eq_true_eq]
    simp only [total]
    exact ⟨fun ⟨a, ⟨b, _⟩, _⟩ => ⟨b, by omega, by omega⟩, fun ⟨b, _, _⟩ => ⟨by omega, ⟨b, by omega⟩, trivial⟩⟩
  have L := loop8 n (some (.d (encK t))) st wFuel [(t, 1)] 0 none none (fun p hp => by rw [List.mem_singleton] at hp; subst hp; exact ⟨h, hf⟩) (by simp) (by omega) (by decide)
  rw [e2] at L
  have es : stkK [(t, 1)] = [.tuple [encK t, .int 1]] := rfl
  rw [es] at L
  simp only [nc0] at L
  rw [e]
  cases k : okL t
  · obtain ⟨xs, q⟩ := L.2 k
    simp only [lineOk4, lineOk5, lineOk6, lineOk7, lineOk8, lineOk9, lineOk10, lineOk11, lineOk12, lineOk13, lineOk14, lineOk15, lineOk16, lineOk17, lineOk18, lineOk19, lineOk20, lineOk21, lineOk22, lineOk23, lineOk24, lineOk25, lineOk26, lineOk27, lineOk28, lineOk29, lineOk30, lineOk31, lineOk32, lineOk33, lineOk34, lineOk35, lineOk36, lineOk37, lineOk38, lineOk39, lineOk40, nc0, nc1, nc2, nc3, nc4, lineOk0, lineOk1, lineOk2, lineOk3, Nat.reduceAdd, Nat.reduceSub, Int.reduceLT, Int.reduceLE, Int.reduceBEq, Int.reduceEq, Int.reduceAdd, Int.reduceSub, Int.reduceNeg, atI_0, atI_1, atI_2, atI_3, cut_1, cut_to1, eq_self, Option.bind_some, rb_ok, rb_exc, rb_bad, ro_ok, ro_exc, ro_bad, sq_nx, sq_rt, sq_bk, sq_ct, q_vgo1, q_vgo2, q_vgo3, q_pfin1, q_pfin2, q_pgo1, q_pgo2, q_cellD1, q_cellD2, q_cons21, q_cons22, q_cons23, q_tfin1, q_tfin2, q_tgo1, q_tgo2, q_isCell1, q_isCell2, q_appGo1, q_appGo2, q_extGo1, q_extGo2, q_popFin1, q_popFin2, q_popGo1, q_popGo2, q_newGo1, q_newGo2, q_setFin1, q_setFin2, q_setGo1, q_setGo2, q_chn1, q_chn2, q_compGo1, q_compGo2, q_ckGo1, q_ckGo2, e_var, e_glob, e_lit, e_pr, e_new, e_act0, e_act1, e_and, e_or, e_not, e_ite, e_chain, e_call, e_callk, e_comp, es_nil, es_cons, an_one, an_more, or_one, or_more, e_T, prim_eq, argsD, holds, deref_d, deref_loc, derefs_nil, derefs_cons, dsOf_nil, dsOf_cons, tru_eq, q_truD1, q_truD2, q_truD3, q_truD4, q_truD5, q_truD6, q_truD7, isLst_loc, do_app, do_ext, do_pop, new_eq, set_eq, p_tup, p_lst, p_add, p_sub, p_mul, p_fdiv, p_mod, p_pow, p_lt, p_le, p_gt, p_ge, p_max, p_min, p_eq, p_ne, p_in, p_nin, p_ix, p_slTo, p_slFrom, p_slB, p_neg, p_len, p_int, p_sum, p_all, p_tupL, p_tupT, p_lstL, p_lstT, p_isi, p_isN, p_notN, isin_ch, isin_tup, isin_list, isTy, q_addD1, q_addD2, q_addD3, q_addD4, q_ixD1, q_ixD2, q_ixD3, q_slD1, q_slD2, q_lenD1, q_lenD2, q_lenD3, q_ugo1, q_ugo2, q_sgo1, q_sgo2, q_agoF1, q_agoF2, q_ago1, q_ago2, q_ago3, aug_add, aug_sub, q_fgo1, q_fgo2, s_asg', s_unp', s_par', s_par3', s_setix', s_aug', s_ex', s_ite', s_for', s_while', s_ret', ss_nil', ss_cons', asg_one, asg_many, setMany, pk_d, fin_rt, fin_nx, fin_ex, nx_ok, pick_nil, pick_cons, startR, get_top, set_top, take_top, take_own, take_fd, take_fd2, stq_get, stq_set, stq_len, stq_app, stq_top, stq_take, stq_take2, eqOk_str, eqv_str, eqOk_int, eqv_int, eqOk_bool, eqv_bool, it_seq, it_r1, it_r2, it_el, it_et, it_zip, it_rev, q_seqD1, q_seqD2, q_seqD3, List.map_cons, List.map_nil, List.length_cons, List.length_nil, List.replicate_succ, List.replicate_zero, List.append_nil, List.nil_append, List.cons_append, List.getElem?_cons_zero, List.getElem?_cons_succ, List.getElem?_nil, List.set_cons_zero, List.set_cons_succ, Option.map_some, Option.map_none, if_true, if_false, ite_true, ite_false, reduceIte, Bool.not_true, Bool.not_false, Bool.false_eq_true, decide_true, decide_false, Bool.and_true, Bool.true_and, Bool.and_false, Bool.false_and, q]
  · obtain ⟨ρ, q⟩ := L.1 k
    simp only [lineOk4, lineOk5, lineOk6, lineOk7, lineOk8, lineOk9, lineOk10, lineOk11, lineOk12, lineOk13, lineOk14, lineOk15, lineOk16, lineOk17, lineOk18, lineOk19, lineOk20, lineOk21, lineOk22, lineOk23, lineOk24, lineOk25, lineOk26, lineOk27, lineOk28, lineOk29, lineOk30, lineOk31, lineOk32, lineOk33, lineOk34, lineOk35, lineOk36, lineOk37, lineOk38, lineOk39, lineOk40, nc0, nc1, nc2, nc3, nc4, lineOk0, lineOk1, lineOk2, lineOk3, Nat.reduceAdd, Nat.reduceSub, Int.reduceLT, Int.reduceLE, Int.reduceBEq, Int.reduceEq, Int.reduceAdd, Int.reduceSub, Int.reduceNeg, atI_0, atI_1, atI_2, atI_3, cut_1, cut_to1, eq_self, Option.bind_some, rb_ok, rb_exc, rb_bad, ro_ok, ro_exc, ro_bad, sq_nx, sq_rt, sq_bk, sq_ct, q_vgo1, q_vgo2, q_vgo3, q_pfin1, q_pfin2, q_pgo1, q_pgo2, q_cellD1, q_cellD2, q_cons21, q_cons22, q_cons23, q_tfin1, q_tfin2, q_tgo1, q_tgo2, q_isCell1, q_isCell2, q_appGo1, q_appGo2, q_extGo1, q_extGo2, q_popFin1, q_popFin2, q_popGo1, q_popGo2, q_newGo1, q_newGo2, q_setFin1, q_setFin2, q_setGo1, q_setGo2, q_chn1, q_chn2, q_compGo1, q_compGo2, q_ckGo1, q_ckGo2, e_var, e_glob, e_lit, e_pr, e_new, e_act0, e_act1, e_and, e_or, e_not, e_ite, e_chain, e_call, e_callk, e_comp, es_nil, es_cons, an_one, an_more, or_one, or_more, e_T, prim_eq, argsD, holds, deref_d, deref_loc, derefs_nil, derefs_cons, dsOf_nil, dsOf_cons, tru_eq, q_truD1, q_truD2, q_truD3, q_truD4, q_truD5, q_truD6, q_truD7, isLst_loc, do_app, do_ext, do_pop, new_eq, set_eq, p_tup, p_lst, p_add, p_sub, p_mul, p_fdiv, p_mod, p_pow, p_lt, p_le, p_gt, p_ge, p_max, p_min, p_eq, p_ne, p_in, p_nin, p_ix, p_slTo, p_slFrom, p_slB, p_neg, p_len, p_int, p_sum, p_all, p_tupL, p_tupT, p_lstL, p_lstT, p_isi, p_isN, p_notN, isin_ch, isin_tup, isin_list, isTy, q_addD1, q_addD2, q_addD3, q_addD4, q_ixD1, q_ixD2, q_ixD3, q_slD1, q_slD2, q_lenD1, q_lenD2, q_lenD3, q_ugo1, q_ugo2, q_sgo1, q_sgo2, q_agoF1, q_agoF2, q_ago1, q_ago2, q_ago3, aug_add, aug_sub, q_fgo1, q_fgo2, s_asg', s_unp', s_par', s_par3', s_setix', s_aug', s_ex', s_ite', s_for', s_while', s_ret', ss_nil', ss_cons', asg_one, asg_many, setMany, pk_d, fin_rt, fin_nx, fin_ex, nx_ok, pick_nil, pick_cons, startR, get_top, set_top, take_top, take_own, take_fd, take_fd2, stq_get, stq_set, stq_len, stq_app, stq_top, stq_take, stq_take2, eqOk_str, eqv_str, eqOk_int, eqv_int, eqOk_bool, eqv_bool, it_seq, it_r1, it_r2, it_el, it_et, it_zip, it_rev, q_seqD1, q_seqD2, q_seqD3, List.map_cons, List.map_nil, List.length_cons, List.length_nil, List.replicate_succ, List.replicate_zero, List.append_nil, List.nil_append, List.cons_append, List.getElem?_cons_zero, List.getElem?_cons_succ, List.getElem?_nil, List.set_cons_zero, List.set_cons_succ, Option.map_some, Option.map_none, if_true, if_false, ite_true, ite_false, reduceIte, Bool.not_true, Bool.not_false, Bool.false_eq_true, decide_true, decide_false, Bool.and_true, Bool.true_and, Bool.and_false, Bool.false_and, q]
theorem c_kind (n : Nat) (t : Tr) (st : Sto) (h : t.all leafK = true) (hf : t.flat = true) : callF FT (n + 5) 11 [.d (encK t)] st = .ok (.d (.bool (okK t))) st := by
  rw [cf ft11]
  simp only [lineOk4, lineOk5, lineOk6, lineOk7, lineOk8, lineOk9, lineOk10, lineOk11, lineOk12, lineOk13, lineOk14, lineOk15, lineOk16, lineOk17, lineOk18, lineOk19, lineOk20, lineOk21, lineOk22, lineOk23, lineOk24, lineOk25, lineOk26, lineOk27, lineOk28, lineOk29, lineOk30, lineOk31, lineOk32, lineOk33, lineOk34, lineOk35, lineOk36, lineOk37, lineOk38, lineOk39, lineOk40, nc0, nc1, nc2, nc3, nc4, lineOk0, lineOk1, lineOk2, lineOk3, Nat.reduceAdd, Nat.reduceSub, Int.reduceLT, Int.reduceLE, Int.reduceBEq, Int.reduceEq, Int.reduceAdd, Int.reduceSub, Int.reduceNeg, atI_0, atI_1, atI_2, atI_3, cut_1, cut_to1, eq_self, Option.bind_some, rb_ok, rb_exc, rb_bad, ro_ok, ro_exc, ro_bad, sq_nx, sq_rt, sq_bk, sq_ct, q_vgo1, q_vgo2, q_vgo3, q_pfin1, q_pfin2, q_pgo1, q_pgo2, q_cellD1, q_cellD2, q_cons21, q_cons22, q_cons23, q_tfin1, q_tfin2, q_tgo1, q_tgo2, q_isCell1, q_isCell2, q_appGo1, q_appGo2, q_extGo1, q_extGo2, q_popFin1, q_popFin2, q_popGo1, q_popGo2, q_newGo1, q_newGo2, q_setFin1, q_setFin2, q_setGo1, q_setGo2, q_chn1, q_chn2, q_compGo1, q_compGo2, q_ckGo1, q_ckGo2, e_var, e_glob, e_lit, e_pr, e_new, e_act0, e_act1, e_and, e_or, e_not, e_ite, e_chain, e_call, e_callk, e_comp, es_nil, es_cons, an_one, an_more, or_one, or_more, e_T, prim_eq, argsD, holds, deref_d, deref_loc, derefs_nil, derefs_cons, dsOf_nil, dsOf_cons, tru_eq, q_truD1, q_truD2, q_truD3, q_truD4, q_truD5, q_truD6, q_truD7, isLst_loc, do_app, do_ext, do_pop, new_eq, set_eq, p_tup, p_lst, p_add, p_sub, p_mul, p_fdiv, p_mod, p_pow, p_lt, p_le, p_gt, p_ge, p_max, p_min, p_eq, p_ne, p_in, p_nin, p_ix, p_slTo, p_slFrom, p_slB, p_neg, p_len, p_int, p_sum, p_all, p_tupL, p_tupT, p_lstL, p_lstT, p_isi, p_isN, p_notN, isin_ch, isin_tup, isin_list, isTy, q_addD1, q_addD2, q_addD3, q_addD4, q_ixD1, q_ixD2, q_ixD3, q_slD1, q_slD2, q_lenD1, q_lenD2, q_lenD3, q_ugo1, q_ugo2, q_sgo1, q_sgo2, q_agoF1, q_agoF2, q_ago1, q_ago2, q_ago3, aug_add, aug_sub, q_fgo1, q_fgo2, s_asg', s_unp', s_par', s_par3', s_setix', s_aug', s_ex', s_ite', s_for', s_while', s_ret', ss_nil', ss_cons', asg_one, asg_many, setMany, pk_d, fin_rt, fin_nx, fin_ex, nx_ok, pick_nil, pick_cons, startR, get_top, set_top, take_top, take_own, take_fd, take_fd2, stq_get, stq_set, stq_len, stq_app, stq_top, stq_take, stq_take2, eqOk_str, eqv_str, eqOk_int, eqv_int, eqOk_bool, eqv_bool, it_seq, it_r1, it_r2, it_el, it_et, it_zip, it_rev, q_seqD1, q_seqD2, q_seqD3, List.map_cons, List.map_nil, List.length_cons, List.length_nil, List.replicate_succ, List.replicate_zero, List.append_nil, List.nil_append, List.cons_append, List.getElem?_cons_zero, List.getElem?_cons_succ, List.getElem?_nil, List.set_cons_zero, List.set_cons_succ, Option.map_some, Option.map_none, if_true, if_false, ite_true, ite_false, reduceIte, Bool.not_true, Bool.not_false, Bool.false_eq_true, decide_true, decide_false, Bool.and_true, Bool.true_and, Bool.and_false, Bool.false_and, b11, c_form3 n t st h hf]
theorem c_loose (n : Nat) (t : Tr) (st : Sto) (h : t.all leafK = true) (hf : t.flat = true) : callF FT (n + 5) 10 [.d (encK t)] st = .ok (.d (.bool (okL t))) st := by
  rw [cf ft10]
  simp only [lineOk4, lineOk5, lineOk6, lineOk7, lineOk8, lineOk9, lineOk10, lineOk11, lineOk12, lineOk13, lineOk14, lineOk15, lineOk16, lineOk17, lineOk18, lineOk19, lineOk20, lineOk21, lineOk22, lineOk23, lineOk24, lineOk25, lineOk26, lineOk27, lineOk28, lineOk29, lineOk30, lineOk31, lineOk32, lineOk33, lineOk34, lineOk35, lineOk36, lineOk37, lineOk38, lineOk39, lineOk40, nc0, nc1, nc2, nc3, nc4, lineOk0, lineOk1, lineOk2, lineOk3, Nat.reduceAdd, Nat.reduceSub, Int.reduceLT, Int.reduceLE, Int.reduceBEq, Int.reduceEq, Int.reduceAdd, Int.reduceSub, Int.reduceNeg, atI_0, atI_1, atI_2, atI_3, cut_1, cut_to1, eq_self, Option.bind_some, rb_ok, rb_exc, rb_bad, ro_ok, ro_exc, ro_bad, sq_nx, sq_rt, sq_bk, sq_ct, q_vgo1, q_vgo2, q_vgo3, q_pfin1, q_pfin2, q_pgo1, q_pgo2, q_cellD1, q_cellD2, q_cons21, q_cons22, q_cons23, q_tfin1, q_tfin2, q_tgo1, q_tgo2, q_isCell1, q_isCell2, q_appGo1, q_appGo2, q_extGo1, q_extGo2, q_popFin1, q_popFin2, q_popGo1, q_popGo2, q_newGo1, q_newGo2, q_setFin1, q_setFin2, q_setGo1, q_setGo2, q_chn1, q_chn2, q_compGo1, q_compGo2, q_ckGo1, q_ckGo2, e_var, e_glob, e_lit, e_pr, e_new, e_act0, e_act1, e_and, e_or, e_not, e_ite, e_chain, e_call, e_callk, e_comp, es_nil, es_cons, an_one, an_more, or_one, or_more, e_T, prim_eq, argsD, holds, deref_d, deref_loc, derefs_nil, derefs_cons, dsOf_nil, dsOf_cons, tru_eq, q_truD1, q_truD2, q_truD3, q_truD4, q_truD5, q_truD6, q_truD7, isLst_loc, do_app, do_ext, do_pop, new_eq, set_eq, p_tup, p_lst, p_add, p_sub, p_mul, p_fdiv, p_mod, p_pow, p_lt, p_le, p_gt, p_ge, p_max, p_min, p_eq, p_ne, p_in, p_nin, p_ix, p_slTo, p_slFrom, p_slB, p_neg, p_len, p_int, p_sum, p_all, p_tupL, p_tupT, p_lstL, p_lstT, p_isi, p_isN, p_notN, isin_ch, isin_tup, isin_list, isTy, q_addD1, q_addD2, q_addD3, q_addD4, q_ixD1, q_ixD2, q_ixD3, q_slD1, q_slD2, q_lenD1, q_lenD2, q_lenD3, q_ugo1, q_ugo2, q_sgo1, q_sgo2, q_agoF1, q_agoF2, q_ago1, q_ago2, q_ago3, aug_add, aug_sub, q_fgo1, q_fgo2, s_asg', s_unp', s_par', s_par3', s_setix', s_aug', s_ex', s_ite', s_for', s_while', s_ret', ss_nil', ss_cons', asg_one, asg_many, setMany, pk_d, fin_rt, fin_nx, fin_ex, nx_ok, pick_nil, pick_cons, startR, get_top, set_top, take_top, take_own, take_fd, take_fd2, stq_get, stq_set, stq_len, stq_app, stq_top, stq_take, stq_take2, eqOk_str, eqv_str, eqOk_int, eqv_int, eqOk_bool, eqv_bool, it_seq, it_r1, it_r2, it_el, it_et, it_zip, it_rev, q_seqD1, q_seqD2, q_seqD3, List.map_cons, List.map_nil, List.length_cons, List.length_nil, List.replicate_succ, List.replicate_zero, List.append_nil, List.nil_append, List.cons_append, List.getElem?_cons_zero, List.getElem?_cons_succ, List.getElem?_nil, List.set_cons_zero, List.set_cons_succ, Option.map_some, Option.map_none, if_true, if_false, ite_true, ite_false, reduceIte, Bool.not_true, Bool.not_false, Bool.false_eq_true, decide_true, decide_false, Bool.and_true, Bool.true_and, Bool.and_false, Bool.false_and, b10, c_form8 n t st h hf]
end K60

set_option Elab.async false
set_option linter.all false
set_option maxRecDepth 100000
set_option maxHeartbeats 4000000
namespace K60
open PySem PySem.Spec L2 Mp
/-! ### the feed -/
def fdc (a b c : Int) : Cell := .lst [.int a, .int b, .int c]
structure FdOk (m : Nat) (a b c : Int) : Prop where
  a0 : 0 ≤ a
  b0 : 0 ≤ b
  b1 : b < 10 ^ 41
  c0 : 0 ≤ c
  c1 : c ≤ m
def Draws (r : Res W) (m : Nat) (pre rest : Sto) (P : PyData → Prop) : Prop := ∃ x a b c, r = .ok (.d x) (stq pre (fdc a b c) rest) ∧ FdOk m a b c ∧ P x
theorem mulOk_l {a b : Int} (h1 : -(2 ^ 64) < a) (h2 : a < 2 ^ 64) : mulOk a b = true := by
  unfold mulOk
  rw [decide_eq_true ⟨h1, h2⟩, Bool.true_or, Bool.true_or]
theorem mulOk_r {a b : Int} (h1 : -(2 ^ 64) < b) (h2 : b < 2 ^ 64) : mulOk a b = true := by
  unfold mulOk
  rw [decide_eq_true (p := -(2 ^ 64) < b ∧ b < 2 ^ 64) ⟨h1, h2⟩, Bool.or_true, Bool.true_or]
theorem log_lt {a : Int} {k : Nat} (h0 : 0 ≤ a) (h : a < 2 ^ k) : a.natAbs.log2 ≤ k := by
  by_cases z : a.natAbs = 0
  · rw [z]
    exact Nat.zero_le _
  · refine Nat.le_of_lt ((Nat.log2_lt z).mpr ?_)
    have : (a.natAbs : Int) < ((2 ^ k : Nat) : Int) := by
      rw [Int.natAbs_of_nonneg h0]
      simpa using h
    exact Int.ofNat_lt.mp this
theorem mulOk_b {a b : Int} {k j : Nat} (h0 : 0 ≤ a) (h : a < 2 ^ k) (h0' : 0 ≤ b) (h' : b < 2 ^ j) (hk : k + j < 1000000) : mulOk a b = true := by
  have e1 := log_lt h0 h
  have e2 := log_lt h0' h'
  unfold mulOk
  rw [decide_eq_true (p := a.natAbs.log2 + b.natAbs.log2 < 1000000) (by omega), Bool.or_true]
theorem divOk_s {b : Int} (h0 : 0 < b) (h : b < 2 ^ 60) : divOk b = true := by
  have e1 := log_lt (k := 60) (Int.le_of_lt h0) h
  unfold divOk
  rw [decide_eq_true h0, decide_eq_true (by omega)]
  rfl
theorem pow_18 : powOk 10 18 = true := by decide +kernel
theorem pow_40 : powOk 10 40 = true := by decide +kernel
theorem pow_41 : powOk 10 41 = true := by decide +kernel
theorem pow_38 : powOk 10 38 = true := by decide +kernel
theorem pow_9 : powOk 10 9 = true := by decide +kernel
theorem ten_18 : (10 : Int) ^ (18 : Int).toNat = 1000000000000000000 := by decide +kernel
theorem ten_40 : (10 : Int) ^ (40 : Int).toNat + 121 = 10000000000000000000000000000000000000121 := by decide +kernel
theorem ten_41 : (10 : Int) ^ (41 : Int).toNat + 81 = 100000000000000000000000000000000000000081 := by decide +kernel
theorem ten_38 : (10 : Int) ^ (38 : Int).toNat + 133 = 100000000000000000000000000000000000133 := by decide +kernel
theorem ten_9 : (10 : Int) ^ (9 : Int).toNat = 1000000000 := by decide +kernel
theorem div_9 : divOk 1000000000 = true := divOk_s (by decide) (by decide)
theorem dpos_41 : decide ((0 : Int) < 100000000000000000000000000000000000000081) = true := by decide
theorem dpos_38 : decide ((0 : Int) < 100000000000000000000000000000000000133) = true := by decide
theorem dpos_40 : decide ((0 : Int) < 10000000000000000000000000000000000000121) = true := by decide
theorem ixN_z (k : Nat) : L2.ixN (k + 1 + 1 + 1) 0 = some 0 := by
  unfold L2.ixN
  rw [if_pos (by decide), if_pos (by omega)]
  rfl
theorem ixN_2 : L2.ixN 3 2 = some 2 := rfl
theorem ixN_0 : L2.ixN 3 0 = some 0 := rfl
theorem c_draw (n k m : Nat) (a b c : Int) (pre rest : Sto) (f : FdOk m a b c) (hm : m ≤ 1000000) (h0 : 0 < k) (h1 : k ≤ 1000000) :
    Draws (callF FT (n + 1) 13 [.loc pre.length, .d (.int k)] (stq pre (fdc a b c) rest)) (m + 1) pre rest fun x => ∃ r : Nat, x = .int r ∧ r < k := by
  obtain ⟨a0, b0, b1, c0, c1⟩ := f
  have kp : decide ((0 : Int) < (k : Int)) = true := decide_eq_true (by omega)
  have kd : divOk (k : Int) = true := divOk_s (by omega) (by omega)
  rw [cf ft13]
  by_cases ha : 0 < a
  · have da : decide (0 < a) = true := decide_eq_true ha
    have mk : mulOk (a / (k : Int)) (k : Int) = true := mulOk_r (by omega) (by omega)
    simp only [lineOk4, lineOk5, lineOk6, lineOk7, lineOk8, lineOk9, lineOk10, lineOk11, lineOk12, lineOk13, lineOk14, lineOk15, lineOk16, lineOk17, lineOk18, lineOk19, lineOk20, lineOk21, lineOk22, lineOk23, lineOk24, lineOk25, lineOk26, lineOk27, lineOk28, lineOk29, lineOk30, lineOk31, lineOk32, lineOk33, lineOk34, lineOk35, lineOk36, lineOk37, lineOk38, lineOk39, lineOk40, nc0, nc1, nc2, nc3, nc4, lineOk0, lineOk1, lineOk2, lineOk3, Nat.reduceAdd, Nat.reduceSub, Int.reduceLT, Int.reduceLE, Int.reduceBEq, Int.reduceEq, Int.reduceAdd, Int.reduceSub, Int.reduceNeg, atI_0, atI_1, atI_2, atI_3, cut_1, cut_to1, eq_self, Option.bind_some, rb_ok, rb_exc, rb_bad, ro_ok, ro_exc, ro_bad, sq_nx, sq_rt, sq_bk, sq_ct, q_vgo1, q_vgo2, q_vgo3, q_pfin1, q_pfin2, q_pgo1, q_pgo2, q_cellD1, q_cellD2, q_cons21, q_cons22, q_cons23, q_tfin1, q_tfin2, q_tgo1, q_tgo2, q_isCell1, q_isCell2, q_appGo1, q_appGo2, q_extGo1, q_extGo2, q_popFin1, q_popFin2, q_popGo1, q_popGo2, q_newGo1, q_newGo2, q_setFin1, q_setFin2, q_setGo1, q_setGo2, q_chn1, q_chn2, q_compGo1, q_compGo2, q_ckGo1, q_ckGo2, e_var, e_glob, e_lit, e_pr, e_new, e_act0, e_act1, e_and, e_or, e_not, e_ite, e_chain, e_call, e_callk, e_comp, es_nil, es_cons, an_one, an_more, or_one, or_more, e_T, prim_eq, argsD, holds, deref_d, deref_loc, derefs_nil, derefs_cons, dsOf_nil, dsOf_cons, tru_eq, q_truD1, q_truD2, q_truD3, q_truD4, q_truD5, q_truD6, q_truD7, isLst_loc, do_app, do_ext, do_pop, new_eq, set_eq, p_tup, p_lst, p_add, p_sub, p_mul, p_fdiv, p_mod, p_pow, p_lt, p_le, p_gt, p_ge, p_max, p_min, p_eq, p_ne, p_in, p_nin, p_ix, p_slTo, p_slFrom, p_slB, p_neg, p_len, p_int, p_sum, p_all, p_tupL, p_tupT, p_lstL, p_lstT, p_isi, p_isN, p_notN, isin_ch, isin_tup, isin_list, isTy, q_addD1, q_addD2, q_addD3, q_addD4, q_ixD1, q_ixD2, q_ixD3, q_slD1, q_slD2, q_lenD1, q_lenD2, q_lenD3, q_ugo1, q_ugo2, q_sgo1, q_sgo2, q_agoF1, q_agoF2, q_ago1, q_ago2, q_ago3, aug_add, aug_sub, q_fgo1, q_fgo2, s_asg', s_unp', s_par', s_par3', s_setix', s_aug', s_ex', s_ite', s_for', s_while', s_ret', ss_nil', ss_cons', asg_one, asg_many, setMany, pk_d, fin_rt, fin_nx, fin_ex, nx_ok, pick_nil, pick_cons, startR, get_top, set_top, take_top, take_own, take_fd, take_fd2, stq_get, stq_set, stq_len, stq_app, stq_top, stq_take, stq_take2, eqOk_str, eqv_str, eqOk_int, eqv_int, eqOk_bool, eqv_bool, it_seq, it_r1, it_r2, it_el, it_et, it_zip, it_rev, q_seqD1, q_seqD2, q_seqD3, List.map_cons, List.map_nil, List.length_cons, List.length_nil, List.replicate_succ, List.replicate_zero, List.append_nil, List.nil_append, List.cons_append, List.getElem?_cons_zero, List.getElem?_cons_succ, List.getElem?_nil, List.set_cons_zero, List.set_cons_succ, Option.map_some, Option.map_none, if_true, if_false, ite_true, ite_false, reduceIte, Bool.not_true, Bool.not_false, Bool.false_eq_true, decide_true, decide_false, Bool.and_true, Bool.true_and, Bool.and_false, Bool.false_and, b13, fdc, da, kd, mk, ixN_0]
    refine ⟨_, _, _, _, rfl, ⟨Int.ediv_nonneg a0 (by omega), b0, b1, c0, by omega⟩, (a % (k : Int)).toNat, ?_, ?_⟩
    · have := Int.emod_nonneg a (show (k : Int) ≠ 0 by omega)
      rw [Int.toNat_of_nonneg this, Int.emod_def, Int.mul_comm]
    · have := Int.emod_nonneg a (show (k : Int) ≠ 0 by omega)
      have := Int.emod_lt_of_pos a (show (0 : Int) < (k : Int) by omega)
      omega
  · have da : decide (0 < a) = false := decide_eq_false ha
    have m1 : mulOk 86028121 (c + 1) = true := mulOk_l (by decide) (by decide)
    have m4 : mulOk 49979693 (c + 1) = true := mulOk_l (by decide) (by decide)
    have s0 : 0 ≤ b + 86028121 * (c + 1) := by omega
    have s1 : b + 86028121 * (c + 1) < 2 ^ 200 := by omega
    generalize hs : b + 86028121 * (c + 1) = s at s0 s1
    have m2 : mulOk s s = true := mulOk_b s0 s1 s0 s1 (by omega)
    have q0 : 0 ≤ s * s := Int.mul_nonneg s0 s0
    have q1 : s * s < 2 ^ 401 := Int.lt_of_le_of_lt (Int.mul_le_mul (Int.le_of_lt s1) (Int.le_of_lt s1) s0 (by decide)) (by decide +kernel)
    have m3 : mulOk (s * s) s = true := mulOk_b q0 q1 s0 s1 (by omega)
    have t0 := Int.emod_nonneg (s * s * s + 49979693 * (c + 1) + 7) (show (100000000000000000000000000000000000000081 : Int) ≠ 0 by decide)
    have t1 := Int.emod_lt_of_pos (s * s * s + 49979693 * (c + 1) + 7) (show (0 : Int) < 100000000000000000000000000000000000000081 by decide)
    generalize ht : (s * s * s + 49979693 * (c + 1) + 7) % 100000000000000000000000000000000000000081 = t at t0 t1
    have m5 : mulOk t t = true := mulOk_b (k := 200) (j := 200) t0 (by omega) t0 (by omega) (by omega)
    simp only [lineOk4, lineOk5, lineOk6, lineOk7, lineOk8, lineOk9, lineOk10, lineOk11, lineOk12, lineOk13, lineOk14, lineOk15, lineOk16, lineOk17, lineOk18, lineOk19, lineOk20, lineOk21, lineOk22, lineOk23, lineOk24, lineOk25, lineOk26, lineOk27, lineOk28, lineOk29, lineOk30, lineOk31, lineOk32, lineOk33, lineOk34, lineOk35, lineOk36, lineOk37, lineOk38, lineOk39, lineOk40, nc0, nc1, nc2, nc3, nc4, lineOk0, lineOk1, lineOk2, lineOk3, Nat.reduceAdd, Nat.reduceSub, Int.reduceLT, Int.reduceLE, Int.reduceBEq, Int.reduceEq, Int.reduceAdd, Int.reduceSub, Int.reduceNeg, atI_0, atI_1, atI_2, atI_3, cut_1, cut_to1, eq_self, Option.bind_some, rb_ok, rb_exc, rb_bad, ro_ok, ro_exc, ro_bad, sq_nx, sq_rt, sq_bk, sq_ct, q_vgo1, q_vgo2, q_vgo3, q_pfin1, q_pfin2, q_pgo1, q_pgo2, q_cellD1, q_cellD2, q_cons21, q_cons22, q_cons23, q_tfin1, q_tfin2, q_tgo1, q_tgo2, q_isCell1, q_isCell2, q_appGo1, q_appGo2, q_extGo1, q_extGo2, q_popFin1, q_popFin2, q_popGo1, q_popGo2, q_newGo1, q_newGo2, q_setFin1, q_setFin2, q_setGo1, q_setGo2, q_chn1, q_chn2, q_compGo1, q_compGo2, q_ckGo1, q_ckGo2, e_var, e_glob, e_lit, e_pr, e_new, e_act0, e_act1, e_and, e_or, e_not, e_ite, e_chain, e_call, e_callk, e_comp, es_nil, es_cons, an_one, an_more, or_one, or_more, e_T, prim_eq, argsD, holds, deref_d, deref_loc, derefs_nil, derefs_cons, dsOf_nil, dsOf_cons, tru_eq, q_truD1, q_truD2, q_truD3, q_truD4, q_truD5, q_truD6, q_truD7, isLst_loc, do_app, do_ext, do_pop, new_eq, set_eq, p_tup, p_lst, p_add, p_sub, p_mul, p_fdiv, p_mod, p_pow, p_lt, p_le, p_gt, p_ge, p_max, p_min, p_eq, p_ne, p_in, p_nin, p_ix, p_slTo, p_slFrom, p_slB, p_neg, p_len, p_int, p_sum, p_all, p_tupL, p_tupT, p_lstL, p_lstT, p_isi, p_isN, p_notN, isin_ch, isin_tup, isin_list, isTy, q_addD1, q_addD2, q_addD3, q_addD4, q_ixD1, q_ixD2, q_ixD3, q_slD1, q_slD2, q_lenD1, q_lenD2, q_lenD3, q_ugo1, q_ugo2, q_sgo1, q_sgo2, q_agoF1, q_agoF2, q_ago1, q_ago2, q_ago3, aug_add, aug_sub, q_fgo1, q_fgo2, s_asg', s_unp', s_par', s_par3', s_setix', s_aug', s_ex', s_ite', s_for', s_while', s_ret', ss_nil', ss_cons', asg_one, asg_many, setMany, pk_d, fin_rt, fin_nx, fin_ex, nx_ok, pick_nil, pick_cons, startR, get_top, set_top, take_top, take_own, take_fd, take_fd2, stq_get, stq_set, stq_len, stq_app, stq_top, stq_take, stq_take2, eqOk_str, eqv_str, eqOk_int, eqv_int, eqOk_bool, eqv_bool, it_seq, it_r1, it_r2, it_el, it_et, it_zip, it_rev, q_seqD1, q_seqD2, q_seqD3, List.map_cons, List.map_nil, List.length_cons, List.length_nil, List.replicate_succ, List.replicate_zero, List.append_nil, List.nil_append, List.cons_append, List.getElem?_cons_zero, List.getElem?_cons_succ, List.getElem?_nil, List.set_cons_zero, List.set_cons_succ, Option.map_some, Option.map_none, if_true, if_false, ite_true, ite_false, reduceIte, Bool.not_true, Bool.not_false, Bool.false_eq_true, decide_true, decide_false, Bool.and_true, Bool.true_and, Bool.and_false, Bool.false_and, b13, fdc, da, kd, kp, m1, ixN_2, pow_41, pow_38, pow_9, ten_41, ten_38, ten_9, div_9, dpos_41, dpos_38, hs, m2, m3, m4, ht, m5]
    refine ⟨_, _, _, _, rfl, ⟨a0, b0, b1, by omega, by omega⟩, _, congrArg PyData.int (Int.toNat_of_nonneg (Int.emod_nonneg _ (show (k : Int) ≠ 0 by omega))).symm, ?_⟩
    have := Int.emod_nonneg ((t * t + 982451653) % 100000000000000000000000000000000000133 / 1000000000) (show (k : Int) ≠ 0 by omega)
    have := Int.emod_lt_of_pos ((t * t + 982451653) % 100000000000000000000000000000000000133 / 1000000000) (show (0 : Int) < (k : Int) by omega)
    omega
theorem Draws.mono {r : Res W} {m m' : Nat} {pre rest : Sto} {P Q : PyData → Prop} (h : Draws r m pre rest P) (hm : m ≤ m') (k : ∀ x, P x → Q x) : Draws r m' pre rest Q := by
  obtain ⟨x, a, b, c, e, f, p⟩ := h
  exact ⟨x, a, b, c, e, ⟨f.a0, f.b0, f.b1, f.c0, by have := f.c1; omega⟩, k x p⟩
theorem c_one (n m : Nat) (a b c : Int) (pre rest : Sto) (ds : List PyData) (f : FdOk m a b c) (hm : m ≤ 1000000) (h0 : 0 < ds.length) (h1 : ds.length ≤ 1000000) :
    Draws (callF FT (n + 2) 14 [.loc pre.length, .d (.list ds)] (stq pre (fdc a b c) rest)) (m + 1) pre rest fun x => x ∈ ds := by
  obtain ⟨x, a1, b1, c1, e, f1, r, rfl, hr⟩ := c_draw n ds.length m a b c pre rest f hm h0 h1
  rw [cf ft14]
  have g : ds[r]? = some ds[r] := List.getElem?_eq_getElem hr
  simp only [lineOk4, lineOk5, lineOk6, lineOk7, lineOk8, lineOk9, lineOk10, lineOk11, lineOk12, lineOk13, lineOk14, lineOk15, lineOk16, lineOk17, lineOk18, lineOk19, lineOk20, lineOk21, lineOk22, lineOk23, lineOk24, lineOk25, lineOk26, lineOk27, lineOk28, lineOk29, lineOk30, lineOk31, lineOk32, lineOk33, lineOk34, lineOk35, lineOk36, lineOk37, lineOk38, lineOk39, lineOk40, nc0, nc1, nc2, nc3, nc4, lineOk0, lineOk1, lineOk2, lineOk3, Nat.reduceAdd, Nat.reduceSub, Int.reduceLT, Int.reduceLE, Int.reduceBEq, Int.reduceEq, Int.reduceAdd, Int.reduceSub, Int.reduceNeg, atI_0, atI_1, atI_2, atI_3, cut_1, cut_to1, eq_self, Option.bind_some, rb_ok, rb_exc, rb_bad, ro_ok, ro_exc, ro_bad, sq_nx, sq_rt, sq_bk, sq_ct, q_vgo1, q_vgo2, q_vgo3, q_pfin1, q_pfin2, q_pgo1, q_pgo2, q_cellD1, q_cellD2, q_cons21, q_cons22, q_cons23, q_tfin1, q_tfin2, q_tgo1, q_tgo2, q_isCell1, q_isCell2, q_appGo1, q_appGo2, q_extGo1, q_extGo2, q_popFin1, q_popFin2, q_popGo1, q_popGo2, q_newGo1, q_newGo2, q_setFin1, q_setFin2, q_setGo1, q_setGo2, q_chn1, q_chn2, q_compGo1, q_compGo2, q_ckGo1, q_ckGo2, e_var, e_glob, e_lit, e_pr, e_new, e_act0, e_act1, e_and, e_or, e_not, e_ite, e_chain, e_call, e_callk, e_comp, es_nil, es_cons, an_one, an_more, or_one, or_more, e_T, prim_eq, argsD, holds, deref_d, deref_loc, derefs_nil, derefs_cons, dsOf_nil, dsOf_cons, tru_eq, q_truD1, q_truD2, q_truD3, q_truD4, q_truD5, q_truD6, q_truD7, isLst_loc, do_app, do_ext, do_pop, new_eq, set_eq, p_tup, p_lst, p_add, p_sub, p_mul, p_fdiv, p_mod, p_pow, p_lt, p_le, p_gt, p_ge, p_max, p_min, p_eq, p_ne, p_in, p_nin, p_ix, p_slTo, p_slFrom, p_slB, p_neg, p_len, p_int, p_sum, p_all, p_tupL, p_tupT, p_lstL, p_lstT, p_isi, p_isN, p_notN, isin_ch, isin_tup, isin_list, isTy, q_addD1, q_addD2, q_addD3, q_addD4, q_ixD1, q_ixD2, q_ixD3, q_slD1, q_slD2, q_lenD1, q_lenD2, q_lenD3, q_ugo1, q_ugo2, q_sgo1, q_sgo2, q_agoF1, q_agoF2, q_ago1, q_ago2, q_ago3, aug_add, aug_sub, q_fgo1, q_fgo2, s_asg', s_unp', s_par', s_par3', s_setix', s_aug', s_ex', s_ite', s_for', s_while', s_ret', ss_nil', ss_cons', asg_one, asg_many, setMany, pk_d, fin_rt, fin_nx, fin_ex, nx_ok, pick_nil, pick_cons, startR, get_top, set_top, take_top, take_own, take_fd, take_fd2, stq_get, stq_set, stq_len, stq_app, stq_top, stq_take, stq_take2, eqOk_str, eqv_str, eqOk_int, eqv_int, eqOk_bool, eqv_bool, it_seq, it_r1, it_r2, it_el, it_et, it_zip, it_rev, q_seqD1, q_seqD2, q_seqD3, List.map_cons, List.map_nil, List.length_cons, List.length_nil, List.replicate_succ, List.replicate_zero, List.append_nil, List.nil_append, List.cons_append, List.getElem?_cons_zero, List.getElem?_cons_succ, List.getElem?_nil, List.set_cons_zero, List.set_cons_succ, Option.map_some, Option.map_none, if_true, if_false, ite_true, ite_false, reduceIte, Bool.not_true, Bool.not_false, Bool.false_eq_true, decide_true, decide_false, Bool.and_true, Bool.true_and, Bool.and_false, Bool.false_and, b14, e, atI_n, g]
  exact ⟨_, _, _, _, rfl, f1, List.getElem_mem hr⟩
theorem c_is (n : Nat) (x y : Bool) (st : Sto) : callF FT (n + 1) 15 [.d (.bool x), .d (.bool y)] st = .ok (.d (.bool (x == y))) st := by
  rw [cf ft15]
  simp only [lineOk4, lineOk5, lineOk6, lineOk7, lineOk8, lineOk9, lineOk10, lineOk11, lineOk12, lineOk13, lineOk14, lineOk15, lineOk16, lineOk17, lineOk18, lineOk19, lineOk20, lineOk21, lineOk22, lineOk23, lineOk24, lineOk25, lineOk26, lineOk27, lineOk28, lineOk29, lineOk30, lineOk31, lineOk32, lineOk33, lineOk34, lineOk35, lineOk36, lineOk37, lineOk38, lineOk39, lineOk40, nc0, nc1, nc2, nc3, nc4, lineOk0, lineOk1, lineOk2, lineOk3, Nat.reduceAdd, Nat.reduceSub, Int.reduceLT, Int.reduceLE, Int.reduceBEq, Int.reduceEq, Int.reduceAdd, Int.reduceSub, Int.reduceNeg, atI_0, atI_1, atI_2, atI_3, cut_1, cut_to1, eq_self, Option.bind_some, rb_ok, rb_exc, rb_bad, ro_ok, ro_exc, ro_bad, sq_nx, sq_rt, sq_bk, sq_ct, q_vgo1, q_vgo2, q_vgo3, q_pfin1, q_pfin2, q_pgo1, q_pgo2, q_cellD1, q_cellD2, q_cons21, q_cons22, q_cons23, q_tfin1, q_tfin2, q_tgo1, q_tgo2, q_isCell1, q_isCell2, q_appGo1, q_appGo2, q_extGo1, q_extGo2, q_popFin1, q_popFin2, q_popGo1, q_popGo2, q_newGo1, q_newGo2, q_setFin1, q_setFin2, q_setGo1, q_setGo2, q_chn1, q_chn2, q_compGo1, q_compGo2, q_ckGo1, q_ckGo2, e_var, e_glob, e_lit, e_pr, e_new, e_act0, e_act1, e_and, e_or, e_not, e_ite, e_chain, e_call, e_callk, e_comp, es_nil, es_cons, an_one, an_more, or_one, or_more, e_T, prim_eq, argsD, holds, deref_d, deref_loc, derefs_nil, derefs_cons, dsOf_nil, dsOf_cons, tru_eq, q_truD1, q_truD2, q_truD3, q_truD4, q_truD5, q_truD6, q_truD7, isLst_loc, do_app, do_ext, do_pop, new_eq, set_eq, p_tup, p_lst, p_add, p_sub, p_mul, p_fdiv, p_mod, p_pow, p_lt, p_le, p_gt, p_ge, p_max, p_min, p_eq, p_ne, p_in, p_nin, p_ix, p_slTo, p_slFrom, p_slB, p_neg, p_len, p_int, p_sum, p_all, p_tupL, p_tupT, p_lstL, p_lstT, p_isi, p_isN, p_notN, isin_ch, isin_tup, isin_list, isTy, q_addD1, q_addD2, q_addD3, q_addD4, q_ixD1, q_ixD2, q_ixD3, q_slD1, q_slD2, q_lenD1, q_lenD2, q_lenD3, q_ugo1, q_ugo2, q_sgo1, q_sgo2, q_agoF1, q_agoF2, q_ago1, q_ago2, q_ago3, aug_add, aug_sub, q_fgo1, q_fgo2, s_asg', s_unp', s_par', s_par3', s_setix', s_aug', s_ex', s_ite', s_for', s_while', s_ret', ss_nil', ss_cons', asg_one, asg_many, setMany, pk_d, fin_rt, fin_nx, fin_ex, nx_ok, pick_nil, pick_cons, startR, get_top, set_top, take_top, take_own, take_fd, take_fd2, stq_get, stq_set, stq_len, stq_app, stq_top, stq_take, stq_take2, eqOk_str, eqv_str, eqOk_int, eqv_int, eqOk_bool, eqv_bool, it_seq, it_r1, it_r2, it_el, it_et, it_zip, it_rev, q_seqD1, q_seqD2, q_seqD3, List.map_cons, List.map_nil, List.length_cons, List.length_nil, List.replicate_succ, List.replicate_zero, List.append_nil, List.nil_append, List.cons_append, List.getElem?_cons_zero, List.getElem?_cons_succ, List.getElem?_nil, List.set_cons_zero, List.set_cons_succ, Option.map_some, Option.map_none, if_true, if_false, ite_true, ite_false, reduceIte, Bool.not_true, Bool.not_false, Bool.false_eq_true, decide_true, decide_false, Bool.and_true, Bool.true_and, Bool.and_false, Bool.false_and, b15]
def signs : List Nat := (Str.ofString "abcdefghijklmnopqrstuvwxyz0123456789").cps.toList
theorem sign_ok : ∀ i, i < 36 → ∃ c, signs[i]? = some c ∧ chOk c = true := by decide +kernel
theorem letter_ok : ∀ i, i < 26 → ∃ c, signs[i]? = some c ∧ decide (c ∈ lets) = true ∧ chOk c = true := by decide +kernel
end K60

set_option Elab.async false
set_option linter.all false
set_option maxRecDepth 100000
set_option maxHeartbeats 4000000
namespace K60
open PySem PySem.Spec L2 Mp
theorem cps_app (a b : Str) : (a ++ b).cps.toList = a.cps.toList ++ b.cps.toList := by
  show (a.cps ++ b.cps).toList = _
  simp
theorem len_app (a b : Str) : (a ++ b).length = a.length + b.length := by
  rw [len_cps, len_cps, len_cps, cps_app, List.length_append]
def WordP (w : Str) (k : Nat) : Prop := ∃ c r, w.cps.toList = c :: r ∧ r.length = k ∧ decide (c ∈ lets) = true ∧ (c :: r).all chOk = true
theorem WordP.ok {w : Str} {k : Nat} (h : WordP w k) (hk : k ≤ 11) : wordOk w = true := by
  obtain ⟨c, r, e, l, h1, h2⟩ := h
  unfold wordOk
  rw [e]
  dsimp only
  rw [h1, h2, decide_eq_true (by omega)]
  rfl
theorem WordP.len {w : Str} {k : Nat} (h : WordP w k) : w.length = k + 1 := by
  obtain ⟨c, r, e, l, h1, h2⟩ := h
  rw [len_cps, e, List.length_cons, l]
theorem sl36 : lineOk (Str.ofString "abcdefghijklmnopqrstuvwxyz0123456789").length = true := by decide +kernel
theorem len_one (c : Nat) : (⟨#[c]⟩ : Str).length = 1 := rfl
def wbody : Ss := (.cons (.asg 2 (.pr .add (.cons (.var 2) (.cons (.pr .ix (.cons (.var 1) (.cons (.call 13 (.cons (.var 0) (.cons (.lit (.int 36)) .nil))) .nil))) .nil)))) .nil)
theorem word_loop (n : Nat) (pre rest : Sto) : ∀ (xs : List PyData) (m k : Nat) (a b c : Int) (w : Str) (o : Option W), FdOk m a b c → m + xs.length ≤ 1000000 → WordP w k → k + xs.length ≤ 11 →
    ∃ w' a' b' c' o', forL (forF (callF FT (n + 1)) (.one 3) wbody) xs [some (.loc pre.length), some (.d (.str "abcdefghijklmnopqrstuvwxyz0123456789")), some (.d (.str w)), o] (stq pre (fdc a b c) rest) =
      .nx [some (.loc pre.length), some (.d (.str "abcdefghijklmnopqrstuvwxyz0123456789")), some (.d (.str w')), o'] (stq pre (fdc a' b' c') rest) ∧ FdOk (m + xs.length) a' b' c' ∧ WordP w' (k + xs.length)
  | [], m, k, a, b, c, w, o, f, _, hw, _ => ⟨w, a, b, c, o, rfl, f, hw⟩
  | x :: xs, m, k, a, b, c, w, o, f, hm, hw, hk => by
    rw [List.length_cons] at hm hk
    obtain ⟨_, a1, b1, c1, e, f1, r, rfl, hr⟩ := c_draw n 36 m a b c pre rest f (by omega) (by decide) (by decide)
    have e : callF FT (n + 1) 13 [.loc pre.length, .d (.int 36)] (stq pre (fdc a b c) rest) = _ := e
    obtain ⟨ch, g1, g2⟩ := sign_ok r hr
    have ks : (Str.ofString "abcdefghijklmnopqrstuvwxyz0123456789").cps.toList = signs := rfl
    have lk : lineOk (k + 1 + 1) = true := lineOk_small (by omega)
    have hw2 : WordP (w ++ ⟨#[ch]⟩) (k + 1) := by
      obtain ⟨c0, r0, e0, l0, h1, h2⟩ := hw
      refine ⟨c0, r0 ++ [ch], by rw [cps_app, e0]; rfl, by rw [List.length_append, l0]; rfl, h1, ?_⟩
      rw [← List.cons_append, List.all_append, h2]
      simp [g2]
    obtain ⟨w', a', b', c', o', e2, f2, h2⟩ := word_loop n pre rest xs (m + 1) (k + 1) a1 b1 c1 (w ++ ⟨#[ch]⟩) (some (.d x)) f1 (by omega) hw2 (by omega)
    refine ⟨w', a', b', c', o', ?_, by rw [List.length_cons]; rw [show m + (xs.length + 1) = m + 1 + xs.length by omega]; exact f2, by rw [List.length_cons]; rw [show k + (xs.length + 1) = k + 1 + xs.length by omega]; exact h2⟩
    rw [forL_cons, forF_one]
    simp only [lineOk4, lineOk5, lineOk6, lineOk7, lineOk8, lineOk9, lineOk10, lineOk11, lineOk12, lineOk13, lineOk14, lineOk15, lineOk16, lineOk17, lineOk18, lineOk19, lineOk20, lineOk21, lineOk22, lineOk23, lineOk24, lineOk25, lineOk26, lineOk27, lineOk28, lineOk29, lineOk30, lineOk31, lineOk32, lineOk33, lineOk34, lineOk35, lineOk36, lineOk37, lineOk38, lineOk39, lineOk40, nc0, nc1, nc2, nc3, nc4, lineOk0, lineOk1, lineOk2, lineOk3, Nat.reduceAdd, Nat.reduceSub, Int.reduceLT, Int.reduceLE, Int.reduceBEq, Int.reduceEq, Int.reduceAdd, Int.reduceSub, Int.reduceNeg, atI_0, atI_1, atI_2, atI_3, cut_1, cut_to1, eq_self, Option.bind_some, rb_ok, rb_exc, rb_bad, ro_ok, ro_exc, ro_bad, sq_nx, sq_rt, sq_bk, sq_ct, q_vgo1, q_vgo2, q_vgo3, q_pfin1, q_pfin2, q_pgo1, q_pgo2, q_cellD1, q_cellD2, q_cons21, q_cons22, q_cons23, q_tfin1, q_tfin2, q_tgo1, q_tgo2, q_isCell1, q_isCell2, q_appGo1, q_appGo2, q_extGo1, q_extGo2, q_popFin1, q_popFin2, q_popGo1, q_popGo2, q_newGo1, q_newGo2, q_setFin1, q_setFin2, q_setGo1, q_setGo2, q_chn1, q_chn2, q_compGo1, q_compGo2, q_ckGo1, q_ckGo2, e_var, e_glob, e_lit, e_pr, e_new, e_act0, e_act1, e_and, e_or, e_not, e_ite, e_chain, e_call, e_callk, e_comp, es_nil, es_cons, an_one, an_more, or_one, or_more, e_T, prim_eq, argsD, holds, deref_d, deref_loc, derefs_nil, derefs_cons, dsOf_nil, dsOf_cons, tru_eq, q_truD1, q_truD2, q_truD3, q_truD4, q_truD5, q_truD6, q_truD7, isLst_loc, do_app, do_ext, do_pop, new_eq, set_eq, p_tup, p_lst, p_add, p_sub, p_mul, p_fdiv, p_mod, p_pow, p_lt, p_le, p_gt, p_ge, p_max, p_min, p_eq, p_ne, p_in, p_nin, p_ix, p_slTo, p_slFrom, p_slB, p_neg, p_len, p_int, p_sum, p_all, p_tupL, p_tupT, p_lstL, p_lstT, p_isi, p_isN, p_notN, isin_ch, isin_tup, isin_list, isTy, q_addD1, q_addD2, q_addD3, q_addD4, q_ixD1, q_ixD2, q_ixD3, q_slD1, q_slD2, q_lenD1, q_lenD2, q_lenD3, q_ugo1, q_ugo2, q_sgo1, q_sgo2, q_agoF1, q_agoF2, q_ago1, q_ago2, q_ago3, aug_add, aug_sub, q_fgo1, q_fgo2, s_asg', s_unp', s_par', s_par3', s_setix', s_aug', s_ex', s_ite', s_for', s_while', s_ret', ss_nil', ss_cons', asg_one, asg_many, setMany, pk_d, fin_rt, fin_nx, fin_ex, nx_ok, pick_nil, pick_cons, startR, get_top, set_top, take_top, take_own, take_fd, take_fd2, stq_get, stq_set, stq_len, stq_app, stq_top, stq_take, stq_take2, eqOk_str, eqv_str, eqOk_int, eqv_int, eqOk_bool, eqv_bool, it_seq, it_r1, it_r2, it_el, it_et, it_zip, it_rev, q_seqD1, q_seqD2, q_seqD3, List.map_cons, List.map_nil, List.length_cons, List.length_nil, List.replicate_succ, List.replicate_zero, List.append_nil, List.nil_append, List.cons_append, List.getElem?_cons_zero, List.getElem?_cons_succ, List.getElem?_nil, List.set_cons_zero, List.set_cons_succ, Option.map_some, Option.map_none, if_true, if_false, ite_true, ite_false, reduceIte, Bool.not_true, Bool.not_false, Bool.false_eq_true, decide_true, decide_false, Bool.and_true, Bool.true_and, Bool.and_false, Bool.false_and, wbody, e, sl36, atI_n, ks, g1, hw.len, len_one, lk]
    rw [q_fstep1]
    exact e2
theorem c_word16 (n m : Nat) (a b c : Int) (pre rest : Sto) (f : FdOk m a b c) (hm : m ≤ 900000) :
    Draws (callF FT (n + 3) 16 [.loc pre.length] (stq pre (fdc a b c) rest)) (m + 13) pre rest fun x => ∃ w, x = .str w ∧ wordOk w = true := by
  obtain ⟨_, a1, b1, c1, e1, f1, r, rfl, hr⟩ := c_draw (n + 1) 26 m a b c pre rest f (by omega) (by decide) (by decide)
  have e1 : callF FT (n + 2) 13 [.loc pre.length, .d (.int 26)] (stq pre (fdc a b c) rest) = _ := e1
  obtain ⟨ch, g1, g2, g3⟩ := letter_ok r hr
  obtain ⟨y, a2, b2, c2, e2, f2, hy⟩ := c_one n (m + 1) a1 b1 c1 pre rest [.int 0, .int 1, .int 4, .int 11] f1 (by omega) (by simp) (by simp)
  have hy : ∃ j : Nat, y = .int j ∧ j ≤ 11 ∧ rngOk j = true := by
    simp only [List.mem_cons, List.not_mem_nil, or_false] at hy
    rcases hy with rfl | rfl | rfl | rfl
    · exact ⟨0, rfl, by decide, by decide⟩
    · exact ⟨1, rfl, by decide, by decide⟩
    · exact ⟨4, rfl, by decide, by decide⟩
    · exact ⟨11, rfl, by decide, by decide⟩
  obtain ⟨j, rfl, hj, hr2⟩ := hy
  have ks : (Str.ofString "abcdefghijklmnopqrstuvwxyz0123456789").cps.toList = signs := rfl
  have hw0 : WordP ⟨#[ch]⟩ 0 := ⟨ch, [], rfl, rfl, g2, by simp [g3]⟩
  have hl := range_len 0 ((j : Int)).toNat
  rw [Int.toNat_natCast] at hl
  obtain ⟨w', a', b', c', o', e3, f3, h3⟩ := word_loop (n + 1) pre rest (rangeD 0 j) (m + 1 + 1) 0 a2 b2 c2 ⟨#[ch]⟩ none f2 (by omega) hw0 (by omega)
  rw [hl] at f3 h3
  unfold wbody at e3
  rw [cf ft16]
  simp only [lineOk4, lineOk5, lineOk6, lineOk7, lineOk8, lineOk9, lineOk10, lineOk11, lineOk12, lineOk13, lineOk14, lineOk15, lineOk16, lineOk17, lineOk18, lineOk19, lineOk20, lineOk21, lineOk22, lineOk23, lineOk24, lineOk25, lineOk26, lineOk27, lineOk28, lineOk29, lineOk30, lineOk31, lineOk32, lineOk33, lineOk34, lineOk35, lineOk36, lineOk37, lineOk38, lineOk39, lineOk40, nc0, nc1, nc2, nc3, nc4, lineOk0, lineOk1, lineOk2, lineOk3, Nat.reduceAdd, Nat.reduceSub, Int.reduceLT, Int.reduceLE, Int.reduceBEq, Int.reduceEq, Int.reduceAdd, Int.reduceSub, Int.reduceNeg, atI_0, atI_1, atI_2, atI_3, cut_1, cut_to1, eq_self, Option.bind_some, rb_ok, rb_exc, rb_bad, ro_ok, ro_exc, ro_bad, sq_nx, sq_rt, sq_bk, sq_ct, q_vgo1, q_vgo2, q_vgo3, q_pfin1, q_pfin2, q_pgo1, q_pgo2, q_cellD1, q_cellD2, q_cons21, q_cons22, q_cons23, q_tfin1, q_tfin2, q_tgo1, q_tgo2, q_isCell1, q_isCell2, q_appGo1, q_appGo2, q_extGo1, q_extGo2, q_popFin1, q_popFin2, q_popGo1, q_popGo2, q_newGo1, q_newGo2, q_setFin1, q_setFin2, q_setGo1, q_setGo2, q_chn1, q_chn2, q_compGo1, q_compGo2, q_ckGo1, q_ckGo2, e_var, e_glob, e_lit, e_pr, e_new, e_act0, e_act1, e_and, e_or, e_not, e_ite, e_chain, e_call, e_callk, e_comp, es_nil, es_cons, an_one, an_more, or_one, or_more, e_T, prim_eq, argsD, holds, deref_d, deref_loc, derefs_nil, derefs_cons, dsOf_nil, dsOf_cons, tru_eq, q_truD1, q_truD2, q_truD3, q_truD4, q_truD5, q_truD6, q_truD7, isLst_loc, do_app, do_ext, do_pop, new_eq, set_eq, p_tup, p_lst, p_add, p_sub, p_mul, p_fdiv, p_mod, p_pow, p_lt, p_le, p_gt, p_ge, p_max, p_min, p_eq, p_ne, p_in, p_nin, p_ix, p_slTo, p_slFrom, p_slB, p_neg, p_len, p_int, p_sum, p_all, p_tupL, p_tupT, p_lstL, p_lstT, p_isi, p_isN, p_notN, isin_ch, isin_tup, isin_list, isTy, q_addD1, q_addD2, q_addD3, q_addD4, q_ixD1, q_ixD2, q_ixD3, q_slD1, q_slD2, q_lenD1, q_lenD2, q_lenD3, q_ugo1, q_ugo2, q_sgo1, q_sgo2, q_agoF1, q_agoF2, q_ago1, q_ago2, q_ago3, aug_add, aug_sub, q_fgo1, q_fgo2, s_asg', s_unp', s_par', s_par3', s_setix', s_aug', s_ex', s_ite', s_for', s_while', s_ret', ss_nil', ss_cons', asg_one, asg_many, setMany, pk_d, fin_rt, fin_nx, fin_ex, nx_ok, pick_nil, pick_cons, startR, get_top, set_top, take_top, take_own, take_fd, take_fd2, stq_get, stq_set, stq_len, stq_app, stq_top, stq_take, stq_take2, eqOk_str, eqv_str, eqOk_int, eqv_int, eqOk_bool, eqv_bool, it_seq, it_r1, it_r2, it_el, it_et, it_zip, it_rev, q_seqD1, q_seqD2, q_seqD3, List.map_cons, List.map_nil, List.length_cons, List.length_nil, List.replicate_succ, List.replicate_zero, List.append_nil, List.nil_append, List.cons_append, List.getElem?_cons_zero, List.getElem?_cons_succ, List.getElem?_nil, List.set_cons_zero, List.set_cons_succ, Option.map_some, Option.map_none, if_true, if_false, ite_true, ite_false, reduceIte, Bool.not_true, Bool.not_false, Bool.false_eq_true, decide_true, decide_false, Bool.and_true, Bool.true_and, Bool.and_false, Bool.false_and, b16, e1, sl36, atI_n, ks, g1, e2, hr2, Int.toNat_natCast, e3]
  exact ⟨_, _, _, _, rfl, ⟨f3.a0, f3.b0, f3.b1, f3.c0, by have := f3.c1; omega⟩, w', rfl, h3.ok (by omega)⟩
theorem lets_small : ∀ c ∈ lets, c < 1114112 := by decide +kernel
theorem figs_small : ∀ c ∈ figs, c < 1114112 := by decide +kernel
theorem word_str {w : Str} (h : wordOk w = true) : PyData.strOk w = true ∧ lineOk w.length = true := by
  unfold wordOk at h
  rcases q : w.cps.toList with _ | ⟨c, r⟩
  · rw [q] at h; cases h
  · rw [q] at h
    simp only [Bool.and_eq_true, decide_eq_true_eq] at h
    obtain ⟨h1, _, h3⟩ := h
    refine ⟨?_, lineOk_small (by rw [len_cps, q, List.length_cons]; omega)⟩
    unfold PyData.strOk
    rw [Array.all_eq_true']
    intro x hx
    have hx : x ∈ c :: r := by rw [← q]; exact Array.mem_toList_iff.mpr hx
    have := List.all_eq_true.mp h3 x hx
    unfold chOk at this
    rw [Bool.or_eq_true, decide_eq_true_eq, decide_eq_true_eq] at this
    refine decide_eq_true ?_
    rcases this with z | z
    · exact lets_small x z
    · exact figs_small x z
def GL (x : PyData) : Prop := leafR x = true ∧ rawNode x = true
theorem gl_con {w : Str} (h : wordOk w = true) : GL (.tuple [.str (Str.ofString "con"), .str w]) := by
  have e1 : (Str.ofString "con" == Str.ofString "var") = false := by decide +kernel
  have e2 : (Str.ofString "con" == Str.ofString "con") = true := by decide +kernel
  have e3 : (Str.ofString "con" == Str.ofString "lam") = false := by decide +kernel
  have e4 : (Str.ofString "con" == Str.ofString "app") = false := by decide +kernel
  obtain ⟨h1, h2⟩ := word_str h
  have r : rawNode (.tuple [.str (Str.ofString "con"), .str w]) = true := by simp only [rawNode, e1, e2, isWord, h, if_true, List.isEmpty_nil, Bool.and_self, Bool.false_eq_true, if_false]
  refine ⟨?_, r⟩
  unfold leafR
  rw [r]
  simp only [PyData.canLay0, PyData.canLayAll0, strFit, nodeFit, h1, h2, so_con, e3, e4]
  rfl
theorem gl_var {i : Int} (h0 : 0 ≤ i) (h1 : i ≤ 999) : GL (.tuple [.str (Str.ofString "var"), .int i]) := by
  have e1 : (Str.ofString "var" == Str.ofString "var") = true := by decide +kernel
  have e3 : (Str.ofString "var" == Str.ofString "lam") = false := by decide +kernel
  have e4 : (Str.ofString "var" == Str.ofString "app") = false := by decide +kernel
  have r : rawNode (.tuple [.str (Str.ofString "var"), .int i]) = true := by simp only [rawNode, e1, isInt, decide_eq_true h0, decide_eq_true h1, if_true, List.isEmpty_nil, Bool.and_self]
  refine ⟨?_, r⟩
  unfold leafR
  rw [r]
  simp only [PyData.canLay0, PyData.canLayAll0, strFit, nodeFit, so_var, e3, e4]
  rfl
theorem c_leaf (n m : Nat) (a b c : Int) (pre rest : Sto) (f : FdOk m a b c) (hm : m ≤ 800000) :
    Draws (callF FT (n + 4) 19 [.loc pre.length] (stq pre (fdc a b c) rest)) (m + 14) pre rest GL := by
  obtain ⟨_, a1, b1, c1, e1, f1, r, rfl, hr⟩ := c_draw (n + 2) 2 m a b c pre rest f (by omega) (by decide) (by decide)
  have e1 : callF FT (n + 3) 13 [.loc pre.length, .d (.int 2)] (stq pre (fdc a b c) rest) = _ := e1
  rw [cf ft19]
  cases k : ((r : Int) == 0)
  · obtain ⟨_, a2, b2, c2, e2, f2, q, rfl, hq⟩ := c_draw (n + 2) 1000 (m + 1) a1 b1 c1 pre rest f1 (by omega) (by decide) (by decide)
    have e2 : callF FT (n + 3) 13 [.loc pre.length, .d (.int 1000)] (stq pre (fdc a1 b1 c1) rest) = _ := e2
    obtain ⟨y, a3, b3, c3, e3, f3, hy⟩ := c_one (n + 1) (m + 1 + 1) a2 b2 c2 pre rest [.int 0, .int 1, .int 999, .int q] f2 (by omega) (by simp) (by simp)
    have hy : ∃ i, y = .int i ∧ 0 ≤ i ∧ i ≤ 999 := by
      simp only [List.mem_cons, List.not_mem_nil, or_false] at hy
      rcases hy with rfl | rfl | rfl | rfl
      · exact ⟨0, rfl, by decide, by decide⟩
      · exact ⟨1, rfl, by decide, by decide⟩
      · exact ⟨999, rfl, by decide, by decide⟩
      · exact ⟨q, rfl, by omega, by omega⟩
    obtain ⟨i, rfl, i0, i1⟩ := hy
    have lk4 : lineOk 4 = true := rfl
    simp only [lineOk4, lineOk5, lineOk6, lineOk7, lineOk8, lineOk9, lineOk10, lineOk11, lineOk12, lineOk13, lineOk14, lineOk15, lineOk16, lineOk17, lineOk18, lineOk19, lineOk20, lineOk21, lineOk22, lineOk23, lineOk24, lineOk25, lineOk26, lineOk27, lineOk28, lineOk29, lineOk30, lineOk31, lineOk32, lineOk33, lineOk34, lineOk35, lineOk36, lineOk37, lineOk38, lineOk39, lineOk40, nc0, nc1, nc2, nc3, nc4, lineOk0, lineOk1, lineOk2, lineOk3, Nat.reduceAdd, Nat.reduceSub, Int.reduceLT, Int.reduceLE, Int.reduceBEq, Int.reduceEq, Int.reduceAdd, Int.reduceSub, Int.reduceNeg, atI_0, atI_1, atI_2, atI_3, cut_1, cut_to1, eq_self, Option.bind_some, rb_ok, rb_exc, rb_bad, ro_ok, ro_exc, ro_bad, sq_nx, sq_rt, sq_bk, sq_ct, q_vgo1, q_vgo2, q_vgo3, q_pfin1, q_pfin2, q_pgo1, q_pgo2, q_cellD1, q_cellD2, q_cons21, q_cons22, q_cons23, q_tfin1, q_tfin2, q_tgo1, q_tgo2, q_isCell1, q_isCell2, q_appGo1, q_appGo2, q_extGo1, q_extGo2, q_popFin1, q_popFin2, q_popGo1, q_popGo2, q_newGo1, q_newGo2, q_setFin1, q_setFin2, q_setGo1, q_setGo2, q_chn1, q_chn2, q_compGo1, q_compGo2, q_ckGo1, q_ckGo2, e_var, e_glob, e_lit, e_pr, e_new, e_act0, e_act1, e_and, e_or, e_not, e_ite, e_chain, e_call, e_callk, e_comp, es_nil, es_cons, an_one, an_more, or_one, or_more, e_T, prim_eq, argsD, holds, deref_d, deref_loc, derefs_nil, derefs_cons, dsOf_nil, dsOf_cons, tru_eq, q_truD1, q_truD2, q_truD3, q_truD4, q_truD5, q_truD6, q_truD7, isLst_loc, do_app, do_ext, do_pop, new_eq, set_eq, p_tup, p_lst, p_add, p_sub, p_mul, p_fdiv, p_mod, p_pow, p_lt, p_le, p_gt, p_ge, p_max, p_min, p_eq, p_ne, p_in, p_nin, p_ix, p_slTo, p_slFrom, p_slB, p_neg, p_len, p_int, p_sum, p_all, p_tupL, p_tupT, p_lstL, p_lstT, p_isi, p_isN, p_notN, isin_ch, isin_tup, isin_list, isTy, q_addD1, q_addD2, q_addD3, q_addD4, q_ixD1, q_ixD2, q_ixD3, q_slD1, q_slD2, q_lenD1, q_lenD2, q_lenD3, q_ugo1, q_ugo2, q_sgo1, q_sgo2, q_agoF1, q_agoF2, q_ago1, q_ago2, q_ago3, aug_add, aug_sub, q_fgo1, q_fgo2, s_asg', s_unp', s_par', s_par3', s_setix', s_aug', s_ex', s_ite', s_for', s_while', s_ret', ss_nil', ss_cons', asg_one, asg_many, setMany, pk_d, fin_rt, fin_nx, fin_ex, nx_ok, pick_nil, pick_cons, startR, get_top, set_top, take_top, take_own, take_fd, take_fd2, stq_get, stq_set, stq_len, stq_app, stq_top, stq_take, stq_take2, eqOk_str, eqv_str, eqOk_int, eqv_int, eqOk_bool, eqv_bool, it_seq, it_r1, it_r2, it_el, it_et, it_zip, it_rev, q_seqD1, q_seqD2, q_seqD3, List.map_cons, List.map_nil, List.length_cons, List.length_nil, List.replicate_succ, List.replicate_zero, List.append_nil, List.nil_append, List.cons_append, List.getElem?_cons_zero, List.getElem?_cons_succ, List.getElem?_nil, List.set_cons_zero, List.set_cons_succ, Option.map_some, Option.map_none, if_true, if_false, ite_true, ite_false, reduceIte, Bool.not_true, Bool.not_false, Bool.false_eq_true, decide_true, decide_false, Bool.and_true, Bool.true_and, Bool.and_false, Bool.false_and, b19, e1, k, e2, e3, lk4]
    exact ⟨_, _, _, _, rfl, ⟨f3.a0, f3.b0, f3.b1, f3.c0, by have := f3.c1; omega⟩, gl_var i0 i1⟩
  · obtain ⟨_, a2, b2, c2, e2, f2, w, rfl, hw⟩ := c_word16 n (m + 1) a1 b1 c1 pre rest f1 (by omega)
    simp only [lineOk4, lineOk5, lineOk6, lineOk7, lineOk8, lineOk9, lineOk10, lineOk11, lineOk12, lineOk13, lineOk14, lineOk15, lineOk16, lineOk17, lineOk18, lineOk19, lineOk20, lineOk21, lineOk22, lineOk23, lineOk24, lineOk25, lineOk26, lineOk27, lineOk28, lineOk29, lineOk30, lineOk31, lineOk32, lineOk33, lineOk34, lineOk35, lineOk36, lineOk37, lineOk38, lineOk39, lineOk40, nc0, nc1, nc2, nc3, nc4, lineOk0, lineOk1, lineOk2, lineOk3, Nat.reduceAdd, Nat.reduceSub, Int.reduceLT, Int.reduceLE, Int.reduceBEq, Int.reduceEq, Int.reduceAdd, Int.reduceSub, Int.reduceNeg, atI_0, atI_1, atI_2, atI_3, cut_1, cut_to1, eq_self, Option.bind_some, rb_ok, rb_exc, rb_bad, ro_ok, ro_exc, ro_bad, sq_nx, sq_rt, sq_bk, sq_ct, q_vgo1, q_vgo2, q_vgo3, q_pfin1, q_pfin2, q_pgo1, q_pgo2, q_cellD1, q_cellD2, q_cons21, q_cons22, q_cons23, q_tfin1, q_tfin2, q_tgo1, q_tgo2, q_isCell1, q_isCell2, q_appGo1, q_appGo2, q_extGo1, q_extGo2, q_popFin1, q_popFin2, q_popGo1, q_popGo2, q_newGo1, q_newGo2, q_setFin1, q_setFin2, q_setGo1, q_setGo2, q_chn1, q_chn2, q_compGo1, q_compGo2, q_ckGo1, q_ckGo2, e_var, e_glob, e_lit, e_pr, e_new, e_act0, e_act1, e_and, e_or, e_not, e_ite, e_chain, e_call, e_callk, e_comp, es_nil, es_cons, an_one, an_more, or_one, or_more, e_T, prim_eq, argsD, holds, deref_d, deref_loc, derefs_nil, derefs_cons, dsOf_nil, dsOf_cons, tru_eq, q_truD1, q_truD2, q_truD3, q_truD4, q_truD5, q_truD6, q_truD7, isLst_loc, do_app, do_ext, do_pop, new_eq, set_eq, p_tup, p_lst, p_add, p_sub, p_mul, p_fdiv, p_mod, p_pow, p_lt, p_le, p_gt, p_ge, p_max, p_min, p_eq, p_ne, p_in, p_nin, p_ix, p_slTo, p_slFrom, p_slB, p_neg, p_len, p_int, p_sum, p_all, p_tupL, p_tupT, p_lstL, p_lstT, p_isi, p_isN, p_notN, isin_ch, isin_tup, isin_list, isTy, q_addD1, q_addD2, q_addD3, q_addD4, q_ixD1, q_ixD2, q_ixD3, q_slD1, q_slD2, q_lenD1, q_lenD2, q_lenD3, q_ugo1, q_ugo2, q_sgo1, q_sgo2, q_agoF1, q_agoF2, q_ago1, q_ago2, q_ago3, aug_add, aug_sub, q_fgo1, q_fgo2, s_asg', s_unp', s_par', s_par3', s_setix', s_aug', s_ex', s_ite', s_for', s_while', s_ret', ss_nil', ss_cons', asg_one, asg_many, setMany, pk_d, fin_rt, fin_nx, fin_ex, nx_ok, pick_nil, pick_cons, startR, get_top, set_top, take_top, take_own, take_fd, take_fd2, stq_get, stq_set, stq_len, stq_app, stq_top, stq_take, stq_take2, eqOk_str, eqv_str, eqOk_int, eqv_int, eqOk_bool, eqv_bool, it_seq, it_r1, it_r2, it_el, it_et, it_zip, it_rev, q_seqD1, q_seqD2, q_seqD3, List.map_cons, List.map_nil, List.length_cons, List.length_nil, List.replicate_succ, List.replicate_zero, List.append_nil, List.nil_append, List.cons_append, List.getElem?_cons_zero, List.getElem?_cons_succ, List.getElem?_nil, List.set_cons_zero, List.set_cons_succ, Option.map_some, Option.map_none, if_true, if_false, ite_true, ite_false, reduceIte, Bool.not_true, Bool.not_false, Bool.false_eq_true, decide_true, decide_false, Bool.and_true, Bool.true_and, Bool.and_false, Bool.false_and, b19, e1, k, e2]
    exact ⟨_, _, _, _, rfl, ⟨f2.a0, f2.b0, f2.b1, f2.c0, by have := f2.c1; omega⟩, gl_con hw⟩
end K60

set_option Elab.async false
set_option linter.all false
set_option maxRecDepth 100000
set_option maxHeartbeats 4000000
namespace K60
open PySem PySem.Spec L2 Mp
theorem so_Lam : PyData.strOk (Str.ofString "Lam") = true := by decide +kernel
theorem so_Any : PyData.strOk (Str.ofString "Any") = true := by decide +kernel
theorem so_fun : PyData.strOk (Str.ofString "fun") = true := by decide +kernel
theorem so_a : PyData.strOk (Str.ofString "a") = true := by decide +kernel
theorem sf_t (l : List PyData) : strFit (.tuple l) = true := (rfl)
theorem sf_l (l : List PyData) : strFit (.list l) = true := (rfl)
theorem nf_l (l : List PyData) : nodeFit (.list l) = true := (rfl)
theorem nf_2 (w : Str) (y : PyData) (l : List PyData) : nodeFit (.tuple (.str w :: y :: l)) = (PyData.strOk w && strFit y) := (rfl)
theorem hf_l (l : List PyData) : headFit (.list l) = true := (rfl)
theorem hf_1 (y : PyData) (l : List PyData) : headFit (.tuple (y :: l)) = PyData.canLay0 y := (rfl)
def GoodR (t : Tr) : Prop := t.all leafR = true ∧ t.all rawNode = true
theorem GoodR.leaf {x : PyData} (h : GL x) : GoodR (.leaf x) := h
theorem GoodR.un {a : Tr} (h : GoodR a) : GoodR (.un a) := h
theorem GoodR.bin {a b : Tr} (h : GoodR a) (h' : GoodR b) : GoodR (.bin a b) := by
  refine ⟨?_, ?_⟩
  · show (a.all leafR && b.all leafR) = true
    rw [h.1, h'.1]
    rfl
  · show (a.all rawNode && b.all rawNode) = true
    rw [h.2, h'.2]
    rfl
theorem sub1 (d : Nat) : ((d + 1 : Nat) : Int) - 1 = (d : Int) := by omega
theorem c_small (n : Nat) (pre rest : Sto) : ∀ (d m : Nat) (a b c : Int), FdOk m a b c → m + 16 * 2 ^ d ≤ 700000 →
    Draws (callF FT (n + d + 5) 20 [.loc pre.length, .d (.int d)] (stq pre (fdc a b c) rest)) (m + (16 * 2 ^ d - 1)) pre rest fun x => ∃ t, x = encR t ∧ GoodR t ∧ t.tall ≤ d + 1
  | 0, m, a, b, c, f, hm => by
    obtain ⟨x, a1, b1, c1, e1, f1, g1⟩ := c_leaf n m a b c pre rest f (by omega)
    rw [show n + 0 + 5 = n + 4 + 1 from rfl, cf ft20]
    simp only [nc0]
    simp only [lineOk4, lineOk5, lineOk6, lineOk7, lineOk8, lineOk9, lineOk10, lineOk11, lineOk12, lineOk13, lineOk14, lineOk15, lineOk16, lineOk17, lineOk18, lineOk19, lineOk20, lineOk21, lineOk22, lineOk23, lineOk24, lineOk25, lineOk26, lineOk27, lineOk28, lineOk29, lineOk30, lineOk31, lineOk32, lineOk33, lineOk34, lineOk35, lineOk36, lineOk37, lineOk38, lineOk39, lineOk40, nc0, nc1, nc2, nc3, nc4, lineOk0, lineOk1, lineOk2, lineOk3, Nat.reduceAdd, Nat.reduceSub, Int.reduceLT, Int.reduceLE, Int.reduceBEq, Int.reduceEq, Int.reduceAdd, Int.reduceSub, Int.reduceNeg, atI_0, atI_1, atI_2, atI_3, cut_1, cut_to1, eq_self, Option.bind_some, rb_ok, rb_exc, rb_bad, ro_ok, ro_exc, ro_bad, sq_nx, sq_rt, sq_bk, sq_ct, q_vgo1, q_vgo2, q_vgo3, q_pfin1, q_pfin2, q_pgo1, q_pgo2, q_cellD1, q_cellD2, q_cons21, q_cons22, q_cons23, q_tfin1, q_tfin2, q_tgo1, q_tgo2, q_isCell1, q_isCell2, q_appGo1, q_appGo2, q_extGo1, q_extGo2, q_popFin1, q_popFin2, q_popGo1, q_popGo2, q_newGo1, q_newGo2, q_setFin1, q_setFin2, q_setGo1, q_setGo2, q_chn1, q_chn2, q_compGo1, q_compGo2, q_ckGo1, q_ckGo2, e_var, e_glob, e_lit, e_pr, e_new, e_act0, e_act1, e_and, e_or, e_not, e_ite, e_chain, e_call, e_callk, e_comp, es_nil, es_cons, an_one, an_more, or_one, or_more, e_T, prim_eq, argsD, holds, deref_d, deref_loc, derefs_nil, derefs_cons, dsOf_nil, dsOf_cons, tru_eq, q_truD1, q_truD2, q_truD3, q_truD4, q_truD5, q_truD6, q_truD7, isLst_loc, do_app, do_ext, do_pop, new_eq, set_eq, p_tup, p_lst, p_add, p_sub, p_mul, p_fdiv, p_mod, p_pow, p_lt, p_le, p_gt, p_ge, p_max, p_min, p_eq, p_ne, p_in, p_nin, p_ix, p_slTo, p_slFrom, p_slB, p_neg, p_len, p_int, p_sum, p_all, p_tupL, p_tupT, p_lstL, p_lstT, p_isi, p_isN, p_notN, isin_ch, isin_tup, isin_list, isTy, q_addD1, q_addD2, q_addD3, q_addD4, q_ixD1, q_ixD2, q_ixD3, q_slD1, q_slD2, q_lenD1, q_lenD2, q_lenD3, q_ugo1, q_ugo2, q_sgo1, q_sgo2, q_agoF1, q_agoF2, q_ago1, q_ago2, q_ago3, aug_add, aug_sub, q_fgo1, q_fgo2, s_asg', s_unp', s_par', s_par3', s_setix', s_aug', s_ex', s_ite', s_for', s_while', s_ret', ss_nil', ss_cons', asg_one, asg_many, setMany, pk_d, fin_rt, fin_nx, fin_ex, nx_ok, pick_nil, pick_cons, startR, get_top, set_top, take_top, take_own, take_fd, take_fd2, stq_get, stq_set, stq_len, stq_app, stq_top, stq_take, stq_take2, eqOk_str, eqv_str, eqOk_int, eqv_int, eqOk_bool, eqv_bool, it_seq, it_r1, it_r2, it_el, it_et, it_zip, it_rev, q_seqD1, q_seqD2, q_seqD3, List.map_cons, List.map_nil, List.length_cons, List.length_nil, List.replicate_succ, List.replicate_zero, List.append_nil, List.nil_append, List.cons_append, List.getElem?_cons_zero, List.getElem?_cons_succ, List.getElem?_nil, List.set_cons_zero, List.set_cons_succ, Option.map_some, Option.map_none, if_true, if_false, ite_true, ite_false, reduceIte, Bool.not_true, Bool.not_false, Bool.false_eq_true, decide_true, decide_false, Bool.and_true, Bool.true_and, Bool.and_false, Bool.false_and, b20, e1]
    exact ⟨_, _, _, _, rfl, ⟨f1.a0, f1.b0, f1.b1, f1.c0, by have := f1.c1; omega⟩, .leaf x, rfl, GoodR.leaf g1, Nat.le_refl _⟩
  | d + 1, m, a, b, c, f, hm => by
    have p2 : 2 ^ (d + 1) = 2 * 2 ^ d := by rw [Nat.pow_succ]; omega
    rw [p2] at hm ⊢
    have pp : 0 < 2 ^ d := Nat.pow_pos (by decide)
    obtain ⟨_, a1, b1, c1, e1, f1, r, rfl, hr⟩ := c_draw (n + d + 4) 5 m a b c pre rest f (by omega) (by decide) (by decide)
    have e1 : callF FT (n + d + 5) 13 [.loc pre.length, .d (.int 5)] (stq pre (fdc a b c) rest) = _ := e1
    have d0 : decide ((0 : Int) < ((d + 1 : Nat) : Int)) = true := decide_eq_true (by omega)
    rw [show n + (d + 1) + 5 = n + d + 5 + 1 by omega, cf ft20]
    cases k : ((r : Int) == 0)
    · cases k3 : decide ((r : Int) < 3)
      · obtain ⟨_, a2, b2, c2, e2, f2, t, rfl, g2, h2⟩ := c_small n pre rest d (m + 1) a1 b1 c1 f1 (by omega)
        obtain ⟨_, a3, b3, c3, e3, f3, u, rfl, g3, h3⟩ := c_small n pre rest d (m + 1 + (16 * 2 ^ d - 1)) a2 b2 c2 f2 (by omega)
        simp only [lineOk4, lineOk5, lineOk6, lineOk7, lineOk8, lineOk9, lineOk10, lineOk11, lineOk12, lineOk13, lineOk14, lineOk15, lineOk16, lineOk17, lineOk18, lineOk19, lineOk20, lineOk21, lineOk22, lineOk23, lineOk24, lineOk25, lineOk26, lineOk27, lineOk28, lineOk29, lineOk30, lineOk31, lineOk32, lineOk33, lineOk34, lineOk35, lineOk36, lineOk37, lineOk38, lineOk39, lineOk40, nc0, nc1, nc2, nc3, nc4, lineOk0, lineOk1, lineOk2, lineOk3, Nat.reduceAdd, Nat.reduceSub, Int.reduceLT, Int.reduceLE, Int.reduceBEq, Int.reduceEq, Int.reduceAdd, Int.reduceSub, Int.reduceNeg, atI_0, atI_1, atI_2, atI_3, cut_1, cut_to1, eq_self, Option.bind_some, rb_ok, rb_exc, rb_bad, ro_ok, ro_exc, ro_bad, sq_nx, sq_rt, sq_bk, sq_ct, q_vgo1, q_vgo2, q_vgo3, q_pfin1, q_pfin2, q_pgo1, q_pgo2, q_cellD1, q_cellD2, q_cons21, q_cons22, q_cons23, q_tfin1, q_tfin2, q_tgo1, q_tgo2, q_isCell1, q_isCell2, q_appGo1, q_appGo2, q_extGo1, q_extGo2, q_popFin1, q_popFin2, q_popGo1, q_popGo2, q_newGo1, q_newGo2, q_setFin1, q_setFin2, q_setGo1, q_setGo2, q_chn1, q_chn2, q_compGo1, q_compGo2, q_ckGo1, q_ckGo2, e_var, e_glob, e_lit, e_pr, e_new, e_act0, e_act1, e_and, e_or, e_not, e_ite, e_chain, e_call, e_callk, e_comp, es_nil, es_cons, an_one, an_more, or_one, or_more, e_T, prim_eq, argsD, holds, deref_d, deref_loc, derefs_nil, derefs_cons, dsOf_nil, dsOf_cons, tru_eq, q_truD1, q_truD2, q_truD3, q_truD4, q_truD5, q_truD6, q_truD7, isLst_loc, do_app, do_ext, do_pop, new_eq, set_eq, p_tup, p_lst, p_add, p_sub, p_mul, p_fdiv, p_mod, p_pow, p_lt, p_le, p_gt, p_ge, p_max, p_min, p_eq, p_ne, p_in, p_nin, p_ix, p_slTo, p_slFrom, p_slB, p_neg, p_len, p_int, p_sum, p_all, p_tupL, p_tupT, p_lstL, p_lstT, p_isi, p_isN, p_notN, isin_ch, isin_tup, isin_list, isTy, q_addD1, q_addD2, q_addD3, q_addD4, q_ixD1, q_ixD2, q_ixD3, q_slD1, q_slD2, q_lenD1, q_lenD2, q_lenD3, q_ugo1, q_ugo2, q_sgo1, q_sgo2, q_agoF1, q_agoF2, q_ago1, q_ago2, q_ago3, aug_add, aug_sub, q_fgo1, q_fgo2, s_asg', s_unp', s_par', s_par3', s_setix', s_aug', s_ex', s_ite', s_for', s_while', s_ret', ss_nil', ss_cons', asg_one, asg_many, setMany, pk_d, fin_rt, fin_nx, fin_ex, nx_ok, pick_nil, pick_cons, startR, get_top, set_top, take_top, take_own, take_fd, take_fd2, stq_get, stq_set, stq_len, stq_app, stq_top, stq_take, stq_take2, eqOk_str, eqv_str, eqOk_int, eqv_int, eqOk_bool, eqv_bool, it_seq, it_r1, it_r2, it_el, it_et, it_zip, it_rev, q_seqD1, q_seqD2, q_seqD3, List.map_cons, List.map_nil, List.length_cons, List.length_nil, List.replicate_succ, List.replicate_zero, List.append_nil, List.nil_append, List.cons_append, List.getElem?_cons_zero, List.getElem?_cons_succ, List.getElem?_nil, List.set_cons_zero, List.set_cons_succ, Option.map_some, Option.map_none, if_true, if_false, ite_true, ite_false, reduceIte, Bool.not_true, Bool.not_false, Bool.false_eq_true, decide_true, decide_false, Bool.and_true, Bool.true_and, Bool.and_false, Bool.false_and, b20, d0, e1, k, k3, sub1, e2, e3]
        exact ⟨_, _, _, _, rfl, ⟨f3.a0, f3.b0, f3.b1, f3.c0, by have := f3.c1; omega⟩, .bin t u, rfl, g2.bin g3, by show max t.tall u.tall + 1 ≤ _; omega⟩
      · obtain ⟨_, a2, b2, c2, e2, f2, t, rfl, g2, h2⟩ := c_small n pre rest d (m + 1) a1 b1 c1 f1 (by omega)
        simp only [lineOk4, lineOk5, lineOk6, lineOk7, lineOk8, lineOk9, lineOk10, lineOk11, lineOk12, lineOk13, lineOk14, lineOk15, lineOk16, lineOk17, lineOk18, lineOk19, lineOk20, lineOk21, lineOk22, lineOk23, lineOk24, lineOk25, lineOk26, lineOk27, lineOk28, lineOk29, lineOk30, lineOk31, lineOk32, lineOk33, lineOk34, lineOk35, lineOk36, lineOk37, lineOk38, lineOk39, lineOk40, nc0, nc1, nc2, nc3, nc4, lineOk0, lineOk1, lineOk2, lineOk3, Nat.reduceAdd, Nat.reduceSub, Int.reduceLT, Int.reduceLE, Int.reduceBEq, Int.reduceEq, Int.reduceAdd, Int.reduceSub, Int.reduceNeg, atI_0, atI_1, atI_2, atI_3, cut_1, cut_to1, eq_self, Option.bind_some, rb_ok, rb_exc, rb_bad, ro_ok, ro_exc, ro_bad, sq_nx, sq_rt, sq_bk, sq_ct, q_vgo1, q_vgo2, q_vgo3, q_pfin1, q_pfin2, q_pgo1, q_pgo2, q_cellD1, q_cellD2, q_cons21, q_cons22, q_cons23, q_tfin1, q_tfin2, q_tgo1, q_tgo2, q_isCell1, q_isCell2, q_appGo1, q_appGo2, q_extGo1, q_extGo2, q_popFin1, q_popFin2, q_popGo1, q_popGo2, q_newGo1, q_newGo2, q_setFin1, q_setFin2, q_setGo1, q_setGo2, q_chn1, q_chn2, q_compGo1, q_compGo2, q_ckGo1, q_ckGo2, e_var, e_glob, e_lit, e_pr, e_new, e_act0, e_act1, e_and, e_or, e_not, e_ite, e_chain, e_call, e_callk, e_comp, es_nil, es_cons, an_one, an_more, or_one, or_more, e_T, prim_eq, argsD, holds, deref_d, deref_loc, derefs_nil, derefs_cons, dsOf_nil, dsOf_cons, tru_eq, q_truD1, q_truD2, q_truD3, q_truD4, q_truD5, q_truD6, q_truD7, isLst_loc, do_app, do_ext, do_pop, new_eq, set_eq, p_tup, p_lst, p_add, p_sub, p_mul, p_fdiv, p_mod, p_pow, p_lt, p_le, p_gt, p_ge, p_max, p_min, p_eq, p_ne, p_in, p_nin, p_ix, p_slTo, p_slFrom, p_slB, p_neg, p_len, p_int, p_sum, p_all, p_tupL, p_tupT, p_lstL, p_lstT, p_isi, p_isN, p_notN, isin_ch, isin_tup, isin_list, isTy, q_addD1, q_addD2, q_addD3, q_addD4, q_ixD1, q_ixD2, q_ixD3, q_slD1, q_slD2, q_lenD1, q_lenD2, q_lenD3, q_ugo1, q_ugo2, q_sgo1, q_sgo2, q_agoF1, q_agoF2, q_ago1, q_ago2, q_ago3, aug_add, aug_sub, q_fgo1, q_fgo2, s_asg', s_unp', s_par', s_par3', s_setix', s_aug', s_ex', s_ite', s_for', s_while', s_ret', ss_nil', ss_cons', asg_one, asg_many, setMany, pk_d, fin_rt, fin_nx, fin_ex, nx_ok, pick_nil, pick_cons, startR, get_top, set_top, take_top, take_own, take_fd, take_fd2, stq_get, stq_set, stq_len, stq_app, stq_top, stq_take, stq_take2, eqOk_str, eqv_str, eqOk_int, eqv_int, eqOk_bool, eqv_bool, it_seq, it_r1, it_r2, it_el, it_et, it_zip, it_rev, q_seqD1, q_seqD2, q_seqD3, List.map_cons, List.map_nil, List.length_cons, List.length_nil, List.replicate_succ, List.replicate_zero, List.append_nil, List.nil_append, List.cons_append, List.getElem?_cons_zero, List.getElem?_cons_succ, List.getElem?_nil, List.set_cons_zero, List.set_cons_succ, Option.map_some, Option.map_none, if_true, if_false, ite_true, ite_false, reduceIte, Bool.not_true, Bool.not_false, Bool.false_eq_true, decide_true, decide_false, Bool.and_true, Bool.true_and, Bool.and_false, Bool.false_and, b20, d0, e1, k, k3, sub1, e2]
        exact ⟨_, _, _, _, rfl, ⟨f2.a0, f2.b0, f2.b1, f2.c0, by have := f2.c1; omega⟩, .un t, rfl, g2.un, by show t.tall + 1 ≤ _; omega⟩
    · obtain ⟨x, a2, b2, c2, e2, f2, g2⟩ := c_leaf (n + d + 1) (m + 1) a1 b1 c1 pre rest f1 (by omega)
      have e2 : callF FT (n + d + 5) 19 [.loc pre.length] (stq pre (fdc a1 b1 c1) rest) = _ := e2
      simp only [lineOk4, lineOk5, lineOk6, lineOk7, lineOk8, lineOk9, lineOk10, lineOk11, lineOk12, lineOk13, lineOk14, lineOk15, lineOk16, lineOk17, lineOk18, lineOk19, lineOk20, lineOk21, lineOk22, lineOk23, lineOk24, lineOk25, lineOk26, lineOk27, lineOk28, lineOk29, lineOk30, lineOk31, lineOk32, lineOk33, lineOk34, lineOk35, lineOk36, lineOk37, lineOk38, lineOk39, lineOk40, nc0, nc1, nc2, nc3, nc4, lineOk0, lineOk1, lineOk2, lineOk3, Nat.reduceAdd, Nat.reduceSub, Int.reduceLT, Int.reduceLE, Int.reduceBEq, Int.reduceEq, Int.reduceAdd, Int.reduceSub, Int.reduceNeg, atI_0, atI_1, atI_2, atI_3, cut_1, cut_to1, eq_self, Option.bind_some, rb_ok, rb_exc, rb_bad, ro_ok, ro_exc, ro_bad, sq_nx, sq_rt, sq_bk, sq_ct, q_vgo1, q_vgo2, q_vgo3, q_pfin1, q_pfin2, q_pgo1, q_pgo2, q_cellD1, q_cellD2, q_cons21, q_cons22, q_cons23, q_tfin1, q_tfin2, q_tgo1, q_tgo2, q_isCell1, q_isCell2, q_appGo1, q_appGo2, q_extGo1, q_extGo2, q_popFin1, q_popFin2, q_popGo1, q_popGo2, q_newGo1, q_newGo2, q_setFin1, q_setFin2, q_setGo1, q_setGo2, q_chn1, q_chn2, q_compGo1, q_compGo2, q_ckGo1, q_ckGo2, e_var, e_glob, e_lit, e_pr, e_new, e_act0, e_act1, e_and, e_or, e_not, e_ite, e_chain, e_call, e_callk, e_comp, es_nil, es_cons, an_one, an_more, or_one, or_more, e_T, prim_eq, argsD, holds, deref_d, deref_loc, derefs_nil, derefs_cons, dsOf_nil, dsOf_cons, tru_eq, q_truD1, q_truD2, q_truD3, q_truD4, q_truD5, q_truD6, q_truD7, isLst_loc, do_app, do_ext, do_pop, new_eq, set_eq, p_tup, p_lst, p_add, p_sub, p_mul, p_fdiv, p_mod, p_pow, p_lt, p_le, p_gt, p_ge, p_max, p_min, p_eq, p_ne, p_in, p_nin, p_ix, p_slTo, p_slFrom, p_slB, p_neg, p_len, p_int, p_sum, p_all, p_tupL, p_tupT, p_lstL, p_lstT, p_isi, p_isN, p_notN, isin_ch, isin_tup, isin_list, isTy, q_addD1, q_addD2, q_addD3, q_addD4, q_ixD1, q_ixD2, q_ixD3, q_slD1, q_slD2, q_lenD1, q_lenD2, q_lenD3, q_ugo1, q_ugo2, q_sgo1, q_sgo2, q_agoF1, q_agoF2, q_ago1, q_ago2, q_ago3, aug_add, aug_sub, q_fgo1, q_fgo2, s_asg', s_unp', s_par', s_par3', s_setix', s_aug', s_ex', s_ite', s_for', s_while', s_ret', ss_nil', ss_cons', asg_one, asg_many, setMany, pk_d, fin_rt, fin_nx, fin_ex, nx_ok, pick_nil, pick_cons, startR, get_top, set_top, take_top, take_own, take_fd, take_fd2, stq_get, stq_set, stq_len, stq_app, stq_top, stq_take, stq_take2, eqOk_str, eqv_str, eqOk_int, eqv_int, eqOk_bool, eqv_bool, it_seq, it_r1, it_r2, it_el, it_et, it_zip, it_rev, q_seqD1, q_seqD2, q_seqD3, List.map_cons, List.map_nil, List.length_cons, List.length_nil, List.replicate_succ, List.replicate_zero, List.append_nil, List.nil_append, List.cons_append, List.getElem?_cons_zero, List.getElem?_cons_succ, List.getElem?_nil, List.set_cons_zero, List.set_cons_succ, Option.map_some, Option.map_none, if_true, if_false, ite_true, ite_false, reduceIte, Bool.not_true, Bool.not_false, Bool.false_eq_true, decide_true, decide_false, Bool.and_true, Bool.true_and, Bool.and_false, Bool.false_and, b20, d0, e1, k, e2]
      exact ⟨_, _, _, _, rfl, ⟨f2.a0, f2.b0, f2.b1, f2.c0, by have := f2.c1; omega⟩, .leaf x, rfl, GoodR.leaf g2, by show 1 ≤ _; omega⟩
theorem c_flat (n : Nat) (x0 : PyData) (h : GL x0) : ∀ (k many : Nat) (st : Sto), 1 ≤ many → many < 2 ^ (k + 1) →
    ∃ t, callF FT (n + k + 1) 21 [.d x0, .d (.int many)] st = .ok (.d (encR t)) st ∧ GoodR t ∧ t.size = many ∧ t.tall ≤ k + 1
  | 0, many, st, h1, h2 => by
    have e : many = 1 := by omega
    subst e
    rw [show n + 0 + 1 = n + 1 from rfl, cf ft21]
    simp only [nc1]
    simp only [lineOk4, lineOk5, lineOk6, lineOk7, lineOk8, lineOk9, lineOk10, lineOk11, lineOk12, lineOk13, lineOk14, lineOk15, lineOk16, lineOk17, lineOk18, lineOk19, lineOk20, lineOk21, lineOk22, lineOk23, lineOk24, lineOk25, lineOk26, lineOk27, lineOk28, lineOk29, lineOk30, lineOk31, lineOk32, lineOk33, lineOk34, lineOk35, lineOk36, lineOk37, lineOk38, lineOk39, lineOk40, nc0, nc1, nc2, nc3, nc4, lineOk0, lineOk1, lineOk2, lineOk3, Nat.reduceAdd, Nat.reduceSub, Int.reduceLT, Int.reduceLE, Int.reduceBEq, Int.reduceEq, Int.reduceAdd, Int.reduceSub, Int.reduceNeg, atI_0, atI_1, atI_2, atI_3, cut_1, cut_to1, eq_self, Option.bind_some, rb_ok, rb_exc, rb_bad, ro_ok, ro_exc, ro_bad, sq_nx, sq_rt, sq_bk, sq_ct, q_vgo1, q_vgo2, q_vgo3, q_pfin1, q_pfin2, q_pgo1, q_pgo2, q_cellD1, q_cellD2, q_cons21, q_cons22, q_cons23, q_tfin1, q_tfin2, q_tgo1, q_tgo2, q_isCell1, q_isCell2, q_appGo1, q_appGo2, q_extGo1, q_extGo2, q_popFin1, q_popFin2, q_popGo1, q_popGo2, q_newGo1, q_newGo2, q_setFin1, q_setFin2, q_setGo1, q_setGo2, q_chn1, q_chn2, q_compGo1, q_compGo2, q_ckGo1, q_ckGo2, e_var, e_glob, e_lit, e_pr, e_new, e_act0, e_act1, e_and, e_or, e_not, e_ite, e_chain, e_call, e_callk, e_comp, es_nil, es_cons, an_one, an_more, or_one, or_more, e_T, prim_eq, argsD, holds, deref_d, deref_loc, derefs_nil, derefs_cons, dsOf_nil, dsOf_cons, tru_eq, q_truD1, q_truD2, q_truD3, q_truD4, q_truD5, q_truD6, q_truD7, isLst_loc, do_app, do_ext, do_pop, new_eq, set_eq, p_tup, p_lst, p_add, p_sub, p_mul, p_fdiv, p_mod, p_pow, p_lt, p_le, p_gt, p_ge, p_max, p_min, p_eq, p_ne, p_in, p_nin, p_ix, p_slTo, p_slFrom, p_slB, p_neg, p_len, p_int, p_sum, p_all, p_tupL, p_tupT, p_lstL, p_lstT, p_isi, p_isN, p_notN, isin_ch, isin_tup, isin_list, isTy, q_addD1, q_addD2, q_addD3, q_addD4, q_ixD1, q_ixD2, q_ixD3, q_slD1, q_slD2, q_lenD1, q_lenD2, q_lenD3, q_ugo1, q_ugo2, q_sgo1, q_sgo2, q_agoF1, q_agoF2, q_ago1, q_ago2, q_ago3, aug_add, aug_sub, q_fgo1, q_fgo2, s_asg', s_unp', s_par', s_par3', s_setix', s_aug', s_ex', s_ite', s_for', s_while', s_ret', ss_nil', ss_cons', asg_one, asg_many, setMany, pk_d, fin_rt, fin_nx, fin_ex, nx_ok, pick_nil, pick_cons, startR, get_top, set_top, take_top, take_own, take_fd, take_fd2, stq_get, stq_set, stq_len, stq_app, stq_top, stq_take, stq_take2, eqOk_str, eqv_str, eqOk_int, eqv_int, eqOk_bool, eqv_bool, it_seq, it_r1, it_r2, it_el, it_et, it_zip, it_rev, q_seqD1, q_seqD2, q_seqD3, List.map_cons, List.map_nil, List.length_cons, List.length_nil, List.replicate_succ, List.replicate_zero, List.append_nil, List.nil_append, List.cons_append, List.getElem?_cons_zero, List.getElem?_cons_succ, List.getElem?_nil, List.set_cons_zero, List.set_cons_succ, Option.map_some, Option.map_none, if_true, if_false, ite_true, ite_false, reduceIte, Bool.not_true, Bool.not_false, Bool.false_eq_true, decide_true, decide_false, Bool.and_true, Bool.true_and, Bool.and_false, Bool.false_and, b21]
    exact ⟨.leaf x0, rfl, h, rfl, Nat.le_refl _⟩
  | k + 1, many, st, h1, h2 => by
    have p2 : 2 ^ (k + 1 + 1) = 2 * 2 ^ (k + 1) := by rw [Nat.pow_succ 2 (k + 1)]; omega
    rw [p2] at h2
    rw [show n + (k + 1) + 1 = n + k + 1 + 1 by omega, cf ft21]
    by_cases c3 : many < 3
    · have d3 : decide ((many : Int) < 3) = true := decide_eq_true (by omega)
      by_cases c2 : many = 2
      · subst c2
        simp only [nc2]
        simp only [lineOk4, lineOk5, lineOk6, lineOk7, lineOk8, lineOk9, lineOk10, lineOk11, lineOk12, lineOk13, lineOk14, lineOk15, lineOk16, lineOk17, lineOk18, lineOk19, lineOk20, lineOk21, lineOk22, lineOk23, lineOk24, lineOk25, lineOk26, lineOk27, lineOk28, lineOk29, lineOk30, lineOk31, lineOk32, lineOk33, lineOk34, lineOk35, lineOk36, lineOk37, lineOk38, lineOk39, lineOk40, nc0, nc1, nc2, nc3, nc4, lineOk0, lineOk1, lineOk2, lineOk3, Nat.reduceAdd, Nat.reduceSub, Int.reduceLT, Int.reduceLE, Int.reduceBEq, Int.reduceEq, Int.reduceAdd, Int.reduceSub, Int.reduceNeg, atI_0, atI_1, atI_2, atI_3, cut_1, cut_to1, eq_self, Option.bind_some, rb_ok, rb_exc, rb_bad, ro_ok, ro_exc, ro_bad, sq_nx, sq_rt, sq_bk, sq_ct, q_vgo1, q_vgo2, q_vgo3, q_pfin1, q_pfin2, q_pgo1, q_pgo2, q_cellD1, q_cellD2, q_cons21, q_cons22, q_cons23, q_tfin1, q_tfin2, q_tgo1, q_tgo2, q_isCell1, q_isCell2, q_appGo1, q_appGo2, q_extGo1, q_extGo2, q_popFin1, q_popFin2, q_popGo1, q_popGo2, q_newGo1, q_newGo2, q_setFin1, q_setFin2, q_setGo1, q_setGo2, q_chn1, q_chn2, q_compGo1, q_compGo2, q_ckGo1, q_ckGo2, e_var, e_glob, e_lit, e_pr, e_new, e_act0, e_act1, e_and, e_or, e_not, e_ite, e_chain, e_call, e_callk, e_comp, es_nil, es_cons, an_one, an_more, or_one, or_more, e_T, prim_eq, argsD, holds, deref_d, deref_loc, derefs_nil, derefs_cons, dsOf_nil, dsOf_cons, tru_eq, q_truD1, q_truD2, q_truD3, q_truD4, q_truD5, q_truD6, q_truD7, isLst_loc, do_app, do_ext, do_pop, new_eq, set_eq, p_tup, p_lst, p_add, p_sub, p_mul, p_fdiv, p_mod, p_pow, p_lt, p_le, p_gt, p_ge, p_max, p_min, p_eq, p_ne, p_in, p_nin, p_ix, p_slTo, p_slFrom, p_slB, p_neg, p_len, p_int, p_sum, p_all, p_tupL, p_tupT, p_lstL, p_lstT, p_isi, p_isN, p_notN, isin_ch, isin_tup, isin_list, isTy, q_addD1, q_addD2, q_addD3, q_addD4, q_ixD1, q_ixD2, q_ixD3, q_slD1, q_slD2, q_lenD1, q_lenD2, q_lenD3, q_ugo1, q_ugo2, q_sgo1, q_sgo2, q_agoF1, q_agoF2, q_ago1, q_ago2, q_ago3, aug_add, aug_sub, q_fgo1, q_fgo2, s_asg', s_unp', s_par', s_par3', s_setix', s_aug', s_ex', s_ite', s_for', s_while', s_ret', ss_nil', ss_cons', asg_one, asg_many, setMany, pk_d, fin_rt, fin_nx, fin_ex, nx_ok, pick_nil, pick_cons, startR, get_top, set_top, take_top, take_own, take_fd, take_fd2, stq_get, stq_set, stq_len, stq_app, stq_top, stq_take, stq_take2, eqOk_str, eqv_str, eqOk_int, eqv_int, eqOk_bool, eqv_bool, it_seq, it_r1, it_r2, it_el, it_et, it_zip, it_rev, q_seqD1, q_seqD2, q_seqD3, List.map_cons, List.map_nil, List.length_cons, List.length_nil, List.replicate_succ, List.replicate_zero, List.append_nil, List.nil_append, List.cons_append, List.getElem?_cons_zero, List.getElem?_cons_succ, List.getElem?_nil, List.set_cons_zero, List.set_cons_succ, Option.map_some, Option.map_none, if_true, if_false, ite_true, ite_false, reduceIte, Bool.not_true, Bool.not_false, Bool.false_eq_true, decide_true, decide_false, Bool.and_true, Bool.true_and, Bool.and_false, Bool.false_and, b21]
        exact ⟨.un (.leaf x0), rfl, h, rfl, by show 2 ≤ _; omega⟩
      · have c1 : many = 1 := by omega
        subst c1
        simp only [nc1]
        simp only [lineOk4, lineOk5, lineOk6, lineOk7, lineOk8, lineOk9, lineOk10, lineOk11, lineOk12, lineOk13, lineOk14, lineOk15, lineOk16, lineOk17, lineOk18, lineOk19, lineOk20, lineOk21, lineOk22, lineOk23, lineOk24, lineOk25, lineOk26, lineOk27, lineOk28, lineOk29, lineOk30, lineOk31, lineOk32, lineOk33, lineOk34, lineOk35, lineOk36, lineOk37, lineOk38, lineOk39, lineOk40, nc0, nc1, nc2, nc3, nc4, lineOk0, lineOk1, lineOk2, lineOk3, Nat.reduceAdd, Nat.reduceSub, Int.reduceLT, Int.reduceLE, Int.reduceBEq, Int.reduceEq, Int.reduceAdd, Int.reduceSub, Int.reduceNeg, atI_0, atI_1, atI_2, atI_3, cut_1, cut_to1, eq_self, Option.bind_some, rb_ok, rb_exc, rb_bad, ro_ok, ro_exc, ro_bad, sq_nx, sq_rt, sq_bk, sq_ct, q_vgo1, q_vgo2, q_vgo3, q_pfin1, q_pfin2, q_pgo1, q_pgo2, q_cellD1, q_cellD2, q_cons21, q_cons22, q_cons23, q_tfin1, q_tfin2, q_tgo1, q_tgo2, q_isCell1, q_isCell2, q_appGo1, q_appGo2, q_extGo1, q_extGo2, q_popFin1, q_popFin2, q_popGo1, q_popGo2, q_newGo1, q_newGo2, q_setFin1, q_setFin2, q_setGo1, q_setGo2, q_chn1, q_chn2, q_compGo1, q_compGo2, q_ckGo1, q_ckGo2, e_var, e_glob, e_lit, e_pr, e_new, e_act0, e_act1, e_and, e_or, e_not, e_ite, e_chain, e_call, e_callk, e_comp, es_nil, es_cons, an_one, an_more, or_one, or_more, e_T, prim_eq, argsD, holds, deref_d, deref_loc, derefs_nil, derefs_cons, dsOf_nil, dsOf_cons, tru_eq, q_truD1, q_truD2, q_truD3, q_truD4, q_truD5, q_truD6, q_truD7, isLst_loc, do_app, do_ext, do_pop, new_eq, set_eq, p_tup, p_lst, p_add, p_sub, p_mul, p_fdiv, p_mod, p_pow, p_lt, p_le, p_gt, p_ge, p_max, p_min, p_eq, p_ne, p_in, p_nin, p_ix, p_slTo, p_slFrom, p_slB, p_neg, p_len, p_int, p_sum, p_all, p_tupL, p_tupT, p_lstL, p_lstT, p_isi, p_isN, p_notN, isin_ch, isin_tup, isin_list, isTy, q_addD1, q_addD2, q_addD3, q_addD4, q_ixD1, q_ixD2, q_ixD3, q_slD1, q_slD2, q_lenD1, q_lenD2, q_lenD3, q_ugo1, q_ugo2, q_sgo1, q_sgo2, q_agoF1, q_agoF2, q_ago1, q_ago2, q_ago3, aug_add, aug_sub, q_fgo1, q_fgo2, s_asg', s_unp', s_par', s_par3', s_setix', s_aug', s_ex', s_ite', s_for', s_while', s_ret', ss_nil', ss_cons', asg_one, asg_many, setMany, pk_d, fin_rt, fin_nx, fin_ex, nx_ok, pick_nil, pick_cons, startR, get_top, set_top, take_top, take_own, take_fd, take_fd2, stq_get, stq_set, stq_len, stq_app, stq_top, stq_take, stq_take2, eqOk_str, eqv_str, eqOk_int, eqv_int, eqOk_bool, eqv_bool, it_seq, it_r1, it_r2, it_el, it_et, it_zip, it_rev, q_seqD1, q_seqD2, q_seqD3, List.map_cons, List.map_nil, List.length_cons, List.length_nil, List.replicate_succ, List.replicate_zero, List.append_nil, List.nil_append, List.cons_append, List.getElem?_cons_zero, List.getElem?_cons_succ, List.getElem?_nil, List.set_cons_zero, List.set_cons_succ, Option.map_some, Option.map_none, if_true, if_false, ite_true, ite_false, reduceIte, Bool.not_true, Bool.not_false, Bool.false_eq_true, decide_true, decide_false, Bool.and_true, Bool.true_and, Bool.and_false, Bool.false_and, b21]
        exact ⟨.leaf x0, rfl, h, rfl, by show 1 ≤ _; omega⟩
    · have d3 : decide ((many : Int) < 3) = false := decide_eq_false (by omega)
      have dv : divOk 2 = true := divOk_s (by decide) (by decide)
      have q1 : ((many : Int) - 1) / 2 = (((many - 1) / 2 : Nat) : Int) := by omega
      have q2 : (many : Int) - 1 - (((many - 1) / 2 : Nat) : Int) = ((many - 1 - (many - 1) / 2 : Nat) : Int) := by omega
      obtain ⟨t, e1, g1, s1, l1⟩ := c_flat n x0 h k ((many - 1) / 2) st (by omega) (by omega)
      obtain ⟨u, e2, g2, s2, l2⟩ := c_flat n x0 h k (many - 1 - (many - 1) / 2) st (by omega) (by omega)
      simp only [lineOk4, lineOk5, lineOk6, lineOk7, lineOk8, lineOk9, lineOk10, lineOk11, lineOk12, lineOk13, lineOk14, lineOk15, lineOk16, lineOk17, lineOk18, lineOk19, lineOk20, lineOk21, lineOk22, lineOk23, lineOk24, lineOk25, lineOk26, lineOk27, lineOk28, lineOk29, lineOk30, lineOk31, lineOk32, lineOk33, lineOk34, lineOk35, lineOk36, lineOk37, lineOk38, lineOk39, lineOk40, nc0, nc1, nc2, nc3, nc4, lineOk0, lineOk1, lineOk2, lineOk3, Nat.reduceAdd, Nat.reduceSub, Int.reduceLT, Int.reduceLE, Int.reduceBEq, Int.reduceEq, Int.reduceAdd, Int.reduceSub, Int.reduceNeg, atI_0, atI_1, atI_2, atI_3, cut_1, cut_to1, eq_self, Option.bind_some, rb_ok, rb_exc, rb_bad, ro_ok, ro_exc, ro_bad, sq_nx, sq_rt, sq_bk, sq_ct, q_vgo1, q_vgo2, q_vgo3, q_pfin1, q_pfin2, q_pgo1, q_pgo2, q_cellD1, q_cellD2, q_cons21, q_cons22, q_cons23, q_tfin1, q_tfin2, q_tgo1, q_tgo2, q_isCell1, q_isCell2, q_appGo1, q_appGo2, q_extGo1, q_extGo2, q_popFin1, q_popFin2, q_popGo1, q_popGo2, q_newGo1, q_newGo2, q_setFin1, q_setFin2, q_setGo1, q_setGo2, q_chn1, q_chn2, q_compGo1, q_compGo2, q_ckGo1, q_ckGo2, e_var, e_glob, e_lit, e_pr, e_new, e_act0, e_act1, e_and, e_or, e_not, e_ite, e_chain, e_call, e_callk, e_comp, es_nil, es_cons, an_one, an_more, or_one, or_more, e_T, prim_eq, argsD, holds, deref_d, deref_loc, derefs_nil, derefs_cons, dsOf_nil, dsOf_cons, tru_eq, q_truD1, q_truD2, q_truD3, q_truD4, q_truD5, q_truD6, q_truD7, isLst_loc, do_app, do_ext, do_pop, new_eq, set_eq, p_tup, p_lst, p_add, p_sub, p_mul, p_fdiv, p_mod, p_pow, p_lt, p_le, p_gt, p_ge, p_max, p_min, p_eq, p_ne, p_in, p_nin, p_ix, p_slTo, p_slFrom, p_slB, p_neg, p_len, p_int, p_sum, p_all, p_tupL, p_tupT, p_lstL, p_lstT, p_isi, p_isN, p_notN, isin_ch, isin_tup, isin_list, isTy, q_addD1, q_addD2, q_addD3, q_addD4, q_ixD1, q_ixD2, q_ixD3, q_slD1, q_slD2, q_lenD1, q_lenD2, q_lenD3, q_ugo1, q_ugo2, q_sgo1, q_sgo2, q_agoF1, q_agoF2, q_ago1, q_ago2, q_ago3, aug_add, aug_sub, q_fgo1, q_fgo2, s_asg', s_unp', s_par', s_par3', s_setix', s_aug', s_ex', s_ite', s_for', s_while', s_ret', ss_nil', ss_cons', asg_one, asg_many, setMany, pk_d, fin_rt, fin_nx, fin_ex, nx_ok, pick_nil, pick_cons, startR, get_top, set_top, take_top, take_own, take_fd, take_fd2, stq_get, stq_set, stq_len, stq_app, stq_top, stq_take, stq_take2, eqOk_str, eqv_str, eqOk_int, eqv_int, eqOk_bool, eqv_bool, it_seq, it_r1, it_r2, it_el, it_et, it_zip, it_rev, q_seqD1, q_seqD2, q_seqD3, List.map_cons, List.map_nil, List.length_cons, List.length_nil, List.replicate_succ, List.replicate_zero, List.append_nil, List.nil_append, List.cons_append, List.getElem?_cons_zero, List.getElem?_cons_succ, List.getElem?_nil, List.set_cons_zero, List.set_cons_succ, Option.map_some, Option.map_none, if_true, if_false, ite_true, ite_false, reduceIte, Bool.not_true, Bool.not_false, Bool.false_eq_true, decide_true, decide_false, Bool.and_true, Bool.true_and, Bool.and_false, Bool.false_and, b21, d3, dv, q1, q2, e1, e2]
      exact ⟨.bin t u, rfl, g1.bin g2, by show t.size + u.size + 1 = many; omega, by show max t.tall u.tall + 1 ≤ _; omega⟩
def tbody : Ss := (.cons (.asg 3 (.call 14 (.cons (.var 0) (.cons (.pr .lst (.cons (.pr .tup (.cons (.lit (.str "lam")) (.cons (.var 3) .nil))) (.cons (.pr .tup (.cons (.lit (.str "app")) (.cons (.var 3) (.cons (.var 1) .nil)))) (.cons (.pr .tup (.cons (.lit (.str "app")) (.cons (.var 1) (.cons (.var 3) .nil)))) .nil)))) .nil))))
    .nil)
theorem thin_loop (n : Nat) (pre rest : Sto) (x0 : PyData) (h : GL x0) (dp : W) : ∀ (xs : List PyData) (m : Nat) (a b c : Int) (t : Tr) (o : Option W), FdOk m a b c → m + xs.length ≤ 1000000 → GoodR t →
    ∃ t' a' b' c' o', forL (forF (callF FT (n + 2)) (.one 4) tbody) xs [some (.loc pre.length), some (.d x0), some dp, some (.d (encR t)), o] (stq pre (fdc a b c) rest) =
      .nx [some (.loc pre.length), some (.d x0), some dp, some (.d (encR t')), o'] (stq pre (fdc a' b' c') rest) ∧ FdOk (m + xs.length) a' b' c' ∧ GoodR t' ∧ t'.tall = t.tall + xs.length ∧ t'.size ≤ t.size + 2 * xs.length
  | [], m, a, b, c, t, o, f, _, g => ⟨t, a, b, c, o, rfl, f, g, rfl, Nat.le_refl _⟩
  | x :: xs, m, a, b, c, t, o, f, hm, g => by
    rw [List.length_cons] at hm
    obtain ⟨y, a1, b1, c1, e1, f1, hy⟩ := c_one n m a b c pre rest [.tuple [.str (Str.ofString "lam"), encR t], .tuple [.str (Str.ofString "app"), encR t, x0], .tuple [.str (Str.ofString "app"), x0, encR t]] f (by omega) (by simp) (by simp)
    have hy : ∃ u, y = encR u ∧ GoodR u ∧ u.tall = t.tall + 1 ∧ u.size ≤ t.size + 2 := by
      have tp := t.tall_pos
      simp only [List.mem_cons, List.not_mem_nil, or_false] at hy
      rcases hy with rfl | rfl | rfl
      · exact ⟨.un t, rfl, g.un, rfl, by show t.size + 1 ≤ _; omega⟩
      · exact ⟨.bin t (.leaf x0), rfl, g.bin (.leaf h), by show max t.tall 1 + 1 = _; omega, by show t.size + 1 + 1 ≤ _; omega⟩
      · exact ⟨.bin (.leaf x0) t, rfl, GoodR.bin (.leaf h) g, by show max 1 t.tall + 1 = _; omega, by show 1 + t.size + 1 ≤ _; omega⟩
    obtain ⟨u, rfl, gu, hu, su⟩ := hy
    obtain ⟨t', a', b', c', o', e2, f2, g2, h2, s2⟩ := thin_loop n pre rest x0 h dp xs (m + 1) a1 b1 c1 u (some (.d x)) f1 (by omega) gu
    refine ⟨t', a', b', c', o', ?_, by rw [List.length_cons, show m + (xs.length + 1) = m + 1 + xs.length by omega]; exact f2, g2, by rw [List.length_cons]; omega, by rw [List.length_cons]; omega⟩
    rw [forL_cons, forF_one]
    simp only [lineOk4, lineOk5, lineOk6, lineOk7, lineOk8, lineOk9, lineOk10, lineOk11, lineOk12, lineOk13, lineOk14, lineOk15, lineOk16, lineOk17, lineOk18, lineOk19, lineOk20, lineOk21, lineOk22, lineOk23, lineOk24, lineOk25, lineOk26, lineOk27, lineOk28, lineOk29, lineOk30, lineOk31, lineOk32, lineOk33, lineOk34, lineOk35, lineOk36, lineOk37, lineOk38, lineOk39, lineOk40, nc0, nc1, nc2, nc3, nc4, lineOk0, lineOk1, lineOk2, lineOk3, Nat.reduceAdd, Nat.reduceSub, Int.reduceLT, Int.reduceLE, Int.reduceBEq, Int.reduceEq, Int.reduceAdd, Int.reduceSub, Int.reduceNeg, atI_0, atI_1, atI_2, atI_3, cut_1, cut_to1, eq_self, Option.bind_some, rb_ok, rb_exc, rb_bad, ro_ok, ro_exc, ro_bad, sq_nx, sq_rt, sq_bk, sq_ct, q_vgo1, q_vgo2, q_vgo3, q_pfin1, q_pfin2, q_pgo1, q_pgo2, q_cellD1, q_cellD2, q_cons21, q_cons22, q_cons23, q_tfin1, q_tfin2, q_tgo1, q_tgo2, q_isCell1, q_isCell2, q_appGo1, q_appGo2, q_extGo1, q_extGo2, q_popFin1, q_popFin2, q_popGo1, q_popGo2, q_newGo1, q_newGo2, q_setFin1, q_setFin2, q_setGo1, q_setGo2, q_chn1, q_chn2, q_compGo1, q_compGo2, q_ckGo1, q_ckGo2, e_var, e_glob, e_lit, e_pr, e_new, e_act0, e_act1, e_and, e_or, e_not, e_ite, e_chain, e_call, e_callk, e_comp, es_nil, es_cons, an_one, an_more, or_one, or_more, e_T, prim_eq, argsD, holds, deref_d, deref_loc, derefs_nil, derefs_cons, dsOf_nil, dsOf_cons, tru_eq, q_truD1, q_truD2, q_truD3, q_truD4, q_truD5, q_truD6, q_truD7, isLst_loc, do_app, do_ext, do_pop, new_eq, set_eq, p_tup, p_lst, p_add, p_sub, p_mul, p_fdiv, p_mod, p_pow, p_lt, p_le, p_gt, p_ge, p_max, p_min, p_eq, p_ne, p_in, p_nin, p_ix, p_slTo, p_slFrom, p_slB, p_neg, p_len, p_int, p_sum, p_all, p_tupL, p_tupT, p_lstL, p_lstT, p_isi, p_isN, p_notN, isin_ch, isin_tup, isin_list, isTy, q_addD1, q_addD2, q_addD3, q_addD4, q_ixD1, q_ixD2, q_ixD3, q_slD1, q_slD2, q_lenD1, q_lenD2, q_lenD3, q_ugo1, q_ugo2, q_sgo1, q_sgo2, q_agoF1, q_agoF2, q_ago1, q_ago2, q_ago3, aug_add, aug_sub, q_fgo1, q_fgo2, s_asg', s_unp', s_par', s_par3', s_setix', s_aug', s_ex', s_ite', s_for', s_while', s_ret', ss_nil', ss_cons', asg_one, asg_many, setMany, pk_d, fin_rt, fin_nx, fin_ex, nx_ok, pick_nil, pick_cons, startR, get_top, set_top, take_top, take_own, take_fd, take_fd2, stq_get, stq_set, stq_len, stq_app, stq_top, stq_take, stq_take2, eqOk_str, eqv_str, eqOk_int, eqv_int, eqOk_bool, eqv_bool, it_seq, it_r1, it_r2, it_el, it_et, it_zip, it_rev, q_seqD1, q_seqD2, q_seqD3, List.map_cons, List.map_nil, List.length_cons, List.length_nil, List.replicate_succ, List.replicate_zero, List.append_nil, List.nil_append, List.cons_append, List.getElem?_cons_zero, List.getElem?_cons_succ, List.getElem?_nil, List.set_cons_zero, List.set_cons_succ, Option.map_some, Option.map_none, if_true, if_false, ite_true, ite_false, reduceIte, Bool.not_true, Bool.not_false, Bool.false_eq_true, decide_true, decide_false, Bool.and_true, Bool.true_and, Bool.and_false, Bool.false_and, tbody, e1, q_fstep1]
    exact e2
theorem c_thin (n m d : Nat) (a b c : Int) (pre rest : Sto) (x0 : PyData) (h : GL x0) (f : FdOk m a b c) (hm : m + d ≤ 1000000) (h1 : 1 ≤ d) (h2 : d ≤ 1000) :
    Draws (callF FT (n + 3) 22 [.loc pre.length, .d x0, .d (.int d)] (stq pre (fdc a b c) rest)) (m + d) pre rest fun x => ∃ t, x = encR t ∧ GoodR t ∧ t.tall = d ∧ t.size ≤ 2 * d := by
  have q : (d : Int) - 1 = ((d - 1 : Nat) : Int) := by omega
  have rg : rngOk ((d - 1 : Nat) : Int) = true := by
    unfold rngOk
    rw [decide_eq_true (by omega), decide_eq_true (by omega)]
    rfl
  have hl := range_len 0 (d - 1)
  obtain ⟨t', a', b', c', o', e2, f2, g2, h2, s2⟩ := thin_loop n pre rest x0 h (.d (.int d)) (rangeD 0 (d - 1)) m a b c (.leaf x0) none f (by omega) (.leaf h)
  rw [hl] at f2 h2 s2
  unfold tbody at e2
  have e2 : _ = Out.nx _ _ := e2
  rw [encR] at e2
  rw [cf ft22]
  simp only [lineOk4, lineOk5, lineOk6, lineOk7, lineOk8, lineOk9, lineOk10, lineOk11, lineOk12, lineOk13, lineOk14, lineOk15, lineOk16, lineOk17, lineOk18, lineOk19, lineOk20, lineOk21, lineOk22, lineOk23, lineOk24, lineOk25, lineOk26, lineOk27, lineOk28, lineOk29, lineOk30, lineOk31, lineOk32, lineOk33, lineOk34, lineOk35, lineOk36, lineOk37, lineOk38, lineOk39, lineOk40, nc0, nc1, nc2, nc3, nc4, lineOk0, lineOk1, lineOk2, lineOk3, Nat.reduceAdd, Nat.reduceSub, Int.reduceLT, Int.reduceLE, Int.reduceBEq, Int.reduceEq, Int.reduceAdd, Int.reduceSub, Int.reduceNeg, atI_0, atI_1, atI_2, atI_3, cut_1, cut_to1, eq_self, Option.bind_some, rb_ok, rb_exc, rb_bad, ro_ok, ro_exc, ro_bad, sq_nx, sq_rt, sq_bk, sq_ct, q_vgo1, q_vgo2, q_vgo3, q_pfin1, q_pfin2, q_pgo1, q_pgo2, q_cellD1, q_cellD2, q_cons21, q_cons22, q_cons23, q_tfin1, q_tfin2, q_tgo1, q_tgo2, q_isCell1, q_isCell2, q_appGo1, q_appGo2, q_extGo1, q_extGo2, q_popFin1, q_popFin2, q_popGo1, q_popGo2, q_newGo1, q_newGo2, q_setFin1, q_setFin2, q_setGo1, q_setGo2, q_chn1, q_chn2, q_compGo1, q_compGo2, q_ckGo1, q_ckGo2, e_var, e_glob, e_lit, e_pr, e_new, e_act0, e_act1, e_and, e_or, e_not, e_ite, e_chain, e_call, e_callk, e_comp, es_nil, es_cons, an_one, an_more, or_one, or_more, e_T, prim_eq, argsD, holds, deref_d, deref_loc, derefs_nil, derefs_cons, dsOf_nil, dsOf_cons, tru_eq, q_truD1, q_truD2, q_truD3, q_truD4, q_truD5, q_truD6, q_truD7, isLst_loc, do_app, do_ext, do_pop, new_eq, set_eq, p_tup, p_lst, p_add, p_sub, p_mul, p_fdiv, p_mod, p_pow, p_lt, p_le, p_gt, p_ge, p_max, p_min, p_eq, p_ne, p_in, p_nin, p_ix, p_slTo, p_slFrom, p_slB, p_neg, p_len, p_int, p_sum, p_all, p_tupL, p_tupT, p_lstL, p_lstT, p_isi, p_isN, p_notN, isin_ch, isin_tup, isin_list, isTy, q_addD1, q_addD2, q_addD3, q_addD4, q_ixD1, q_ixD2, q_ixD3, q_slD1, q_slD2, q_lenD1, q_lenD2, q_lenD3, q_ugo1, q_ugo2, q_sgo1, q_sgo2, q_agoF1, q_agoF2, q_ago1, q_ago2, q_ago3, aug_add, aug_sub, q_fgo1, q_fgo2, s_asg', s_unp', s_par', s_par3', s_setix', s_aug', s_ex', s_ite', s_for', s_while', s_ret', ss_nil', ss_cons', asg_one, asg_many, setMany, pk_d, fin_rt, fin_nx, fin_ex, nx_ok, pick_nil, pick_cons, startR, get_top, set_top, take_top, take_own, take_fd, take_fd2, stq_get, stq_set, stq_len, stq_app, stq_top, stq_take, stq_take2, eqOk_str, eqv_str, eqOk_int, eqv_int, eqOk_bool, eqv_bool, it_seq, it_r1, it_r2, it_el, it_et, it_zip, it_rev, q_seqD1, q_seqD2, q_seqD3, List.map_cons, List.map_nil, List.length_cons, List.length_nil, List.replicate_succ, List.replicate_zero, List.append_nil, List.nil_append, List.cons_append, List.getElem?_cons_zero, List.getElem?_cons_succ, List.getElem?_nil, List.set_cons_zero, List.set_cons_succ, Option.map_some, Option.map_none, if_true, if_false, ite_true, ite_false, reduceIte, Bool.not_true, Bool.not_false, Bool.false_eq_true, decide_true, decide_false, Bool.and_true, Bool.true_and, Bool.and_false, Bool.false_and, b22, q, rg, Int.toNat_natCast, e2]
  exact ⟨_, _, _, _, rfl, ⟨f2.a0, f2.b0, f2.b1, f2.c0, by have := f2.c1; omega⟩, t', rfl, g2, by rw [h2]; show 1 + (d - 1) = d; omega, by have : (Tr.leaf x0).size = 1 := rfl; omega⟩
def badR (x0 : PyData) : List PyData := [.none, .int 0, .bool true, .str (Str.ofString "var"), .str (Str.ofString ""), .tuple [], .list [], .tuple [.str (Str.ofString "var")], .tuple [.str (Str.ofString "lam")], .tuple [.str (Str.ofString "app"), x0], .tuple [.str (Str.ofString "app"), x0, x0, x0], .tuple [.str (Str.ofString "lam"), x0, x0], .tuple [.str (Str.ofString "var"), .int (-1)], .tuple [.str (Str.ofString "var"), .int 1000], .tuple [.str (Str.ofString "var"), .bool true], .tuple [.str (Str.ofString "var"), .str (Str.ofString "0")], .tuple [.str (Str.ofString "var"), .int 0, .int 0], .list [.str (Str.ofString "var"), .int 0], .list [.str (Str.ofString "lam"), x0], .tuple [x0], .tuple [.str (Str.ofString "con"), .str (Str.ofString "")], .tuple [.str (Str.ofString "con"), .str (Str.ofString "A")], .tuple [.str (Str.ofString "con"), .str (Str.ofString "9a")], .tuple [.str (Str.ofString "con"), .str (Str.ofString "abcdefghijklm")], .tuple [.str (Str.ofString "con"), .str (Str.ofString "a_")], .tuple [.str (Str.ofString "con"), .str (Str.ofString "a ")], .tuple [.str (Str.ofString "con"), .int 3], .tuple [.str (Str.ofString "con"), .tuple [.str (Str.ofString "a")]], .tuple [.str (Str.ofString "hole"), .int 0], .tuple [.str (Str.ofString "any"), .int 0], .tuple [.str (Str.ofString "Lam"), x0], .tuple [.str (Str.ofString "fun"), .tuple [.str (Str.ofString "base"), .str (Str.ofString "a")], x0], .tuple [.str (Str.ofString "fun"), x0], .list [.str (Str.ofString "app"), x0, x0]]
theorem badR_ok {x0 : PyData} (h : GL x0) : ∀ x ∈ badR x0, leafR x = true ∧ rawNode x = false := by
  obtain ⟨h1, h2⟩ := (⟨(leafR_all h.1).1, (leafR_all h.1).2.1⟩ : PyData.canLay0 x0 = true ∧ strFit x0 = true)
  intro x hx
  simp only [badR, List.mem_cons, List.not_mem_nil, or_false] at hx
  rcases hx with rfl | rfl | rfl | rfl | rfl | rfl | rfl | rfl | rfl | rfl | rfl | rfl | rfl | rfl | rfl | rfl | rfl | rfl | rfl | rfl | rfl | rfl | rfl | rfl | rfl | rfl | rfl | rfl | rfl | rfl | rfl | rfl | rfl | rfl
  · exact ⟨by decide +kernel, by decide +kernel⟩
  · exact ⟨by decide +kernel, by decide +kernel⟩
  · exact ⟨by decide +kernel, by decide +kernel⟩
  · exact ⟨by decide +kernel, by decide +kernel⟩
  · exact ⟨by decide +kernel, by decide +kernel⟩
  · exact ⟨by decide +kernel, by decide +kernel⟩
  · exact ⟨by decide +kernel, by decide +kernel⟩
  · exact ⟨by decide +kernel, by decide +kernel⟩
  · exact ⟨by decide +kernel, by decide +kernel⟩
  · have r : rawNode (.tuple [.str (Str.ofString "app"), x0]) = false := by kernel_rfl
    refine ⟨?_, r⟩
    unfold leafR
    rw [r]
    simp only [PyData.canLay0, PyData.canLayAll0, sf_t, sf_l, nf_2, nf_l, hf_1, hf_l, h1, h2, so_lam, so_app, so_Lam, so_fun, so_a, so_arrow, so_Any, so_base, Bool.not_false, Bool.true_or, Bool.and_true, Bool.true_and]
  · have r : rawNode (.tuple [.str (Str.ofString "app"), x0, x0, x0]) = false := by kernel_rfl
    refine ⟨?_, r⟩
    unfold leafR
    rw [r]
    simp only [PyData.canLay0, PyData.canLayAll0, sf_t, sf_l, nf_2, nf_l, hf_1, hf_l, h1, h2, so_lam, so_app, so_Lam, so_fun, so_a, so_arrow, so_Any, so_base, Bool.not_false, Bool.true_or, Bool.and_true, Bool.true_and]
  · have r : rawNode (.tuple [.str (Str.ofString "lam"), x0, x0]) = false := by kernel_rfl
    refine ⟨?_, r⟩
    unfold leafR
    rw [r]
    simp only [PyData.canLay0, PyData.canLayAll0, sf_t, sf_l, nf_2, nf_l, hf_1, hf_l, h1, h2, so_lam, so_app, so_Lam, so_fun, so_a, so_arrow, so_Any, so_base, Bool.not_false, Bool.true_or, Bool.and_true, Bool.true_and]
  · exact ⟨by decide +kernel, by decide +kernel⟩
  · exact ⟨by decide +kernel, by decide +kernel⟩
  · exact ⟨by decide +kernel, by decide +kernel⟩
  · exact ⟨by decide +kernel, by decide +kernel⟩
  · exact ⟨by decide +kernel, by decide +kernel⟩
  · exact ⟨by decide +kernel, by decide +kernel⟩
  · have r : rawNode (.list [.str (Str.ofString "lam"), x0]) = false := by kernel_rfl
    refine ⟨?_, r⟩
    unfold leafR
    rw [r]
    simp only [PyData.canLay0, PyData.canLayAll0, sf_t, sf_l, nf_2, nf_l, hf_1, hf_l, h1, h2, so_lam, so_app, so_Lam, so_fun, so_a, so_arrow, so_Any, so_base, Bool.not_false, Bool.true_or, Bool.and_true, Bool.true_and]
  · cases x0 <;> refine ⟨?_, rfl⟩ <;> (unfold leafR; simp only [strFit, nodeFit, rawNode]; simp [PyData.canLay0, PyData.canLayAll0, strFit, nodeFit, rawNode] at h1 ⊢ <;> first | exact h1 | rfl)
  · exact ⟨by decide +kernel, by decide +kernel⟩
  · exact ⟨by decide +kernel, by decide +kernel⟩
  · exact ⟨by decide +kernel, by decide +kernel⟩
  · exact ⟨by decide +kernel, by decide +kernel⟩
  · exact ⟨by decide +kernel, by decide +kernel⟩
  · exact ⟨by decide +kernel, by decide +kernel⟩
  · exact ⟨by decide +kernel, by decide +kernel⟩
  · exact ⟨by decide +kernel, by decide +kernel⟩
  · exact ⟨by decide +kernel, by decide +kernel⟩
  · exact ⟨by decide +kernel, by decide +kernel⟩
  · have r : rawNode (.tuple [.str (Str.ofString "Lam"), x0]) = false := by kernel_rfl
    refine ⟨?_, r⟩
    unfold leafR
    rw [r]
    simp only [PyData.canLay0, PyData.canLayAll0, sf_t, sf_l, nf_2, nf_l, hf_1, hf_l, h1, h2, so_lam, so_app, so_Lam, so_fun, so_a, so_arrow, so_Any, so_base, Bool.not_false, Bool.true_or, Bool.and_true, Bool.true_and]
  · have r : rawNode (.tuple [.str (Str.ofString "fun"), .tuple [.str (Str.ofString "base"), .str (Str.ofString "a")], x0]) = false := by kernel_rfl
    refine ⟨?_, r⟩
    unfold leafR
    rw [r]
    simp only [PyData.canLay0, PyData.canLayAll0, sf_t, sf_l, nf_2, nf_l, hf_1, hf_l, h1, h2, so_lam, so_app, so_Lam, so_fun, so_a, so_arrow, so_Any, so_base, Bool.not_false, Bool.true_or, Bool.and_true, Bool.true_and]
  · have r : rawNode (.tuple [.str (Str.ofString "fun"), x0]) = false := by kernel_rfl
    refine ⟨?_, r⟩
    unfold leafR
    rw [r]
    simp only [PyData.canLay0, PyData.canLayAll0, sf_t, sf_l, nf_2, nf_l, hf_1, hf_l, h1, h2, so_lam, so_app, so_Lam, so_fun, so_a, so_arrow, so_Any, so_base, Bool.not_false, Bool.true_or, Bool.and_true, Bool.true_and]
  · have r : rawNode (.list [.str (Str.ofString "app"), x0, x0]) = false := by kernel_rfl
    refine ⟨?_, r⟩
    unfold leafR
    rw [r]
    simp only [PyData.canLay0, PyData.canLayAll0, sf_t, sf_l, nf_2, nf_l, hf_1, hf_l, h1, h2, so_lam, so_app, so_Lam, so_fun, so_a, so_arrow, so_Any, so_base, Bool.not_false, Bool.true_or, Bool.and_true, Bool.true_and]
theorem c_noraw (n m : Nat) (a b c : Int) (pre rest : Sto) (x0 : PyData) (h : GL x0) (f : FdOk m a b c) (hm : m ≤ 1000000) :
    Draws (callF FT (n + 3) 23 [.loc pre.length, .d x0] (stq pre (fdc a b c) rest)) (m + 1) pre rest fun x => leafR x = true ∧ rawNode x = false := by
  obtain ⟨y, a1, b1, c1, e1, f1, hy⟩ := c_one n m a b c pre rest (badR x0) f hm (by simp [badR]) (by simp [badR])
  rw [cf ft23]
  unfold badR at e1
  simp only [lineOk4, lineOk5, lineOk6, lineOk7, lineOk8, lineOk9, lineOk10, lineOk11, lineOk12, lineOk13, lineOk14, lineOk15, lineOk16, lineOk17, lineOk18, lineOk19, lineOk20, lineOk21, lineOk22, lineOk23, lineOk24, lineOk25, lineOk26, lineOk27, lineOk28, lineOk29, lineOk30, lineOk31, lineOk32, lineOk33, lineOk34, lineOk35, lineOk36, lineOk37, lineOk38, lineOk39, lineOk40, nc0, nc1, nc2, nc3, nc4, lineOk0, lineOk1, lineOk2, lineOk3, Nat.reduceAdd, Nat.reduceSub, Int.reduceLT, Int.reduceLE, Int.reduceBEq, Int.reduceEq, Int.reduceAdd, Int.reduceSub, Int.reduceNeg, atI_0, atI_1, atI_2, atI_3, cut_1, cut_to1, eq_self, Option.bind_some, rb_ok, rb_exc, rb_bad, ro_ok, ro_exc, ro_bad, sq_nx, sq_rt, sq_bk, sq_ct, q_vgo1, q_vgo2, q_vgo3, q_pfin1, q_pfin2, q_pgo1, q_pgo2, q_cellD1, q_cellD2, q_cons21, q_cons22, q_cons23, q_tfin1, q_tfin2, q_tgo1, q_tgo2, q_isCell1, q_isCell2, q_appGo1, q_appGo2, q_extGo1, q_extGo2, q_popFin1, q_popFin2, q_popGo1, q_popGo2, q_newGo1, q_newGo2, q_setFin1, q_setFin2, q_setGo1, q_setGo2, q_chn1, q_chn2, q_compGo1, q_compGo2, q_ckGo1, q_ckGo2, e_var, e_glob, e_lit, e_pr, e_new, e_act0, e_act1, e_and, e_or, e_not, e_ite, e_chain, e_call, e_callk, e_comp, es_nil, es_cons, an_one, an_more, or_one, or_more, e_T, prim_eq, argsD, holds, deref_d, deref_loc, derefs_nil, derefs_cons, dsOf_nil, dsOf_cons, tru_eq, q_truD1, q_truD2, q_truD3, q_truD4, q_truD5, q_truD6, q_truD7, isLst_loc, do_app, do_ext, do_pop, new_eq, set_eq, p_tup, p_lst, p_add, p_sub, p_mul, p_fdiv, p_mod, p_pow, p_lt, p_le, p_gt, p_ge, p_max, p_min, p_eq, p_ne, p_in, p_nin, p_ix, p_slTo, p_slFrom, p_slB, p_neg, p_len, p_int, p_sum, p_all, p_tupL, p_tupT, p_lstL, p_lstT, p_isi, p_isN, p_notN, isin_ch, isin_tup, isin_list, isTy, q_addD1, q_addD2, q_addD3, q_addD4, q_ixD1, q_ixD2, q_ixD3, q_slD1, q_slD2, q_lenD1, q_lenD2, q_lenD3, q_ugo1, q_ugo2, q_sgo1, q_sgo2, q_agoF1, q_agoF2, q_ago1, q_ago2, q_ago3, aug_add, aug_sub, q_fgo1, q_fgo2, s_asg', s_unp', s_par', s_par3', s_setix', s_aug', s_ex', s_ite', s_for', s_while', s_ret', ss_nil', ss_cons', asg_one, asg_many, setMany, pk_d, fin_rt, fin_nx, fin_ex, nx_ok, pick_nil, pick_cons, startR, get_top, set_top, take_top, take_own, take_fd, take_fd2, stq_get, stq_set, stq_len, stq_app, stq_top, stq_take, stq_take2, eqOk_str, eqv_str, eqOk_int, eqv_int, eqOk_bool, eqv_bool, it_seq, it_r1, it_r2, it_el, it_et, it_zip, it_rev, q_seqD1, q_seqD2, q_seqD3, List.map_cons, List.map_nil, List.length_cons, List.length_nil, List.replicate_succ, List.replicate_zero, List.append_nil, List.nil_append, List.cons_append, List.getElem?_cons_zero, List.getElem?_cons_succ, List.getElem?_nil, List.set_cons_zero, List.set_cons_succ, Option.map_some, Option.map_none, if_true, if_false, ite_true, ite_false, reduceIte, Bool.not_true, Bool.not_false, Bool.false_eq_true, decide_true, decide_false, Bool.and_true, Bool.true_and, Bool.and_false, Bool.false_and, b23, e1]
  exact ⟨_, _, _, _, rfl, f1, badR_ok h y hy⟩
end K60

set_option Elab.async false
set_option linter.all false
set_option maxRecDepth 100000
set_option maxHeartbeats 4000000
namespace K60
open PySem PySem.Spec L2 Mp
def parts3 (w : Str) : Bool := (w == Str.ofString "lam") || ((w == Str.ofString "app") || (w == Str.ofString "arrow"))
theorem p3_lam : parts3 (Str.ofString "lam") = true := by decide +kernel
theorem p3_app : parts3 (Str.ofString "app") = true := by decide +kernel
theorem p3_arr : parts3 (Str.ofString "arrow") = true := by decide +kernel
theorem p3_var : parts3 (Str.ofString "var") = false := by decide +kernel
theorem p3_con : parts3 (Str.ofString "con") = false := by decide +kernel
theorem p3_any : parts3 (Str.ofString "any") = false := by decide +kernel
theorem p3_base : parts3 (Str.ofString "base") = false := by decide +kernel
theorem c_lparts (n : Nat) (w : Str) (r : List PyData) (st : Sto) : callF FT (n + 1) 17 [.d (.tuple (.str w :: r))] st = .ok (.d (.tuple (if parts3 w then r else []))) st := by
  rw [cf ft17]
  cases k1 : w == Str.ofString "lam" <;> cases k2 : w == Str.ofString "app" <;> cases k3 : w == Str.ofString "arrow" <;>
    simp only [lineOk4, lineOk5, lineOk6, lineOk7, lineOk8, lineOk9, lineOk10, lineOk11, lineOk12, lineOk13, lineOk14, lineOk15, lineOk16, lineOk17, lineOk18, lineOk19, lineOk20, lineOk21, lineOk22, lineOk23, lineOk24, lineOk25, lineOk26, lineOk27, lineOk28, lineOk29, lineOk30, lineOk31, lineOk32, lineOk33, lineOk34, lineOk35, lineOk36, lineOk37, lineOk38, lineOk39, lineOk40, nc0, nc1, nc2, nc3, nc4, lineOk0, lineOk1, lineOk2, lineOk3, Nat.reduceAdd, Nat.reduceSub, Int.reduceLT, Int.reduceLE, Int.reduceBEq, Int.reduceEq, Int.reduceAdd, Int.reduceSub, Int.reduceNeg, atI_0, atI_1, atI_2, atI_3, cut_1, cut_to1, eq_self, Option.bind_some, rb_ok, rb_exc, rb_bad, ro_ok, ro_exc, ro_bad, sq_nx, sq_rt, sq_bk, sq_ct, q_vgo1, q_vgo2, q_vgo3, q_pfin1, q_pfin2, q_pgo1, q_pgo2, q_cellD1, q_cellD2, q_cons21, q_cons22, q_cons23, q_tfin1, q_tfin2, q_tgo1, q_tgo2, q_isCell1, q_isCell2, q_appGo1, q_appGo2, q_extGo1, q_extGo2, q_popFin1, q_popFin2, q_popGo1, q_popGo2, q_newGo1, q_newGo2, q_setFin1, q_setFin2, q_setGo1, q_setGo2, q_chn1, q_chn2, q_compGo1, q_compGo2, q_ckGo1, q_ckGo2, e_var, e_glob, e_lit, e_pr, e_new, e_act0, e_act1, e_and, e_or, e_not, e_ite, e_chain, e_call, e_callk, e_comp, es_nil, es_cons, an_one, an_more, or_one, or_more, e_T, prim_eq, argsD, holds, deref_d, deref_loc, derefs_nil, derefs_cons, dsOf_nil, dsOf_cons, tru_eq, q_truD1, q_truD2, q_truD3, q_truD4, q_truD5, q_truD6, q_truD7, isLst_loc, do_app, do_ext, do_pop, new_eq, set_eq, p_tup, p_lst, p_add, p_sub, p_mul, p_fdiv, p_mod, p_pow, p_lt, p_le, p_gt, p_ge, p_max, p_min, p_eq, p_ne, p_in, p_nin, p_ix, p_slTo, p_slFrom, p_slB, p_neg, p_len, p_int, p_sum, p_all, p_tupL, p_tupT, p_lstL, p_lstT, p_isi, p_isN, p_notN, isin_ch, isin_tup, isin_list, isTy, q_addD1, q_addD2, q_addD3, q_addD4, q_ixD1, q_ixD2, q_ixD3, q_slD1, q_slD2, q_lenD1, q_lenD2, q_lenD3, q_ugo1, q_ugo2, q_sgo1, q_sgo2, q_agoF1, q_agoF2, q_ago1, q_ago2, q_ago3, aug_add, aug_sub, q_fgo1, q_fgo2, s_asg', s_unp', s_par', s_par3', s_setix', s_aug', s_ex', s_ite', s_for', s_while', s_ret', ss_nil', ss_cons', asg_one, asg_many, setMany, pk_d, fin_rt, fin_nx, fin_ex, nx_ok, pick_nil, pick_cons, startR, get_top, set_top, take_top, take_own, take_fd, take_fd2, stq_get, stq_set, stq_len, stq_app, stq_top, stq_take, stq_take2, eqOk_str, eqv_str, eqOk_int, eqv_int, eqOk_bool, eqv_bool, it_seq, it_r1, it_r2, it_el, it_et, it_zip, it_rev, q_seqD1, q_seqD2, q_seqD3, List.map_cons, List.map_nil, List.length_cons, List.length_nil, List.replicate_succ, List.replicate_zero, List.append_nil, List.nil_append, List.cons_append, List.getElem?_cons_zero, List.getElem?_cons_succ, List.getElem?_nil, List.set_cons_zero, List.set_cons_succ, Option.map_some, Option.map_none, if_true, if_false, ite_true, ite_false, reduceIte, Bool.not_true, Bool.not_false, Bool.false_eq_true, decide_true, decide_false, Bool.and_true, Bool.true_and, Bool.and_false, Bool.false_and, b17, parts3, flat_str, List.all_cons, List.all_nil, inD, List.any_cons, List.any_nil, sbc (Str.ofString "lam"), sbc (Str.ofString "app"), sbc (Str.ofString "arrow"), k1, k2, k3, Bool.or_false, Bool.or_true, Bool.true_or, Bool.false_or]
theorem gl_parts {x : PyData} (h : GL x) : ∃ w r, x = .tuple (.str w :: r) ∧ parts3 w = false := by
  obtain ⟨h1, k⟩ := h
  obtain ⟨w, r, rfl, hp⟩ := (leafR_all h1).2.2.2 k
  refine ⟨w, r, rfl, ?_⟩
  rcases r with _ | ⟨y, r⟩
  · cases k
  · unfold hasParts at hp
    rw [Bool.or_eq_false_iff] at hp
    unfold rawNode at k
    dsimp only at k
    cases k1 : w == Str.ofString "var"
    · cases k2 : w == Str.ofString "con"
      · rw [k1, k2, hp.1, hp.2] at k
        cases k
      · rw [beq_iff_eq] at k2
        subst k2
        exact p3_con
    · rw [beq_iff_eq] at k1
      subst k1
      exact p3_var
theorem canAll1 {x : PyData} (h : PyData.canLay0 x = true) : PyData.canLayAll0 [x] = true := by simp [PyData.canLayAll0, h]
theorem canAll2 {x y : PyData} (h : PyData.canLay0 x = true) (h' : PyData.canLay0 y = true) : PyData.canLayAll0 [x, y] = true := by simp [PyData.canLayAll0, h, h']
theorem Tr.size_lt : ∀ t : Tr, t.size < 2 ^ t.tall
  | .leaf _ => (by decide : 1 < 2 ^ 1)
  | .un a => by
    have := a.size_lt
    show a.size + 1 < 2 ^ (a.tall + 1)
    rw [Nat.pow_succ]
    omega
  | .bin a b => by
    have h1 := a.size_lt
    have h2 := b.size_lt
    show a.size + b.size + 1 < 2 ^ (max a.tall b.tall + 1)
    have e1 : 2 ^ a.tall ≤ 2 ^ (max a.tall b.tall) := Nat.pow_le_pow_right (by decide) (by omega)
    have e2 : 2 ^ b.tall ≤ 2 ^ (max a.tall b.tall) := Nat.pow_le_pow_right (by decide) (by omega)
    rw [Nat.pow_succ]
    omega
def swE : E := (.comp [6, 7] (.many [6, 7]) .enum (.cons (.var 4) .nil) (.lit (.bool true)) (.ite (.pr .eq (.cons (.var 6) (.cons (.var 5) .nil))) (.call 18 (.cons (.var 0) (.cons (.var 7) (.cons (.var 2) (.cons (.pr .sub (.cons (.var 3) (.cons (.lit (.int 1)) .nil))) .nil))))) (.var 7)))
def swC : E := (.ite (.pr .eq (.cons (.var 6) (.cons (.var 5) .nil))) (.call 18 (.cons (.var 0) (.cons (.var 7) (.cons (.var 2) (.cons (.pr .sub (.cons (.var 3) (.cons (.lit (.int 1)) .nil))) .nil))))) (.var 7))
theorem GoodLGoodR {a b : Tr} (h : GoodR (.bin a b)) : GoodR a := by
  obtain ⟨h1, h2⟩ := h
  have h1 : (a.all leafR && b.all leafR) = true := h1
  have h2 : (a.all rawNode && b.all rawNode) = true := h2
  rw [Bool.and_eq_true] at h1 h2
  exact ⟨h1.1, h2.1⟩
theorem GoodRtGoodR {a b : Tr} (h : GoodR (.bin a b)) : GoodR b := by
  obtain ⟨h1, h2⟩ := h
  have h1 : (a.all leafR && b.all leafR) = true := h1
  have h2 : (a.all rawNode && b.all rawNode) = true := h2
  rw [Bool.and_eq_true] at h1 h2
  exact ⟨h1.2, h2.2⟩
theorem c_swap (other : PyData) (ho : leafR other = true ∧ rawNode other = false) : ∀ (t : Tr) (n m d : Nat) (a b c : Int) (pre rest : Sto), GoodR t → FdOk m a b c → m + 2 * t.tall ≤ 900000 → d ≤ 1000 →
    Draws (callF FT (n + t.tall + 2) 18 [.loc pre.length, .d (encR t), .d other, .d (.int d)] (stq pre (fdc a b c) rest)) (m + 2 * t.tall) pre rest fun x => ∃ t', x = encR t' ∧ t'.all leafR = true ∧ t'.all rawNode = false
  | .leaf x, n, m, d, a, b, c, pre, rest, g, f, hm, hd => by
    obtain ⟨w, r, rfl, hp⟩ := gl_parts g
    have e0 := c_lparts (n + 1) w r (stq pre (fdc a b c) rest)
    have e0 : callF FT (n + 2) 17 [.d (.tuple (.str w :: r))] (stq pre (fdc a b c) rest) = _ := e0
    rw [show n + (Tr.leaf (.tuple (.str w :: r))).tall + 2 = n + 2 + 1 from rfl, cf ft18, encR]
    simp only [lineOk4, lineOk5, lineOk6, lineOk7, lineOk8, lineOk9, lineOk10, lineOk11, lineOk12, lineOk13, lineOk14, lineOk15, lineOk16, lineOk17, lineOk18, lineOk19, lineOk20, lineOk21, lineOk22, lineOk23, lineOk24, lineOk25, lineOk26, lineOk27, lineOk28, lineOk29, lineOk30, lineOk31, lineOk32, lineOk33, lineOk34, lineOk35, lineOk36, lineOk37, lineOk38, lineOk39, lineOk40, nc0, nc1, nc2, nc3, nc4, lineOk0, lineOk1, lineOk2, lineOk3, Nat.reduceAdd, Nat.reduceSub, Int.reduceLT, Int.reduceLE, Int.reduceBEq, Int.reduceEq, Int.reduceAdd, Int.reduceSub, Int.reduceNeg, atI_0, atI_1, atI_2, atI_3, cut_1, cut_to1, eq_self, Option.bind_some, rb_ok, rb_exc, rb_bad, ro_ok, ro_exc, ro_bad, sq_nx, sq_rt, sq_bk, sq_ct, q_vgo1, q_vgo2, q_vgo3, q_pfin1, q_pfin2, q_pgo1, q_pgo2, q_cellD1, q_cellD2, q_cons21, q_cons22, q_cons23, q_tfin1, q_tfin2, q_tgo1, q_tgo2, q_isCell1, q_isCell2, q_appGo1, q_appGo2, q_extGo1, q_extGo2, q_popFin1, q_popFin2, q_popGo1, q_popGo2, q_newGo1, q_newGo2, q_setFin1, q_setFin2, q_setGo1, q_setGo2, q_chn1, q_chn2, q_compGo1, q_compGo2, q_ckGo1, q_ckGo2, e_var, e_glob, e_lit, e_pr, e_new, e_act0, e_act1, e_and, e_or, e_not, e_ite, e_chain, e_call, e_callk, e_comp, es_nil, es_cons, an_one, an_more, or_one, or_more, e_T, prim_eq, argsD, holds, deref_d, deref_loc, derefs_nil, derefs_cons, dsOf_nil, dsOf_cons, tru_eq, q_truD1, q_truD2, q_truD3, q_truD4, q_truD5, q_truD6, q_truD7, isLst_loc, do_app, do_ext, do_pop, new_eq, set_eq, p_tup, p_lst, p_add, p_sub, p_mul, p_fdiv, p_mod, p_pow, p_lt, p_le, p_gt, p_ge, p_max, p_min, p_eq, p_ne, p_in, p_nin, p_ix, p_slTo, p_slFrom, p_slB, p_neg, p_len, p_int, p_sum, p_all, p_tupL, p_tupT, p_lstL, p_lstT, p_isi, p_isN, p_notN, isin_ch, isin_tup, isin_list, isTy, q_addD1, q_addD2, q_addD3, q_addD4, q_ixD1, q_ixD2, q_ixD3, q_slD1, q_slD2, q_lenD1, q_lenD2, q_lenD3, q_ugo1, q_ugo2, q_sgo1, q_sgo2, q_agoF1, q_agoF2, q_ago1, q_ago2, q_ago3, aug_add, aug_sub, q_fgo1, q_fgo2, s_asg', s_unp', s_par', s_par3', s_setix', s_aug', s_ex', s_ite', s_for', s_while', s_ret', ss_nil', ss_cons', asg_one, asg_many, setMany, pk_d, fin_rt, fin_nx, fin_ex, nx_ok, pick_nil, pick_cons, startR, get_top, set_top, take_top, take_own, take_fd, take_fd2, stq_get, stq_set, stq_len, stq_app, stq_top, stq_take, stq_take2, eqOk_str, eqv_str, eqOk_int, eqv_int, eqOk_bool, eqv_bool, it_seq, it_r1, it_r2, it_el, it_et, it_zip, it_rev, q_seqD1, q_seqD2, q_seqD3, List.map_cons, List.map_nil, List.length_cons, List.length_nil, List.replicate_succ, List.replicate_zero, List.append_nil, List.nil_append, List.cons_append, List.getElem?_cons_zero, List.getElem?_cons_succ, List.getElem?_nil, List.set_cons_zero, List.set_cons_succ, Option.map_some, Option.map_none, if_true, if_false, ite_true, ite_false, reduceIte, Bool.not_true, Bool.not_false, Bool.false_eq_true, decide_true, decide_false, Bool.and_true, Bool.true_and, Bool.and_false, Bool.false_and, b18, e0, hp, eqNilT [] rfl, eqvNilT, List.isEmpty_nil]
    exact ⟨_, _, _, _, rfl, ⟨f.a0, f.b0, f.b1, f.c0, by have := f.c1; omega⟩, .leaf other, rfl, ho.1, ho.2⟩
  | .un u, n, m, d, a, b, c, pre, rest, g, f, hm, hd => by
    have tl : (Tr.un u).tall = u.tall + 1 := rfl
    rw [tl] at hm ⊢

    have la := canAll1 (layR (t := u) g.1)
    have e0 := c_lparts (n + u.tall + 1) (Str.ofString "lam") [encR u] (stq pre (fdc a b c) rest)
    have e0 : callF FT (n + u.tall + 2) 17 [.d (.tuple [.str (Str.ofString "lam"), encR u])] (stq pre (fdc a b c) rest) = _ := e0
    rw [show n + (u.tall + 1) + 2 = n + u.tall + 2 + 1 by omega, cf ft18, encR]
    by_cases hd0 : d < 1
    · have dd : decide ((d : Int) < 1) = true := decide_eq_true (by omega)
      simp only [lineOk4, lineOk5, lineOk6, lineOk7, lineOk8, lineOk9, lineOk10, lineOk11, lineOk12, lineOk13, lineOk14, lineOk15, lineOk16, lineOk17, lineOk18, lineOk19, lineOk20, lineOk21, lineOk22, lineOk23, lineOk24, lineOk25, lineOk26, lineOk27, lineOk28, lineOk29, lineOk30, lineOk31, lineOk32, lineOk33, lineOk34, lineOk35, lineOk36, lineOk37, lineOk38, lineOk39, lineOk40, nc0, nc1, nc2, nc3, nc4, lineOk0, lineOk1, lineOk2, lineOk3, Nat.reduceAdd, Nat.reduceSub, Int.reduceLT, Int.reduceLE, Int.reduceBEq, Int.reduceEq, Int.reduceAdd, Int.reduceSub, Int.reduceNeg, atI_0, atI_1, atI_2, atI_3, cut_1, cut_to1, eq_self, Option.bind_some, rb_ok, rb_exc, rb_bad, ro_ok, ro_exc, ro_bad, sq_nx, sq_rt, sq_bk, sq_ct, q_vgo1, q_vgo2, q_vgo3, q_pfin1, q_pfin2, q_pgo1, q_pgo2, q_cellD1, q_cellD2, q_cons21, q_cons22, q_cons23, q_tfin1, q_tfin2, q_tgo1, q_tgo2, q_isCell1, q_isCell2, q_appGo1, q_appGo2, q_extGo1, q_extGo2, q_popFin1, q_popFin2, q_popGo1, q_popGo2, q_newGo1, q_newGo2, q_setFin1, q_setFin2, q_setGo1, q_setGo2, q_chn1, q_chn2, q_compGo1, q_compGo2, q_ckGo1, q_ckGo2, e_var, e_glob, e_lit, e_pr, e_new, e_act0, e_act1, e_and, e_or, e_not, e_ite, e_chain, e_call, e_callk, e_comp, es_nil, es_cons, an_one, an_more, or_one, or_more, e_T, prim_eq, argsD, holds, deref_d, deref_loc, derefs_nil, derefs_cons, dsOf_nil, dsOf_cons, tru_eq, q_truD1, q_truD2, q_truD3, q_truD4, q_truD5, q_truD6, q_truD7, isLst_loc, do_app, do_ext, do_pop, new_eq, set_eq, p_tup, p_lst, p_add, p_sub, p_mul, p_fdiv, p_mod, p_pow, p_lt, p_le, p_gt, p_ge, p_max, p_min, p_eq, p_ne, p_in, p_nin, p_ix, p_slTo, p_slFrom, p_slB, p_neg, p_len, p_int, p_sum, p_all, p_tupL, p_tupT, p_lstL, p_lstT, p_isi, p_isN, p_notN, isin_ch, isin_tup, isin_list, isTy, q_addD1, q_addD2, q_addD3, q_addD4, q_ixD1, q_ixD2, q_ixD3, q_slD1, q_slD2, q_lenD1, q_lenD2, q_lenD3, q_ugo1, q_ugo2, q_sgo1, q_sgo2, q_agoF1, q_agoF2, q_ago1, q_ago2, q_ago3, aug_add, aug_sub, q_fgo1, q_fgo2, s_asg', s_unp', s_par', s_par3', s_setix', s_aug', s_ex', s_ite', s_for', s_while', s_ret', ss_nil', ss_cons', asg_one, asg_many, setMany, pk_d, fin_rt, fin_nx, fin_ex, nx_ok, pick_nil, pick_cons, startR, get_top, set_top, take_top, take_own, take_fd, take_fd2, stq_get, stq_set, stq_len, stq_app, stq_top, stq_take, stq_take2, eqOk_str, eqv_str, eqOk_int, eqv_int, eqOk_bool, eqv_bool, it_seq, it_r1, it_r2, it_el, it_et, it_zip, it_rev, q_seqD1, q_seqD2, q_seqD3, List.map_cons, List.map_nil, List.length_cons, List.length_nil, List.replicate_succ, List.replicate_zero, List.append_nil, List.nil_append, List.cons_append, List.getElem?_cons_zero, List.getElem?_cons_succ, List.getElem?_nil, List.set_cons_zero, List.set_cons_succ, Option.map_some, Option.map_none, if_true, if_false, ite_true, ite_false, reduceIte, Bool.not_true, Bool.not_false, Bool.false_eq_true, decide_true, decide_false, Bool.and_true, Bool.true_and, Bool.and_false, Bool.false_and, b18, sLam, e0, p3_lam, eqNilT _ la, eqvNilT, List.isEmpty_cons, dd]
      exact ⟨_, _, _, _, rfl, ⟨f.a0, f.b0, f.b1, f.c0, by have := f.c1; omega⟩, .leaf other, rfl, ho.1, ho.2⟩
    · have dd : decide ((d : Int) < 1) = false := decide_eq_false (by omega)
      obtain ⟨_, a1, b1, c1, e1, f1, r, rfl, hr⟩ := c_draw (n + u.tall + 1) 4 m a b c pre rest f (by omega) (by decide) (by decide)
      have e1 : callF FT (n + u.tall + 2) 13 [.loc pre.length, .d (.int 4)] (stq pre (fdc a b c) rest) = _ := e1
      cases k : ((r : Int) == 0)
      · obtain ⟨_, a2, b2, c2, e2, f2, q, rfl, hq⟩ := c_draw (n + u.tall + 1) 1 (m + 1) a1 b1 c1 pre rest f1 (by omega) (by decide) (by decide)
        have e2 : callF FT (n + u.tall + 2) 13 [.loc pre.length, .d (.int 1)] (stq pre (fdc a1 b1 c1) rest) = _ := e2
        have sd : (d : Int) - 1 = ((d - 1 : Nat) : Int) := by omega
        obtain rfl : q = 0 := by omega
        · obtain ⟨_, a3, b3, c3, e3, f3, t', rfl, g3, h3⟩ := c_swap other ho u (n + u.tall - u.tall) (m + 2) (d - 1) a2 b2 c2 pre (rest ++ [.lst []]) g f2 (by omega) (by omega)
          rw [show n + u.tall - u.tall + u.tall + 2 = n + u.tall + 2 by omega] at e3
          simp only [lineOk4, lineOk5, lineOk6, lineOk7, lineOk8, lineOk9, lineOk10, lineOk11, lineOk12, lineOk13, lineOk14, lineOk15, lineOk16, lineOk17, lineOk18, lineOk19, lineOk20, lineOk21, lineOk22, lineOk23, lineOk24, lineOk25, lineOk26, lineOk27, lineOk28, lineOk29, lineOk30, lineOk31, lineOk32, lineOk33, lineOk34, lineOk35, lineOk36, lineOk37, lineOk38, lineOk39, lineOk40, nc0, nc1, nc2, nc3, nc4, lineOk0, lineOk1, lineOk2, lineOk3, Nat.reduceAdd, Nat.reduceSub, Int.reduceLT, Int.reduceLE, Int.reduceBEq, Int.reduceEq, Int.reduceAdd, Int.reduceSub, Int.reduceNeg, atI_0, atI_1, atI_2, atI_3, cut_1, cut_to1, eq_self, Option.bind_some, rb_ok, rb_exc, rb_bad, ro_ok, ro_exc, ro_bad, sq_nx, sq_rt, sq_bk, sq_ct, q_vgo1, q_vgo2, q_vgo3, q_pfin1, q_pfin2, q_pgo1, q_pgo2, q_cellD1, q_cellD2, q_cons21, q_cons22, q_cons23, q_tfin1, q_tfin2, q_tgo1, q_tgo2, q_isCell1, q_isCell2, q_appGo1, q_appGo2, q_extGo1, q_extGo2, q_popFin1, q_popFin2, q_popGo1, q_popGo2, q_newGo1, q_newGo2, q_setFin1, q_setFin2, q_setGo1, q_setGo2, q_chn1, q_chn2, q_compGo1, q_compGo2, q_ckGo1, q_ckGo2, e_var, e_glob, e_lit, e_pr, e_new, e_act0, e_act1, e_and, e_or, e_not, e_ite, e_chain, e_call, e_callk, e_comp, es_nil, es_cons, an_one, an_more, or_one, or_more, e_T, prim_eq, argsD, holds, deref_d, deref_loc, derefs_nil, derefs_cons, dsOf_nil, dsOf_cons, tru_eq, q_truD1, q_truD2, q_truD3, q_truD4, q_truD5, q_truD6, q_truD7, isLst_loc, do_app, do_ext, do_pop, new_eq, set_eq, p_tup, p_lst, p_add, p_sub, p_mul, p_fdiv, p_mod, p_pow, p_lt, p_le, p_gt, p_ge, p_max, p_min, p_eq, p_ne, p_in, p_nin, p_ix, p_slTo, p_slFrom, p_slB, p_neg, p_len, p_int, p_sum, p_all, p_tupL, p_tupT, p_lstL, p_lstT, p_isi, p_isN, p_notN, isin_ch, isin_tup, isin_list, isTy, q_addD1, q_addD2, q_addD3, q_addD4, q_ixD1, q_ixD2, q_ixD3, q_slD1, q_slD2, q_lenD1, q_lenD2, q_lenD3, q_ugo1, q_ugo2, q_sgo1, q_sgo2, q_agoF1, q_agoF2, q_ago1, q_ago2, q_ago3, aug_add, aug_sub, q_fgo1, q_fgo2, s_asg', s_unp', s_par', s_par3', s_setix', s_aug', s_ex', s_ite', s_for', s_while', s_ret', ss_nil', ss_cons', asg_one, asg_many, setMany, pk_d, fin_rt, fin_nx, fin_ex, nx_ok, pick_nil, pick_cons, startR, get_top, set_top, take_top, take_own, take_fd, take_fd2, stq_get, stq_set, stq_len, stq_app, stq_top, stq_take, stq_take2, eqOk_str, eqv_str, eqOk_int, eqv_int, eqOk_bool, eqv_bool, it_seq, it_r1, it_r2, it_el, it_et, it_zip, it_rev, q_seqD1, q_seqD2, q_seqD3, List.map_cons, List.map_nil, List.length_cons, List.length_nil, List.replicate_succ, List.replicate_zero, List.append_nil, List.nil_append, List.cons_append, List.getElem?_cons_zero, List.getElem?_cons_succ, List.getElem?_nil, List.set_cons_zero, List.set_cons_succ, Option.map_some, Option.map_none, if_true, if_false, ite_true, ite_false, reduceIte, Bool.not_true, Bool.not_false, Bool.false_eq_true, decide_true, decide_false, Bool.and_true, Bool.true_and, Bool.and_false, Bool.false_and, b18, sLam, e0, p3_lam, eqNilT _ la, eqvNilT, List.isEmpty_cons, dd, e1, k, e2, enumD, cl_cons, cl_nil, q_cStep1, q_cEnd1, compF_many, wipeR, yld_d, len_fd, sd, e3, nc0, nc1, List.length_append]
          exact ⟨_, _, _, _, rfl, ⟨f3.a0, f3.b0, f3.b1, f3.c0, by have := f3.c1; omega⟩, .un t', rfl, g3, h3⟩
      · simp only [lineOk4, lineOk5, lineOk6, lineOk7, lineOk8, lineOk9, lineOk10, lineOk11, lineOk12, lineOk13, lineOk14, lineOk15, lineOk16, lineOk17, lineOk18, lineOk19, lineOk20, lineOk21, lineOk22, lineOk23, lineOk24, lineOk25, lineOk26, lineOk27, lineOk28, lineOk29, lineOk30, lineOk31, lineOk32, lineOk33, lineOk34, lineOk35, lineOk36, lineOk37, lineOk38, lineOk39, lineOk40, nc0, nc1, nc2, nc3, nc4, lineOk0, lineOk1, lineOk2, lineOk3, Nat.reduceAdd, Nat.reduceSub, Int.reduceLT, Int.reduceLE, Int.reduceBEq, Int.reduceEq, Int.reduceAdd, Int.reduceSub, Int.reduceNeg, atI_0, atI_1, atI_2, atI_3, cut_1, cut_to1, eq_self, Option.bind_some, rb_ok, rb_exc, rb_bad, ro_ok, ro_exc, ro_bad, sq_nx, sq_rt, sq_bk, sq_ct, q_vgo1, q_vgo2, q_vgo3, q_pfin1, q_pfin2, q_pgo1, q_pgo2, q_cellD1, q_cellD2, q_cons21, q_cons22, q_cons23, q_tfin1, q_tfin2, q_tgo1, q_tgo2, q_isCell1, q_isCell2, q_appGo1, q_appGo2, q_extGo1, q_extGo2, q_popFin1, q_popFin2, q_popGo1, q_popGo2, q_newGo1, q_newGo2, q_setFin1, q_setFin2, q_setGo1, q_setGo2, q_chn1, q_chn2, q_compGo1, q_compGo2, q_ckGo1, q_ckGo2, e_var, e_glob, e_lit, e_pr, e_new, e_act0, e_act1, e_and, e_or, e_not, e_ite, e_chain, e_call, e_callk, e_comp, es_nil, es_cons, an_one, an_more, or_one, or_more, e_T, prim_eq, argsD, holds, deref_d, deref_loc, derefs_nil, derefs_cons, dsOf_nil, dsOf_cons, tru_eq, q_truD1, q_truD2, q_truD3, q_truD4, q_truD5, q_truD6, q_truD7, isLst_loc, do_app, do_ext, do_pop, new_eq, set_eq, p_tup, p_lst, p_add, p_sub, p_mul, p_fdiv, p_mod, p_pow, p_lt, p_le, p_gt, p_ge, p_max, p_min, p_eq, p_ne, p_in, p_nin, p_ix, p_slTo, p_slFrom, p_slB, p_neg, p_len, p_int, p_sum, p_all, p_tupL, p_tupT, p_lstL, p_lstT, p_isi, p_isN, p_notN, isin_ch, isin_tup, isin_list, isTy, q_addD1, q_addD2, q_addD3, q_addD4, q_ixD1, q_ixD2, q_ixD3, q_slD1, q_slD2, q_lenD1, q_lenD2, q_lenD3, q_ugo1, q_ugo2, q_sgo1, q_sgo2, q_agoF1, q_agoF2, q_ago1, q_ago2, q_ago3, aug_add, aug_sub, q_fgo1, q_fgo2, s_asg', s_unp', s_par', s_par3', s_setix', s_aug', s_ex', s_ite', s_for', s_while', s_ret', ss_nil', ss_cons', asg_one, asg_many, setMany, pk_d, fin_rt, fin_nx, fin_ex, nx_ok, pick_nil, pick_cons, startR, get_top, set_top, take_top, take_own, take_fd, take_fd2, stq_get, stq_set, stq_len, stq_app, stq_top, stq_take, stq_take2, eqOk_str, eqv_str, eqOk_int, eqv_int, eqOk_bool, eqv_bool, it_seq, it_r1, it_r2, it_el, it_et, it_zip, it_rev, q_seqD1, q_seqD2, q_seqD3, List.map_cons, List.map_nil, List.length_cons, List.length_nil, List.replicate_succ, List.replicate_zero, List.append_nil, List.nil_append, List.cons_append, List.getElem?_cons_zero, List.getElem?_cons_succ, List.getElem?_nil, List.set_cons_zero, List.set_cons_succ, Option.map_some, Option.map_none, if_true, if_false, ite_true, ite_false, reduceIte, Bool.not_true, Bool.not_false, Bool.false_eq_true, decide_true, decide_false, Bool.and_true, Bool.true_and, Bool.and_false, Bool.false_and, b18, sLam, e0, p3_lam, eqNilT _ la, eqvNilT, List.isEmpty_cons, dd, e1, k]
        exact ⟨_, _, _, _, rfl, ⟨f1.a0, f1.b0, f1.b1, f1.c0, by have := f1.c1; omega⟩, .leaf other, rfl, ho.1, ho.2⟩
  | .bin u v, n, m, d, a, b, c, pre, rest, g, f, hm, hd => by
    have tl : (Tr.bin u v).tall = max u.tall v.tall + 1 := rfl
    rw [tl] at hm ⊢
    have gu : GoodR u := GoodLGoodR g
    have gv : GoodR v := GoodRtGoodR g
    have la := canAll2 (layR gu.1) (layR gv.1)
    have e0 := c_lparts (n + max u.tall v.tall + 1) (Str.ofString "app") [encR u, encR v] (stq pre (fdc a b c) rest)
    have e0 : callF FT (n + max u.tall v.tall + 2) 17 [.d (.tuple [.str (Str.ofString "app"), encR u, encR v])] (stq pre (fdc a b c) rest) = _ := e0
    rw [show n + (max u.tall v.tall + 1) + 2 = n + max u.tall v.tall + 2 + 1 by omega, cf ft18, encR]
    by_cases hd0 : d < 1
    · have dd : decide ((d : Int) < 1) = true := decide_eq_true (by omega)
      simp only [lineOk4, lineOk5, lineOk6, lineOk7, lineOk8, lineOk9, lineOk10, lineOk11, lineOk12, lineOk13, lineOk14, lineOk15, lineOk16, lineOk17, lineOk18, lineOk19, lineOk20, lineOk21, lineOk22, lineOk23, lineOk24, lineOk25, lineOk26, lineOk27, lineOk28, lineOk29, lineOk30, lineOk31, lineOk32, lineOk33, lineOk34, lineOk35, lineOk36, lineOk37, lineOk38, lineOk39, lineOk40, nc0, nc1, nc2, nc3, nc4, lineOk0, lineOk1, lineOk2, lineOk3, Nat.reduceAdd, Nat.reduceSub, Int.reduceLT, Int.reduceLE, Int.reduceBEq, Int.reduceEq, Int.reduceAdd, Int.reduceSub, Int.reduceNeg, atI_0, atI_1, atI_2, atI_3, cut_1, cut_to1, eq_self, Option.bind_some, rb_ok, rb_exc, rb_bad, ro_ok, ro_exc, ro_bad, sq_nx, sq_rt, sq_bk, sq_ct, q_vgo1, q_vgo2, q_vgo3, q_pfin1, q_pfin2, q_pgo1, q_pgo2, q_cellD1, q_cellD2, q_cons21, q_cons22, q_cons23, q_tfin1, q_tfin2, q_tgo1, q_tgo2, q_isCell1, q_isCell2, q_appGo1, q_appGo2, q_extGo1, q_extGo2, q_popFin1, q_popFin2, q_popGo1, q_popGo2, q_newGo1, q_newGo2, q_setFin1, q_setFin2, q_setGo1, q_setGo2, q_chn1, q_chn2, q_compGo1, q_compGo2, q_ckGo1, q_ckGo2, e_var, e_glob, e_lit, e_pr, e_new, e_act0, e_act1, e_and, e_or, e_not, e_ite, e_chain, e_call, e_callk, e_comp, es_nil, es_cons, an_one, an_more, or_one, or_more, e_T, prim_eq, argsD, holds, deref_d, deref_loc, derefs_nil, derefs_cons, dsOf_nil, dsOf_cons, tru_eq, q_truD1, q_truD2, q_truD3, q_truD4, q_truD5, q_truD6, q_truD7, isLst_loc, do_app, do_ext, do_pop, new_eq, set_eq, p_tup, p_lst, p_add, p_sub, p_mul, p_fdiv, p_mod, p_pow, p_lt, p_le, p_gt, p_ge, p_max, p_min, p_eq, p_ne, p_in, p_nin, p_ix, p_slTo, p_slFrom, p_slB, p_neg, p_len, p_int, p_sum, p_all, p_tupL, p_tupT, p_lstL, p_lstT, p_isi, p_isN, p_notN, isin_ch, isin_tup, isin_list, isTy, q_addD1, q_addD2, q_addD3, q_addD4, q_ixD1, q_ixD2, q_ixD3, q_slD1, q_slD2, q_lenD1, q_lenD2, q_lenD3, q_ugo1, q_ugo2, q_sgo1, q_sgo2, q_agoF1, q_agoF2, q_ago1, q_ago2, q_ago3, aug_add, aug_sub, q_fgo1, q_fgo2, s_asg', s_unp', s_par', s_par3', s_setix', s_aug', s_ex', s_ite', s_for', s_while', s_ret', ss_nil', ss_cons', asg_one, asg_many, setMany, pk_d, fin_rt, fin_nx, fin_ex, nx_ok, pick_nil, pick_cons, startR, get_top, set_top, take_top, take_own, take_fd, take_fd2, stq_get, stq_set, stq_len, stq_app, stq_top, stq_take, stq_take2, eqOk_str, eqv_str, eqOk_int, eqv_int, eqOk_bool, eqv_bool, it_seq, it_r1, it_r2, it_el, it_et, it_zip, it_rev, q_seqD1, q_seqD2, q_seqD3, List.map_cons, List.map_nil, List.length_cons, List.length_nil, List.replicate_succ, List.replicate_zero, List.append_nil, List.nil_append, List.cons_append, List.getElem?_cons_zero, List.getElem?_cons_succ, List.getElem?_nil, List.set_cons_zero, List.set_cons_succ, Option.map_some, Option.map_none, if_true, if_false, ite_true, ite_false, reduceIte, Bool.not_true, Bool.not_false, Bool.false_eq_true, decide_true, decide_false, Bool.and_true, Bool.true_and, Bool.and_false, Bool.false_and, b18, sApp, e0, p3_app, eqNilT _ la, eqvNilT, List.isEmpty_cons, dd]
      exact ⟨_, _, _, _, rfl, ⟨f.a0, f.b0, f.b1, f.c0, by have := f.c1; omega⟩, .leaf other, rfl, ho.1, ho.2⟩
    · have dd : decide ((d : Int) < 1) = false := decide_eq_false (by omega)
      obtain ⟨_, a1, b1, c1, e1, f1, r, rfl, hr⟩ := c_draw (n + max u.tall v.tall + 1) 4 m a b c pre rest f (by omega) (by decide) (by decide)
      have e1 : callF FT (n + max u.tall v.tall + 2) 13 [.loc pre.length, .d (.int 4)] (stq pre (fdc a b c) rest) = _ := e1
      cases k : ((r : Int) == 0)
      · obtain ⟨_, a2, b2, c2, e2, f2, q, rfl, hq⟩ := c_draw (n + max u.tall v.tall + 1) 2 (m + 1) a1 b1 c1 pre rest f1 (by omega) (by decide) (by decide)
        have e2 : callF FT (n + max u.tall v.tall + 2) 13 [.loc pre.length, .d (.int 2)] (stq pre (fdc a1 b1 c1) rest) = _ := e2
        have sd : (d : Int) - 1 = ((d - 1 : Nat) : Int) := by omega
        obtain rfl | rfl : q = 0 ∨ q = 1 := by omega
        · obtain ⟨_, a3, b3, c3, e3, f3, t', rfl, g3, h3⟩ := c_swap other ho u (n + max u.tall v.tall - u.tall) (m + 2) (d - 1) a2 b2 c2 pre (rest ++ [.lst []]) gu f2 (by omega) (by omega)
          rw [show n + max u.tall v.tall - u.tall + u.tall + 2 = n + max u.tall v.tall + 2 by omega] at e3
          simp only [lineOk4, lineOk5, lineOk6, lineOk7, lineOk8, lineOk9, lineOk10, lineOk11, lineOk12, lineOk13, lineOk14, lineOk15, lineOk16, lineOk17, lineOk18, lineOk19, lineOk20, lineOk21, lineOk22, lineOk23, lineOk24, lineOk25, lineOk26, lineOk27, lineOk28, lineOk29, lineOk30, lineOk31, lineOk32, lineOk33, lineOk34, lineOk35, lineOk36, lineOk37, lineOk38, lineOk39, lineOk40, nc0, nc1, nc2, nc3, nc4, lineOk0, lineOk1, lineOk2, lineOk3, Nat.reduceAdd, Nat.reduceSub, Int.reduceLT, Int.reduceLE, Int.reduceBEq, Int.reduceEq, Int.reduceAdd, Int.reduceSub, Int.reduceNeg, atI_0, atI_1, atI_2, atI_3, cut_1, cut_to1, eq_self, Option.bind_some, rb_ok, rb_exc, rb_bad, ro_ok, ro_exc, ro_bad, sq_nx, sq_rt, sq_bk, sq_ct, q_vgo1, q_vgo2, q_vgo3, q_pfin1, q_pfin2, q_pgo1, q_pgo2, q_cellD1, q_cellD2, q_cons21, q_cons22, q_cons23, q_tfin1, q_tfin2, q_tgo1, q_tgo2, q_isCell1, q_isCell2, q_appGo1, q_appGo2, q_extGo1, q_extGo2, q_popFin1, q_popFin2, q_popGo1, q_popGo2, q_newGo1, q_newGo2, q_setFin1, q_setFin2, q_setGo1, q_setGo2, q_chn1, q_chn2, q_compGo1, q_compGo2, q_ckGo1, q_ckGo2, e_var, e_glob, e_lit, e_pr, e_new, e_act0, e_act1, e_and, e_or, e_not, e_ite, e_chain, e_call, e_callk, e_comp, es_nil, es_cons, an_one, an_more, or_one, or_more, e_T, prim_eq, argsD, holds, deref_d, deref_loc, derefs_nil, derefs_cons, dsOf_nil, dsOf_cons, tru_eq, q_truD1, q_truD2, q_truD3, q_truD4, q_truD5, q_truD6, q_truD7, isLst_loc, do_app, do_ext, do_pop, new_eq, set_eq, p_tup, p_lst, p_add, p_sub, p_mul, p_fdiv, p_mod, p_pow, p_lt, p_le, p_gt, p_ge, p_max, p_min, p_eq, p_ne, p_in, p_nin, p_ix, p_slTo, p_slFrom, p_slB, p_neg, p_len, p_int, p_sum, p_all, p_tupL, p_tupT, p_lstL, p_lstT, p_isi, p_isN, p_notN, isin_ch, isin_tup, isin_list, isTy, q_addD1, q_addD2, q_addD3, q_addD4, q_ixD1, q_ixD2, q_ixD3, q_slD1, q_slD2, q_lenD1, q_lenD2, q_lenD3, q_ugo1, q_ugo2, q_sgo1, q_sgo2, q_agoF1, q_agoF2, q_ago1, q_ago2, q_ago3, aug_add, aug_sub, q_fgo1, q_fgo2, s_asg', s_unp', s_par', s_par3', s_setix', s_aug', s_ex', s_ite', s_for', s_while', s_ret', ss_nil', ss_cons', asg_one, asg_many, setMany, pk_d, fin_rt, fin_nx, fin_ex, nx_ok, pick_nil, pick_cons, startR, get_top, set_top, take_top, take_own, take_fd, take_fd2, stq_get, stq_set, stq_len, stq_app, stq_top, stq_take, stq_take2, eqOk_str, eqv_str, eqOk_int, eqv_int, eqOk_bool, eqv_bool, it_seq, it_r1, it_r2, it_el, it_et, it_zip, it_rev, q_seqD1, q_seqD2, q_seqD3, List.map_cons, List.map_nil, List.length_cons, List.length_nil, List.replicate_succ, List.replicate_zero, List.append_nil, List.nil_append, List.cons_append, List.getElem?_cons_zero, List.getElem?_cons_succ, List.getElem?_nil, List.set_cons_zero, List.set_cons_succ, Option.map_some, Option.map_none, if_true, if_false, ite_true, ite_false, reduceIte, Bool.not_true, Bool.not_false, Bool.false_eq_true, decide_true, decide_false, Bool.and_true, Bool.true_and, Bool.and_false, Bool.false_and, b18, sApp, e0, p3_app, eqNilT _ la, eqvNilT, List.isEmpty_cons, dd, e1, k, e2, enumD, cl_cons, cl_nil, q_cStep1, q_cEnd1, compF_many, wipeR, yld_d, len_fd, sd, e3, nc0, nc1, List.length_append]
          exact ⟨_, _, _, _, rfl, ⟨f3.a0, f3.b0, f3.b1, f3.c0, by have := f3.c1; omega⟩, .bin t' v, rfl, (by show (t'.all _ && v.all _) = true; rw [g3, gv.1]; rfl), (by show (t'.all _ && v.all _) = false; rw [h3]; rfl)⟩
        · obtain ⟨_, a3, b3, c3, e3, f3, t', rfl, g3, h3⟩ := c_swap other ho v (n + max u.tall v.tall - v.tall) (m + 2) (d - 1) a2 b2 c2 pre (rest ++ [.lst [encR u]]) gv f2 (by omega) (by omega)
          rw [show n + max u.tall v.tall - v.tall + v.tall + 2 = n + max u.tall v.tall + 2 by omega] at e3
          simp only [lineOk4, lineOk5, lineOk6, lineOk7, lineOk8, lineOk9, lineOk10, lineOk11, lineOk12, lineOk13, lineOk14, lineOk15, lineOk16, lineOk17, lineOk18, lineOk19, lineOk20, lineOk21, lineOk22, lineOk23, lineOk24, lineOk25, lineOk26, lineOk27, lineOk28, lineOk29, lineOk30, lineOk31, lineOk32, lineOk33, lineOk34, lineOk35, lineOk36, lineOk37, lineOk38, lineOk39, lineOk40, nc0, nc1, nc2, nc3, nc4, lineOk0, lineOk1, lineOk2, lineOk3, Nat.reduceAdd, Nat.reduceSub, Int.reduceLT, Int.reduceLE, Int.reduceBEq, Int.reduceEq, Int.reduceAdd, Int.reduceSub, Int.reduceNeg, atI_0, atI_1, atI_2, atI_3, cut_1, cut_to1, eq_self, Option.bind_some, rb_ok, rb_exc, rb_bad, ro_ok, ro_exc, ro_bad, sq_nx, sq_rt, sq_bk, sq_ct, q_vgo1, q_vgo2, q_vgo3, q_pfin1, q_pfin2, q_pgo1, q_pgo2, q_cellD1, q_cellD2, q_cons21, q_cons22, q_cons23, q_tfin1, q_tfin2, q_tgo1, q_tgo2, q_isCell1, q_isCell2, q_appGo1, q_appGo2, q_extGo1, q_extGo2, q_popFin1, q_popFin2, q_popGo1, q_popGo2, q_newGo1, q_newGo2, q_setFin1, q_setFin2, q_setGo1, q_setGo2, q_chn1, q_chn2, q_compGo1, q_compGo2, q_ckGo1, q_ckGo2, e_var, e_glob, e_lit, e_pr, e_new, e_act0, e_act1, e_and, e_or, e_not, e_ite, e_chain, e_call, e_callk, e_comp, es_nil, es_cons, an_one, an_more, or_one, or_more, e_T, prim_eq, argsD, holds, deref_d, deref_loc, derefs_nil, derefs_cons, dsOf_nil, dsOf_cons, tru_eq, q_truD1, q_truD2, q_truD3, q_truD4, q_truD5, q_truD6, q_truD7, isLst_loc, do_app, do_ext, do_pop, new_eq, set_eq, p_tup, p_lst, p_add, p_sub, p_mul, p_fdiv, p_mod, p_pow, p_lt, p_le, p_gt, p_ge, p_max, p_min, p_eq, p_ne, p_in, p_nin, p_ix, p_slTo, p_slFrom, p_slB, p_neg, p_len, p_int, p_sum, p_all, p_tupL, p_tupT, p_lstL, p_lstT, p_isi, p_isN, p_notN, isin_ch, isin_tup, isin_list, isTy, q_addD1, q_addD2, q_addD3, q_addD4, q_ixD1, q_ixD2, q_ixD3, q_slD1, q_slD2, q_lenD1, q_lenD2, q_lenD3, q_ugo1, q_ugo2, q_sgo1, q_sgo2, q_agoF1, q_agoF2, q_ago1, q_ago2, q_ago3, aug_add, aug_sub, q_fgo1, q_fgo2, s_asg', s_unp', s_par', s_par3', s_setix', s_aug', s_ex', s_ite', s_for', s_while', s_ret', ss_nil', ss_cons', asg_one, asg_many, setMany, pk_d, fin_rt, fin_nx, fin_ex, nx_ok, pick_nil, pick_cons, startR, get_top, set_top, take_top, take_own, take_fd, take_fd2, stq_get, stq_set, stq_len, stq_app, stq_top, stq_take, stq_take2, eqOk_str, eqv_str, eqOk_int, eqv_int, eqOk_bool, eqv_bool, it_seq, it_r1, it_r2, it_el, it_et, it_zip, it_rev, q_seqD1, q_seqD2, q_seqD3, List.map_cons, List.map_nil, List.length_cons, List.length_nil, List.replicate_succ, List.replicate_zero, List.append_nil, List.nil_append, List.cons_append, List.getElem?_cons_zero, List.getElem?_cons_succ, List.getElem?_nil, List.set_cons_zero, List.set_cons_succ, Option.map_some, Option.map_none, if_true, if_false, ite_true, ite_false, reduceIte, Bool.not_true, Bool.not_false, Bool.false_eq_true, decide_true, decide_false, Bool.and_true, Bool.true_and, Bool.and_false, Bool.false_and, b18, sApp, e0, p3_app, eqNilT _ la, eqvNilT, List.isEmpty_cons, dd, e1, k, e2, enumD, cl_cons, cl_nil, q_cStep1, q_cEnd1, compF_many, wipeR, yld_d, len_fd, sd, e3, nc0, nc1, List.length_append]
          exact ⟨_, _, _, _, rfl, ⟨f3.a0, f3.b0, f3.b1, f3.c0, by have := f3.c1; omega⟩, .bin u t', rfl, (by show (u.all _ && t'.all _) = true; rw [g3, gu.1]; rfl), (by show (u.all _ && t'.all _) = false; rw [h3, Bool.and_false])⟩
      · simp only [lineOk4, lineOk5, lineOk6, lineOk7, lineOk8, lineOk9, lineOk10, lineOk11, lineOk12, lineOk13, lineOk14, lineOk15, lineOk16, lineOk17, lineOk18, lineOk19, lineOk20, lineOk21, lineOk22, lineOk23, lineOk24, lineOk25, lineOk26, lineOk27, lineOk28, lineOk29, lineOk30, lineOk31, lineOk32, lineOk33, lineOk34, lineOk35, lineOk36, lineOk37, lineOk38, lineOk39, lineOk40, nc0, nc1, nc2, nc3, nc4, lineOk0, lineOk1, lineOk2, lineOk3, Nat.reduceAdd, Nat.reduceSub, Int.reduceLT, Int.reduceLE, Int.reduceBEq, Int.reduceEq, Int.reduceAdd, Int.reduceSub, Int.reduceNeg, atI_0, atI_1, atI_2, atI_3, cut_1, cut_to1, eq_self, Option.bind_some, rb_ok, rb_exc, rb_bad, ro_ok, ro_exc, ro_bad, sq_nx, sq_rt, sq_bk, sq_ct, q_vgo1, q_vgo2, q_vgo3, q_pfin1, q_pfin2, q_pgo1, q_pgo2, q_cellD1, q_cellD2, q_cons21, q_cons22, q_cons23, q_tfin1, q_tfin2, q_tgo1, q_tgo2, q_isCell1, q_isCell2, q_appGo1, q_appGo2, q_extGo1, q_extGo2, q_popFin1, q_popFin2, q_popGo1, q_popGo2, q_newGo1, q_newGo2, q_setFin1, q_setFin2, q_setGo1, q_setGo2, q_chn1, q_chn2, q_compGo1, q_compGo2, q_ckGo1, q_ckGo2, e_var, e_glob, e_lit, e_pr, e_new, e_act0, e_act1, e_and, e_or, e_not, e_ite, e_chain, e_call, e_callk, e_comp, es_nil, es_cons, an_one, an_more, or_one, or_more, e_T, prim_eq, argsD, holds, deref_d, deref_loc, derefs_nil, derefs_cons, dsOf_nil, dsOf_cons, tru_eq, q_truD1, q_truD2, q_truD3, q_truD4, q_truD5, q_truD6, q_truD7, isLst_loc, do_app, do_ext, do_pop, new_eq, set_eq, p_tup, p_lst, p_add, p_sub, p_mul, p_fdiv, p_mod, p_pow, p_lt, p_le, p_gt, p_ge, p_max, p_min, p_eq, p_ne, p_in, p_nin, p_ix, p_slTo, p_slFrom, p_slB, p_neg, p_len, p_int, p_sum, p_all, p_tupL, p_tupT, p_lstL, p_lstT, p_isi, p_isN, p_notN, isin_ch, isin_tup, isin_list, isTy, q_addD1, q_addD2, q_addD3, q_addD4, q_ixD1, q_ixD2, q_ixD3, q_slD1, q_slD2, q_lenD1, q_lenD2, q_lenD3, q_ugo1, q_ugo2, q_sgo1, q_sgo2, q_agoF1, q_agoF2, q_ago1, q_ago2, q_ago3, aug_add, aug_sub, q_fgo1, q_fgo2, s_asg', s_unp', s_par', s_par3', s_setix', s_aug', s_ex', s_ite', s_for', s_while', s_ret', ss_nil', ss_cons', asg_one, asg_many, setMany, pk_d, fin_rt, fin_nx, fin_ex, nx_ok, pick_nil, pick_cons, startR, get_top, set_top, take_top, take_own, take_fd, take_fd2, stq_get, stq_set, stq_len, stq_app, stq_top, stq_take, stq_take2, eqOk_str, eqv_str, eqOk_int, eqv_int, eqOk_bool, eqv_bool, it_seq, it_r1, it_r2, it_el, it_et, it_zip, it_rev, q_seqD1, q_seqD2, q_seqD3, List.map_cons, List.map_nil, List.length_cons, List.length_nil, List.replicate_succ, List.replicate_zero, List.append_nil, List.nil_append, List.cons_append, List.getElem?_cons_zero, List.getElem?_cons_succ, List.getElem?_nil, List.set_cons_zero, List.set_cons_succ, Option.map_some, Option.map_none, if_true, if_false, ite_true, ite_false, reduceIte, Bool.not_true, Bool.not_false, Bool.false_eq_true, decide_true, decide_false, Bool.and_true, Bool.true_and, Bool.and_false, Bool.false_and, b18, sApp, e0, p3_app, eqNilT _ la, eqvNilT, List.isEmpty_cons, dd, e1, k]
        exact ⟨_, _, _, _, rfl, ⟨f1.a0, f1.b0, f1.b1, f1.c0, by have := f1.c1; omega⟩, .leaf other, rfl, ho.1, ho.2⟩
end K60

set_option Elab.async false
set_option linter.all false
set_option maxRecDepth 100000
set_option maxHeartbeats 4000000
namespace K60
open PySem PySem.Spec L2 Mp
def fbody : Ss := (.cons (.ite (.or (.cons (.not (.call 15 (.cons (.call 9 (.cons (.var 5) .nil)) (.cons (.var 6) .nil)))) (.cons (.not (.call 15 (.cons (.callk 0 9 [0] (.cons (.var 5) .nil)) (.cons (.var 6) .nil)))) .nil))) (.cons (.ret (.lit (.bool false)))
    .nil) .nil)
    (.cons (.ite (.not (.call 15 (.cons (.call 9 (.cons (.call 18 (.cons (.var 0) (.cons (.var 5) (.cons (.call 23 (.cons (.var 0) (.cons (.var 1) .nil))) (.cons (.lit (.int 70)) .nil))))) .nil)) (.cons (.lit (.bool false)) .nil)))) (.cons (.ret (.lit (.bool false)))
    .nil) .nil)
    .nil))
theorem c_is' (n : Nat) (x y : Bool) (st : Sto) : callF FT (n + 89) 15 [.d (.bool x), .d (.bool y)] st = .ok (.d (.bool (x == y))) st := c_is (n + 88) x y st
theorem okR_bad {t : Tr} (h : t.all rawNode = false) : okR t = false := by unfold okR; rw [h]; rfl
theorem terms_it (n m : Nat) (a b c : Int) (pre rest : Sto) (x0 : PyData) (h0 : GL x0) (t : Tr) (due : Bool) (o2 o3 o4 o5 o6 : Option W) (g : GoodR t) (hd : okR t = due) (ht : t.tall ≤ 80) (f : FdOk m a b c) (hm : m ≤ 800000) :
    ∃ a' b' c', forF (callF FT (n + 89)) (.many [5, 6]) fbody (.tuple [encR t, .bool due]) [some (.loc pre.length), some (.d x0), o2, o3, o4, o5, o6] (stq pre (fdc a b c) rest) =
      .nx [some (.loc pre.length), some (.d x0), o2, o3, o4, some (.d (encR t)), some (.d (.bool due))] (stq pre (fdc a' b' c') rest) ∧ FdOk (m + 200) a' b' c' := by
  have e1 : ∀ st, callF FT (n + 89) 9 [.d (encR t)] st = .ok (.d (.bool (okR t))) st := fun st => c_raw (n + 85) t st g.1
  obtain ⟨y, a1, b1, c1, e2, f1, hy⟩ := c_noraw (n + 86) m a b c pre rest x0 h0 f (by omega)
  have e2 : callF FT (n + 89) 23 [.loc pre.length, .d x0] (stq pre (fdc a b c) rest) = _ := e2
  obtain ⟨_, a2, b2, c2, e3, f2, t', rfl, g2, h2⟩ := c_swap y hy t (n + 87 - t.tall) (m + 1) 70 a1 b1 c1 pre rest g f1 (by omega) (by decide)
  rw [show n + 87 - t.tall + t.tall + 2 = n + 89 by omega] at e3
  have e3 : callF FT (n + 89) 18 [.loc pre.length, .d (encR t), .d y, .d (.int 70)] (stq pre (fdc a1 b1 c1) rest) = _ := e3
  have e4 : ∀ st, callF FT (n + 89) 9 [.d (encR t')] st = .ok (.d (.bool (okR t'))) st := fun st => c_raw (n + 85) t' st g2
  refine ⟨a2, b2, c2, ?_, ⟨f2.a0, f2.b0, f2.b1, f2.c0, by have := f2.c1; omega⟩⟩
  rw [forF_many _ _ _ _ _ _ rfl]
  simp only [lineOk4, lineOk5, lineOk6, lineOk7, lineOk8, lineOk9, lineOk10, lineOk11, lineOk12, lineOk13, lineOk14, lineOk15, lineOk16, lineOk17, lineOk18, lineOk19, lineOk20, lineOk21, lineOk22, lineOk23, lineOk24, lineOk25, lineOk26, lineOk27, lineOk28, lineOk29, lineOk30, lineOk31, lineOk32, lineOk33, lineOk34, lineOk35, lineOk36, lineOk37, lineOk38, lineOk39, lineOk40, nc0, nc1, nc2, nc3, nc4, lineOk0, lineOk1, lineOk2, lineOk3, Nat.reduceAdd, Nat.reduceSub, Int.reduceLT, Int.reduceLE, Int.reduceBEq, Int.reduceEq, Int.reduceAdd, Int.reduceSub, Int.reduceNeg, atI_0, atI_1, atI_2, atI_3, cut_1, cut_to1, eq_self, Option.bind_some, rb_ok, rb_exc, rb_bad, ro_ok, ro_exc, ro_bad, sq_nx, sq_rt, sq_bk, sq_ct, q_vgo1, q_vgo2, q_vgo3, q_pfin1, q_pfin2, q_pgo1, q_pgo2, q_cellD1, q_cellD2, q_cons21, q_cons22, q_cons23, q_tfin1, q_tfin2, q_tgo1, q_tgo2, q_isCell1, q_isCell2, q_appGo1, q_appGo2, q_extGo1, q_extGo2, q_popFin1, q_popFin2, q_popGo1, q_popGo2, q_newGo1, q_newGo2, q_setFin1, q_setFin2, q_setGo1, q_setGo2, q_chn1, q_chn2, q_compGo1, q_compGo2, q_ckGo1, q_ckGo2, e_var, e_glob, e_lit, e_pr, e_new, e_act0, e_act1, e_and, e_or, e_not, e_ite, e_chain, e_call, e_callk, e_comp, es_nil, es_cons, an_one, an_more, or_one, or_more, e_T, prim_eq, argsD, holds, deref_d, deref_loc, derefs_nil, derefs_cons, dsOf_nil, dsOf_cons, tru_eq, q_truD1, q_truD2, q_truD3, q_truD4, q_truD5, q_truD6, q_truD7, isLst_loc, do_app, do_ext, do_pop, new_eq, set_eq, p_tup, p_lst, p_add, p_sub, p_mul, p_fdiv, p_mod, p_pow, p_lt, p_le, p_gt, p_ge, p_max, p_min, p_eq, p_ne, p_in, p_nin, p_ix, p_slTo, p_slFrom, p_slB, p_neg, p_len, p_int, p_sum, p_all, p_tupL, p_tupT, p_lstL, p_lstT, p_isi, p_isN, p_notN, isin_ch, isin_tup, isin_list, isTy, q_addD1, q_addD2, q_addD3, q_addD4, q_ixD1, q_ixD2, q_ixD3, q_slD1, q_slD2, q_lenD1, q_lenD2, q_lenD3, q_ugo1, q_ugo2, q_sgo1, q_sgo2, q_agoF1, q_agoF2, q_ago1, q_ago2, q_ago3, aug_add, aug_sub, q_fgo1, q_fgo2, s_asg', s_unp', s_par', s_par3', s_setix', s_aug', s_ex', s_ite', s_for', s_while', s_ret', ss_nil', ss_cons', asg_one, asg_many, setMany, pk_d, fin_rt, fin_nx, fin_ex, nx_ok, pick_nil, pick_cons, startR, get_top, set_top, take_top, take_own, take_fd, take_fd2, stq_get, stq_set, stq_len, stq_app, stq_top, stq_take, stq_take2, eqOk_str, eqv_str, eqOk_int, eqv_int, eqOk_bool, eqv_bool, it_seq, it_r1, it_r2, it_el, it_et, it_zip, it_rev, q_seqD1, q_seqD2, q_seqD3, List.map_cons, List.map_nil, List.length_cons, List.length_nil, List.replicate_succ, List.replicate_zero, List.append_nil, List.nil_append, List.cons_append, List.getElem?_cons_zero, List.getElem?_cons_succ, List.getElem?_nil, List.set_cons_zero, List.set_cons_succ, Option.map_some, Option.map_none, if_true, if_false, ite_true, ite_false, reduceIte, Bool.not_true, Bool.not_false, Bool.false_eq_true, decide_true, decide_false, Bool.and_true, Bool.true_and, Bool.and_false, Bool.false_and, fbody, e1, e2, e3, e4, okR_bad h2, hd, c_is', beq_self_eq_true]
theorem okR_fit {t : Tr} (g : GoodR t) (hs : t.size ≤ 2000) : okR t = decide (t.tall ≤ 60) := by
  unfold okR
  rw [g.2, decide_eq_true hs, Bool.true_and, Bool.true_and]
theorem c_terms (n m : Nat) (a b c : Int) (pre rest : Sto) (f : FdOk m a b c) (hm : m ≤ 600000) :
    Draws (callF FT (n + 90) 24 [.loc pre.length] (stq pre (fdc a b c) rest)) (m + 2000) pre rest fun x => x = .bool true := by
  obtain ⟨x0, a1, b1, c1, e1, f1, h0⟩ := c_leaf (n + 85) m a b c pre rest f (by omega)
  have e1 : callF FT (n + 89) 19 [.loc pre.length] (stq pre (fdc a b c) rest) = _ := e1
  obtain ⟨_, a2, b2, c2, e2, f2, r, rfl, hr⟩ := c_draw (n + 88) 3 (m + 14) a1 b1 c1 pre rest f1 (by omega) (by decide) (by decide)
  have e2 : callF FT (n + 89) 13 [.loc pre.length, .d (.int 3)] (stq pre (fdc a1 b1 c1) rest) = _ := e2
  obtain ⟨_, a3, b3, c3, e3, f3, q, rfl, hq⟩ := c_draw (n + 88) 3 (m + 14 + 1) a2 b2 c2 pre rest f2 (by omega) (by decide) (by decide)
  have e3 : callF FT (n + 89) 13 [.loc pre.length, .d (.int 3)] (stq pre (fdc a2 b2 c2) rest) = _ := e3
  obtain ⟨_, a4, b4, c4, e4, f4, p, rfl, hp⟩ := c_draw (n + 88) 7 (m + 14 + 1 + 1) a3 b3 c3 pre rest f3 (by omega) (by decide) (by decide)
  have e4 : callF FT (n + 89) 13 [.loc pre.length, .d (.int 7)] (stq pre (fdc a3 b3 c3) rest) = _ := e4
  have p6 : 2 ^ p ≤ 64 := Nat.pow_le_pow_right (n := 2) (j := 6) (by decide) (by omega)
  obtain ⟨_, a5, b5, c5, e5, f5, t1, rfl, g1, l1⟩ := c_small (n + 84 - p) pre rest p (m + 17) a4 b4 c4 f4 (by omega)
  rw [show n + 84 - p + p + 5 = n + 89 by omega] at e5
  have s1 : (1999 : Int) + (r : Int) = ((1999 + r : Nat) : Int) := by omega
  have s2 : (59 : Int) + (q : Int) = ((59 + q : Nat) : Int) := by omega
  obtain ⟨t2, e6, g2, z2, l2⟩ := c_flat (n + 78) x0 h0 10 (1999 + r) (stq pre (fdc a5 b5 c5) rest) (by omega) (by omega)
  have e6 : callF FT (n + 89) 21 [.d x0, .d (.int ((1999 + r : Nat) : Int))] (stq pre (fdc a5 b5 c5) rest) = _ := e6
  obtain ⟨_, a7, b7, c7, e7, f7, t3, rfl, g3, l3, z3⟩ := c_thin (n + 86) (m + 17 + (16 * 2 ^ p - 1)) (59 + q) a5 b5 c5 pre rest x0 h0 f5 (by omega) (by omega) (by omega)
  have e7 : callF FT (n + 89) 22 [.loc pre.length, .d x0, .d (.int ((59 + q : Nat) : Int))] (stq pre (fdc a5 b5 c5) rest) = _ := e7
  have d2 : decide (((1999 + r : Nat) : Int) < 2001) = decide (1999 + r < 2001) := decide_eq_decide.mpr (by omega)
  have d3 : decide (((59 + q : Nat) : Int) < 61) = decide (59 + q < 61) := decide_eq_decide.mpr (by omega)
  have k1 : okR t1 = true := by
    have := t1.size_lt
    have h128 : 2 ^ t1.tall ≤ 128 := Nat.pow_le_pow_right (n := 2) (j := 7) (by decide) (by omega)
    rw [okR_fit g1 (by omega)]
    exact decide_eq_true (by omega)
  have k2 : okR t2 = decide (1999 + r < 2001) := by
    unfold okR
    rw [g2.2, z2, decide_eq_true (p := t2.tall ≤ 60) (by omega), Bool.true_and, Bool.and_true]
    exact decide_eq_decide.mpr (by omega)
  have k3 : okR t3 = decide (59 + q < 61) := by
    rw [okR_fit g3 (by omega), l3]
    exact decide_eq_decide.mpr (by omega)
  obtain ⟨a8, b8, c8, i1, f8⟩ := terms_it n (m + 17 + (16 * 2 ^ p - 1) + (59 + q)) a7 b7 c7 pre rest x0 h0 t1 true (some (.d (.int ((1999 + r : Nat) : Int)))) (some (.d (.int ((59 + q : Nat) : Int))))
    (some (.d (.list [.tuple [encR t1, .bool true], .tuple [encR t2, .bool (decide (1999 + r < 2001))], .tuple [encR t3, .bool (decide (59 + q < 61))]]))) none none g1 k1 (by omega) f7 (by omega)
  obtain ⟨a9, b9, c9, i2, f9⟩ := terms_it n _ a8 b8 c8 pre rest x0 h0 t2 _ (some (.d (.int ((1999 + r : Nat) : Int)))) (some (.d (.int ((59 + q : Nat) : Int))))
    (some (.d (.list [.tuple [encR t1, .bool true], .tuple [encR t2, .bool (decide (1999 + r < 2001))], .tuple [encR t3, .bool (decide (59 + q < 61))]]))) (some (.d (encR t1))) (some (.d (.bool true))) g2 k2 (by omega) f8 (by omega)
  obtain ⟨a10, b10, c10, i3, f10⟩ := terms_it n _ a9 b9 c9 pre rest x0 h0 t3 _ (some (.d (.int ((1999 + r : Nat) : Int)))) (some (.d (.int ((59 + q : Nat) : Int))))
    (some (.d (.list [.tuple [encR t1, .bool true], .tuple [encR t2, .bool (decide (1999 + r < 2001))], .tuple [encR t3, .bool (decide (59 + q < 61))]]))) (some (.d (encR t2))) (some (.d (.bool (decide (1999 + r < 2001))))) g3 k3 (by omega) f9 (by omega)
  unfold fbody at i1 i2 i3
  rw [show n + 90 = n + 89 + 1 from rfl, cf ft24]
  simp only [lineOk4, lineOk5, lineOk6, lineOk7, lineOk8, lineOk9, lineOk10, lineOk11, lineOk12, lineOk13, lineOk14, lineOk15, lineOk16, lineOk17, lineOk18, lineOk19, lineOk20, lineOk21, lineOk22, lineOk23, lineOk24, lineOk25, lineOk26, lineOk27, lineOk28, lineOk29, lineOk30, lineOk31, lineOk32, lineOk33, lineOk34, lineOk35, lineOk36, lineOk37, lineOk38, lineOk39, lineOk40, nc0, nc1, nc2, nc3, nc4, lineOk0, lineOk1, lineOk2, lineOk3, Nat.reduceAdd, Nat.reduceSub, Int.reduceLT, Int.reduceLE, Int.reduceBEq, Int.reduceEq, Int.reduceAdd, Int.reduceSub, Int.reduceNeg, atI_0, atI_1, atI_2, atI_3, cut_1, cut_to1, eq_self, Option.bind_some, rb_ok, rb_exc, rb_bad, ro_ok, ro_exc, ro_bad, sq_nx, sq_rt, sq_bk, sq_ct, q_vgo1, q_vgo2, q_vgo3, q_pfin1, q_pfin2, q_pgo1, q_pgo2, q_cellD1, q_cellD2, q_cons21, q_cons22, q_cons23, q_tfin1, q_tfin2, q_tgo1, q_tgo2, q_isCell1, q_isCell2, q_appGo1, q_appGo2, q_extGo1, q_extGo2, q_popFin1, q_popFin2, q_popGo1, q_popGo2, q_newGo1, q_newGo2, q_setFin1, q_setFin2, q_setGo1, q_setGo2, q_chn1, q_chn2, q_compGo1, q_compGo2, q_ckGo1, q_ckGo2, e_var, e_glob, e_lit, e_pr, e_new, e_act0, e_act1, e_and, e_or, e_not, e_ite, e_chain, e_call, e_callk, e_comp, es_nil, es_cons, an_one, an_more, or_one, or_more, e_T, prim_eq, argsD, holds, deref_d, deref_loc, derefs_nil, derefs_cons, dsOf_nil, dsOf_cons, tru_eq, q_truD1, q_truD2, q_truD3, q_truD4, q_truD5, q_truD6, q_truD7, isLst_loc, do_app, do_ext, do_pop, new_eq, set_eq, p_tup, p_lst, p_add, p_sub, p_mul, p_fdiv, p_mod, p_pow, p_lt, p_le, p_gt, p_ge, p_max, p_min, p_eq, p_ne, p_in, p_nin, p_ix, p_slTo, p_slFrom, p_slB, p_neg, p_len, p_int, p_sum, p_all, p_tupL, p_tupT, p_lstL, p_lstT, p_isi, p_isN, p_notN, isin_ch, isin_tup, isin_list, isTy, q_addD1, q_addD2, q_addD3, q_addD4, q_ixD1, q_ixD2, q_ixD3, q_slD1, q_slD2, q_lenD1, q_lenD2, q_lenD3, q_ugo1, q_ugo2, q_sgo1, q_sgo2, q_agoF1, q_agoF2, q_ago1, q_ago2, q_ago3, aug_add, aug_sub, q_fgo1, q_fgo2, s_asg', s_unp', s_par', s_par3', s_setix', s_aug', s_ex', s_ite', s_for', s_while', s_ret', ss_nil', ss_cons', asg_one, asg_many, setMany, pk_d, fin_rt, fin_nx, fin_ex, nx_ok, pick_nil, pick_cons, startR, get_top, set_top, take_top, take_own, take_fd, take_fd2, stq_get, stq_set, stq_len, stq_app, stq_top, stq_take, stq_take2, eqOk_str, eqv_str, eqOk_int, eqv_int, eqOk_bool, eqv_bool, it_seq, it_r1, it_r2, it_el, it_et, it_zip, it_rev, q_seqD1, q_seqD2, q_seqD3, List.map_cons, List.map_nil, List.length_cons, List.length_nil, List.replicate_succ, List.replicate_zero, List.append_nil, List.nil_append, List.cons_append, List.getElem?_cons_zero, List.getElem?_cons_succ, List.getElem?_nil, List.set_cons_zero, List.set_cons_succ, Option.map_some, Option.map_none, if_true, if_false, ite_true, ite_false, reduceIte, Bool.not_true, Bool.not_false, Bool.false_eq_true, decide_true, decide_false, Bool.and_true, Bool.true_and, Bool.and_false, Bool.false_and, b24, e1, e2, e3, s1, s2, e4, e5, e6, e7, d2, d3, forL_cons, forL_nil, i1, i2, i3, q_fstep1]
  exact ⟨_, _, _, _, rfl, ⟨f10.a0, f10.b0, f10.b1, f10.c0, by have := f10.c1; omega⟩, rfl⟩
end K60

set_option Elab.async false
set_option linter.all false
set_option maxRecDepth 100000
set_option maxHeartbeats 4000000
namespace K60
open PySem PySem.Spec L2 Mp
def anyL : PyData → Bool
  | .tuple (.str w :: _) => w == Str.ofString "any"
  | _ => false
def noAny (x : PyData) : Bool := !anyL x
def tagOk : PyData → Bool
  | .tuple (.str w :: r) => !parts3 w && (kindNode (.tuple (.str w :: r)) == !(w == Str.ofString "any"))
  | _ => false
def GoodK (t : Tr) : Prop := t.all leafK = true ∧ (t.all looseNode = true ∧ t.all tagOk = true) ∧ t.flat = true
abbrev GLK (x : PyData) : Prop := GoodK (.leaf x)
theorem GoodK.bin {a b : Tr} (h : GoodK a) (h' : GoodK b) : GoodK (.bin a b) := by
  obtain ⟨h1, ⟨h2, h3⟩, h4⟩ := h
  obtain ⟨g1, ⟨g2, g3⟩, g4⟩ := h'
  refine ⟨?_, ⟨?_, ?_⟩, ?_⟩
  · show (a.all leafK && b.all leafK) = true
    rw [h1, g1]; rfl
  · show (a.all looseNode && b.all looseNode) = true
    rw [h2, g2]; rfl
  · show (a.all tagOk && b.all tagOk) = true
    rw [h3, g3]; rfl
  · show (a.flat && b.flat) = true
    rw [h4, g4]; rfl
theorem GoodK.sp {a b : Tr} (h : GoodK (.bin a b)) : GoodK a ∧ GoodK b := by
  obtain ⟨h1, ⟨h2, h3⟩, h4⟩ := h
  have h1 : (a.all leafK && b.all leafK) = true := h1
  have h2 : (a.all looseNode && b.all looseNode) = true := h2
  have h3 : (a.all tagOk && b.all tagOk) = true := h3
  have h4 : (a.flat && b.flat) = true := h4
  rw [Bool.and_eq_true] at h1 h2 h3 h4
  exact ⟨⟨h1.1, ⟨h2.1, h3.1⟩, h4.1⟩, ⟨h1.2, ⟨h2.2, h3.2⟩, h4.2⟩⟩
theorem GoodLGoodK {a b : Tr} (h : GoodK (.bin a b)) : GoodK a := h.sp.1
theorem GoodRtGoodK {a b : Tr} (h : GoodK (.bin a b)) : GoodK b := h.sp.2
theorem gl_partsK {x : PyData} (h : GLK x) : ∃ w r, x = .tuple (.str w :: r) ∧ parts3 w = false := by
  have h3 : tagOk x = true := h.2.1.2
  unfold tagOk at h3
  split at h3
  · rw [Bool.and_eq_true] at h3
    exact ⟨_, _, rfl, by simpa using h3.1⟩
  · cases h3
theorem claim_ok : wordOk (Str.ofString "claim") = true := by decide +kernel
theorem glk_base {w : Str} (h : wordOk w = true) : GLK (.tuple [.str (Str.ofString "base"), .str w]) := by
  have e2 : (Str.ofString "base" == Str.ofString "base") = true := by decide +kernel
  have e3 : (Str.ofString "base" == Str.ofString "arrow") = false := by decide +kernel
  have e4 : (Str.ofString "base" == Str.ofString "any") = false := by decide +kernel
  obtain ⟨h1, h2⟩ := word_str h
  have r : kindNode (.tuple [.str (Str.ofString "base"), .str w]) = true := by simp only [kindNode, e2, isWord, h, if_true, List.isEmpty_nil, Bool.and_self]
  have r2 := kind_loose r
  refine ⟨?_, ⟨r2, ?_⟩, rfl⟩
  · show leafK _ = true
    unfold leafK
    rw [r2]
    simp only [PyData.canLay0, PyData.canLayAll0, sf_t, strFit, nf_2, hf_1, h1, h2, so_base, e3, Bool.not_true, Bool.false_or, Bool.not_false, Bool.and_true, Bool.true_and]
  · show tagOk _ = true
    unfold tagOk
    simp only [p3_base, r, e4, Bool.not_false, Bool.true_and, beq_self_eq_true]
theorem glk_any {i : Int} (h0 : 0 ≤ i) (h1 : i ≤ 999) : GLK (.tuple [.str (Str.ofString "any"), .int i]) := by
  have e1 : (Str.ofString "any" == Str.ofString "any") = true := by decide +kernel
  have e2 : (Str.ofString "any" == Str.ofString "base") = false := by decide +kernel
  have e3 : (Str.ofString "any" == Str.ofString "arrow") = false := by decide +kernel
  have r : kindNode (.tuple [.str (Str.ofString "any"), .int i]) = false := by simp only [kindNode, e2, e3, Bool.false_eq_true, if_false, Bool.false_and]
  have r2 : looseNode (.tuple [.str (Str.ofString "any"), .int i]) = true := by simp only [looseNode, r, e1, isInt, decide_eq_true h0, decide_eq_true h1, List.isEmpty_nil, Bool.and_self, Bool.or_true]
  refine ⟨?_, ⟨r2, ?_⟩, rfl⟩
  · show leafK _ = true
    unfold leafK
    rw [r2]
    simp only [PyData.canLay0, PyData.canLayAll0, sf_t, strFit, nf_2, hf_1, so_any, e3, Bool.not_true, Bool.false_or, Bool.not_false, Bool.and_true, Bool.true_and]
  · show tagOk _ = true
    unfold tagOk
    simp only [p3_any, r, e1, Bool.not_false, Bool.not_true, Bool.true_and, beq_self_eq_true]
theorem c_lleaf (n m : Nat) (a b c : Int) (pre rest : Sto) (f : FdOk m a b c) (hm : m ≤ 800000) :
    Draws (callF FT (n + 4) 25 [.loc pre.length] (stq pre (fdc a b c) rest)) (m + 15) pre rest GLK := by
  obtain ⟨_, a1, b1, c1, e1, f1, r, rfl, hr⟩ := c_draw (n + 2) 2 m a b c pre rest f (by omega) (by decide) (by decide)
  have e1 : callF FT (n + 3) 13 [.loc pre.length, .d (.int 2)] (stq pre (fdc a b c) rest) = _ := e1
  rw [cf ft25]
  cases k : ((r : Int) == 0)
  · obtain ⟨_, a2, b2, c2, e2, f2, q, rfl, hq⟩ := c_draw (n + 2) 1000 (m + 1) a1 b1 c1 pre rest f1 (by omega) (by decide) (by decide)
    have e2 : callF FT (n + 3) 13 [.loc pre.length, .d (.int 1000)] (stq pre (fdc a1 b1 c1) rest) = _ := e2
    obtain ⟨y, a3, b3, c3, e3, f3, hy⟩ := c_one (n + 1) (m + 1 + 1) a2 b2 c2 pre rest [.int 0, .int 1, .int 999, .int q] f2 (by omega) (by simp) (by simp)
    have hy : ∃ i, y = .int i ∧ 0 ≤ i ∧ i ≤ 999 := by
      simp only [List.mem_cons, List.not_mem_nil, or_false] at hy
      rcases hy with rfl | rfl | rfl | rfl
      · exact ⟨0, rfl, by decide, by decide⟩
      · exact ⟨1, rfl, by decide, by decide⟩
      · exact ⟨999, rfl, by decide, by decide⟩
      · exact ⟨q, rfl, by omega, by omega⟩
    obtain ⟨i, rfl, i0, i1⟩ := hy
    simp only [lineOk4, lineOk5, lineOk6, lineOk7, lineOk8, lineOk9, lineOk10, lineOk11, lineOk12, lineOk13, lineOk14, lineOk15, lineOk16, lineOk17, lineOk18, lineOk19, lineOk20, lineOk21, lineOk22, lineOk23, lineOk24, lineOk25, lineOk26, lineOk27, lineOk28, lineOk29, lineOk30, lineOk31, lineOk32, lineOk33, lineOk34, lineOk35, lineOk36, lineOk37, lineOk38, lineOk39, lineOk40, nc0, nc1, nc2, nc3, nc4, lineOk0, lineOk1, lineOk2, lineOk3, Nat.reduceAdd, Nat.reduceSub, Int.reduceLT, Int.reduceLE, Int.reduceBEq, Int.reduceEq, Int.reduceAdd, Int.reduceSub, Int.reduceNeg, atI_0, atI_1, atI_2, atI_3, cut_1, cut_to1, eq_self, Option.bind_some, rb_ok, rb_exc, rb_bad, ro_ok, ro_exc, ro_bad, sq_nx, sq_rt, sq_bk, sq_ct, q_vgo1, q_vgo2, q_vgo3, q_pfin1, q_pfin2, q_pgo1, q_pgo2, q_cellD1, q_cellD2, q_cons21, q_cons22, q_cons23, q_tfin1, q_tfin2, q_tgo1, q_tgo2, q_isCell1, q_isCell2, q_appGo1, q_appGo2, q_extGo1, q_extGo2, q_popFin1, q_popFin2, q_popGo1, q_popGo2, q_newGo1, q_newGo2, q_setFin1, q_setFin2, q_setGo1, q_setGo2, q_chn1, q_chn2, q_compGo1, q_compGo2, q_ckGo1, q_ckGo2, e_var, e_glob, e_lit, e_pr, e_new, e_act0, e_act1, e_and, e_or, e_not, e_ite, e_chain, e_call, e_callk, e_comp, es_nil, es_cons, an_one, an_more, or_one, or_more, e_T, prim_eq, argsD, holds, deref_d, deref_loc, derefs_nil, derefs_cons, dsOf_nil, dsOf_cons, tru_eq, q_truD1, q_truD2, q_truD3, q_truD4, q_truD5, q_truD6, q_truD7, isLst_loc, do_app, do_ext, do_pop, new_eq, set_eq, p_tup, p_lst, p_add, p_sub, p_mul, p_fdiv, p_mod, p_pow, p_lt, p_le, p_gt, p_ge, p_max, p_min, p_eq, p_ne, p_in, p_nin, p_ix, p_slTo, p_slFrom, p_slB, p_neg, p_len, p_int, p_sum, p_all, p_tupL, p_tupT, p_lstL, p_lstT, p_isi, p_isN, p_notN, isin_ch, isin_tup, isin_list, isTy, q_addD1, q_addD2, q_addD3, q_addD4, q_ixD1, q_ixD2, q_ixD3, q_slD1, q_slD2, q_lenD1, q_lenD2, q_lenD3, q_ugo1, q_ugo2, q_sgo1, q_sgo2, q_agoF1, q_agoF2, q_ago1, q_ago2, q_ago3, aug_add, aug_sub, q_fgo1, q_fgo2, s_asg', s_unp', s_par', s_par3', s_setix', s_aug', s_ex', s_ite', s_for', s_while', s_ret', ss_nil', ss_cons', asg_one, asg_many, setMany, pk_d, fin_rt, fin_nx, fin_ex, nx_ok, pick_nil, pick_cons, startR, get_top, set_top, take_top, take_own, take_fd, take_fd2, stq_get, stq_set, stq_len, stq_app, stq_top, stq_take, stq_take2, eqOk_str, eqv_str, eqOk_int, eqv_int, eqOk_bool, eqv_bool, it_seq, it_r1, it_r2, it_el, it_et, it_zip, it_rev, q_seqD1, q_seqD2, q_seqD3, List.map_cons, List.map_nil, List.length_cons, List.length_nil, List.replicate_succ, List.replicate_zero, List.append_nil, List.nil_append, List.cons_append, List.getElem?_cons_zero, List.getElem?_cons_succ, List.getElem?_nil, List.set_cons_zero, List.set_cons_succ, Option.map_some, Option.map_none, if_true, if_false, ite_true, ite_false, reduceIte, Bool.not_true, Bool.not_false, Bool.false_eq_true, decide_true, decide_false, Bool.and_true, Bool.true_and, Bool.and_false, Bool.false_and, b25, e1, k, e2, e3]
    exact ⟨_, _, _, _, rfl, ⟨f3.a0, f3.b0, f3.b1, f3.c0, by have := f3.c1; omega⟩, glk_any i0 i1⟩
  · obtain ⟨_, a2, b2, c2, e2, f2, w, rfl, hw⟩ := c_word16 n (m + 1) a1 b1 c1 pre rest f1 (by omega)
    obtain ⟨y, a3, b3, c3, e3, f3, hy⟩ := c_one (n + 1) (m + 1 + 13) a2 b2 c2 pre rest [.str (Str.ofString "claim"), .str w] f2 (by omega) (by simp) (by simp)
    have hy : ∃ u, y = .str u ∧ wordOk u = true := by
      simp only [List.mem_cons, List.not_mem_nil, or_false] at hy
      rcases hy with rfl | rfl
      · exact ⟨_, rfl, claim_ok⟩
      · exact ⟨w, rfl, hw⟩
    obtain ⟨u, rfl, hu⟩ := hy
    simp only [lineOk4, lineOk5, lineOk6, lineOk7, lineOk8, lineOk9, lineOk10, lineOk11, lineOk12, lineOk13, lineOk14, lineOk15, lineOk16, lineOk17, lineOk18, lineOk19, lineOk20, lineOk21, lineOk22, lineOk23, lineOk24, lineOk25, lineOk26, lineOk27, lineOk28, lineOk29, lineOk30, lineOk31, lineOk32, lineOk33, lineOk34, lineOk35, lineOk36, lineOk37, lineOk38, lineOk39, lineOk40, nc0, nc1, nc2, nc3, nc4, lineOk0, lineOk1, lineOk2, lineOk3, Nat.reduceAdd, Nat.reduceSub, Int.reduceLT, Int.reduceLE, Int.reduceBEq, Int.reduceEq, Int.reduceAdd, Int.reduceSub, Int.reduceNeg, atI_0, atI_1, atI_2, atI_3, cut_1, cut_to1, eq_self, Option.bind_some, rb_ok, rb_exc, rb_bad, ro_ok, ro_exc, ro_bad, sq_nx, sq_rt, sq_bk, sq_ct, q_vgo1, q_vgo2, q_vgo3, q_pfin1, q_pfin2, q_pgo1, q_pgo2, q_cellD1, q_cellD2, q_cons21, q_cons22, q_cons23, q_tfin1, q_tfin2, q_tgo1, q_tgo2, q_isCell1, q_isCell2, q_appGo1, q_appGo2, q_extGo1, q_extGo2, q_popFin1, q_popFin2, q_popGo1, q_popGo2, q_newGo1, q_newGo2, q_setFin1, q_setFin2, q_setGo1, q_setGo2, q_chn1, q_chn2, q_compGo1, q_compGo2, q_ckGo1, q_ckGo2, e_var, e_glob, e_lit, e_pr, e_new, e_act0, e_act1, e_and, e_or, e_not, e_ite, e_chain, e_call, e_callk, e_comp, es_nil, es_cons, an_one, an_more, or_one, or_more, e_T, prim_eq, argsD, holds, deref_d, deref_loc, derefs_nil, derefs_cons, dsOf_nil, dsOf_cons, tru_eq, q_truD1, q_truD2, q_truD3, q_truD4, q_truD5, q_truD6, q_truD7, isLst_loc, do_app, do_ext, do_pop, new_eq, set_eq, p_tup, p_lst, p_add, p_sub, p_mul, p_fdiv, p_mod, p_pow, p_lt, p_le, p_gt, p_ge, p_max, p_min, p_eq, p_ne, p_in, p_nin, p_ix, p_slTo, p_slFrom, p_slB, p_neg, p_len, p_int, p_sum, p_all, p_tupL, p_tupT, p_lstL, p_lstT, p_isi, p_isN, p_notN, isin_ch, isin_tup, isin_list, isTy, q_addD1, q_addD2, q_addD3, q_addD4, q_ixD1, q_ixD2, q_ixD3, q_slD1, q_slD2, q_lenD1, q_lenD2, q_lenD3, q_ugo1, q_ugo2, q_sgo1, q_sgo2, q_agoF1, q_agoF2, q_ago1, q_ago2, q_ago3, aug_add, aug_sub, q_fgo1, q_fgo2, s_asg', s_unp', s_par', s_par3', s_setix', s_aug', s_ex', s_ite', s_for', s_while', s_ret', ss_nil', ss_cons', asg_one, asg_many, setMany, pk_d, fin_rt, fin_nx, fin_ex, nx_ok, pick_nil, pick_cons, startR, get_top, set_top, take_top, take_own, take_fd, take_fd2, stq_get, stq_set, stq_len, stq_app, stq_top, stq_take, stq_take2, eqOk_str, eqv_str, eqOk_int, eqv_int, eqOk_bool, eqv_bool, it_seq, it_r1, it_r2, it_el, it_et, it_zip, it_rev, q_seqD1, q_seqD2, q_seqD3, List.map_cons, List.map_nil, List.length_cons, List.length_nil, List.replicate_succ, List.replicate_zero, List.append_nil, List.nil_append, List.cons_append, List.getElem?_cons_zero, List.getElem?_cons_succ, List.getElem?_nil, List.set_cons_zero, List.set_cons_succ, Option.map_some, Option.map_none, if_true, if_false, ite_true, ite_false, reduceIte, Bool.not_true, Bool.not_false, Bool.false_eq_true, decide_true, decide_false, Bool.and_true, Bool.true_and, Bool.and_false, Bool.false_and, b25, e1, k, e2, e3]
    exact ⟨_, _, _, _, rfl, ⟨f3.a0, f3.b0, f3.b1, f3.c0, by have := f3.c1; omega⟩, glk_base hu⟩
theorem c_smallk (n : Nat) (pre rest : Sto) : ∀ (d m : Nat) (a b c : Int), FdOk m a b c → m + 17 * 2 ^ d ≤ 700000 →
    Draws (callF FT (n + d + 5) 26 [.loc pre.length, .d (.int d)] (stq pre (fdc a b c) rest)) (m + (17 * 2 ^ d - 1)) pre rest fun x => ∃ t, x = encK t ∧ GoodK t ∧ t.tall ≤ d + 1
  | 0, m, a, b, c, f, hm => by
    obtain ⟨x, a1, b1, c1, e1, f1, g1⟩ := c_lleaf n m a b c pre rest f (by omega)
    rw [show n + 0 + 5 = n + 4 + 1 from rfl, cf ft26]
    simp only [nc0]
    simp only [lineOk4, lineOk5, lineOk6, lineOk7, lineOk8, lineOk9, lineOk10, lineOk11, lineOk12, lineOk13, lineOk14, lineOk15, lineOk16, lineOk17, lineOk18, lineOk19, lineOk20, lineOk21, lineOk22, lineOk23, lineOk24, lineOk25, lineOk26, lineOk27, lineOk28, lineOk29, lineOk30, lineOk31, lineOk32, lineOk33, lineOk34, lineOk35, lineOk36, lineOk37, lineOk38, lineOk39, lineOk40, nc0, nc1, nc2, nc3, nc4, lineOk0, lineOk1, lineOk2, lineOk3, Nat.reduceAdd, Nat.reduceSub, Int.reduceLT, Int.reduceLE, Int.reduceBEq, Int.reduceEq, Int.reduceAdd, Int.reduceSub, Int.reduceNeg, atI_0, atI_1, atI_2, atI_3, cut_1, cut_to1, eq_self, Option.bind_some, rb_ok, rb_exc, rb_bad, ro_ok, ro_exc, ro_bad, sq_nx, sq_rt, sq_bk, sq_ct, q_vgo1, q_vgo2, q_vgo3, q_pfin1, q_pfin2, q_pgo1, q_pgo2, q_cellD1, q_cellD2, q_cons21, q_cons22, q_cons23, q_tfin1, q_tfin2, q_tgo1, q_tgo2, q_isCell1, q_isCell2, q_appGo1, q_appGo2, q_extGo1, q_extGo2, q_popFin1, q_popFin2, q_popGo1, q_popGo2, q_newGo1, q_newGo2, q_setFin1, q_setFin2, q_setGo1, q_setGo2, q_chn1, q_chn2, q_compGo1, q_compGo2, q_ckGo1, q_ckGo2, e_var, e_glob, e_lit, e_pr, e_new, e_act0, e_act1, e_and, e_or, e_not, e_ite, e_chain, e_call, e_callk, e_comp, es_nil, es_cons, an_one, an_more, or_one, or_more, e_T, prim_eq, argsD, holds, deref_d, deref_loc, derefs_nil, derefs_cons, dsOf_nil, dsOf_cons, tru_eq, q_truD1, q_truD2, q_truD3, q_truD4, q_truD5, q_truD6, q_truD7, isLst_loc, do_app, do_ext, do_pop, new_eq, set_eq, p_tup, p_lst, p_add, p_sub, p_mul, p_fdiv, p_mod, p_pow, p_lt, p_le, p_gt, p_ge, p_max, p_min, p_eq, p_ne, p_in, p_nin, p_ix, p_slTo, p_slFrom, p_slB, p_neg, p_len, p_int, p_sum, p_all, p_tupL, p_tupT, p_lstL, p_lstT, p_isi, p_isN, p_notN, isin_ch, isin_tup, isin_list, isTy, q_addD1, q_addD2, q_addD3, q_addD4, q_ixD1, q_ixD2, q_ixD3, q_slD1, q_slD2, q_lenD1, q_lenD2, q_lenD3, q_ugo1, q_ugo2, q_sgo1, q_sgo2, q_agoF1, q_agoF2, q_ago1, q_ago2, q_ago3, aug_add, aug_sub, q_fgo1, q_fgo2, s_asg', s_unp', s_par', s_par3', s_setix', s_aug', s_ex', s_ite', s_for', s_while', s_ret', ss_nil', ss_cons', asg_one, asg_many, setMany, pk_d, fin_rt, fin_nx, fin_ex, nx_ok, pick_nil, pick_cons, startR, get_top, set_top, take_top, take_own, take_fd, take_fd2, stq_get, stq_set, stq_len, stq_app, stq_top, stq_take, stq_take2, eqOk_str, eqv_str, eqOk_int, eqv_int, eqOk_bool, eqv_bool, it_seq, it_r1, it_r2, it_el, it_et, it_zip, it_rev, q_seqD1, q_seqD2, q_seqD3, List.map_cons, List.map_nil, List.length_cons, List.length_nil, List.replicate_succ, List.replicate_zero, List.append_nil, List.nil_append, List.cons_append, List.getElem?_cons_zero, List.getElem?_cons_succ, List.getElem?_nil, List.set_cons_zero, List.set_cons_succ, Option.map_some, Option.map_none, if_true, if_false, ite_true, ite_false, reduceIte, Bool.not_true, Bool.not_false, Bool.false_eq_true, decide_true, decide_false, Bool.and_true, Bool.true_and, Bool.and_false, Bool.false_and, b26, e1]
    exact ⟨_, _, _, _, rfl, ⟨f1.a0, f1.b0, f1.b1, f1.c0, by have := f1.c1; omega⟩, .leaf x, rfl, g1, Nat.le_refl _⟩
  | d + 1, m, a, b, c, f, hm => by
    have p2 : 2 ^ (d + 1) = 2 * 2 ^ d := by rw [Nat.pow_succ]; omega
    rw [p2] at hm ⊢
    have pp : 0 < 2 ^ d := Nat.pow_pos (by decide)
    obtain ⟨_, a1, b1, c1, e1, f1, r, rfl, hr⟩ := c_draw (n + d + 4) 4 m a b c pre rest f (by omega) (by decide) (by decide)
    have e1 : callF FT (n + d + 5) 13 [.loc pre.length, .d (.int 4)] (stq pre (fdc a b c) rest) = _ := e1
    have d0 : decide (((d + 1 : Nat) : Int) < 1) = false := decide_eq_false (by omega)
    rw [show n + (d + 1) + 5 = n + d + 5 + 1 by omega, cf ft26]
    cases k : ((r : Int) == 0)
    · obtain ⟨_, a2, b2, c2, e2, f2, t, rfl, g2, h2⟩ := c_smallk n pre rest d (m + 1) a1 b1 c1 f1 (by omega)
      obtain ⟨_, a3, b3, c3, e3, f3, u, rfl, g3, h3⟩ := c_smallk n pre rest d (m + 1 + (17 * 2 ^ d - 1)) a2 b2 c2 f2 (by omega)
      simp only [lineOk4, lineOk5, lineOk6, lineOk7, lineOk8, lineOk9, lineOk10, lineOk11, lineOk12, lineOk13, lineOk14, lineOk15, lineOk16, lineOk17, lineOk18, lineOk19, lineOk20, lineOk21, lineOk22, lineOk23, lineOk24, lineOk25, lineOk26, lineOk27, lineOk28, lineOk29, lineOk30, lineOk31, lineOk32, lineOk33, lineOk34, lineOk35, lineOk36, lineOk37, lineOk38, lineOk39, lineOk40, nc0, nc1, nc2, nc3, nc4, lineOk0, lineOk1, lineOk2, lineOk3, Nat.reduceAdd, Nat.reduceSub, Int.reduceLT, Int.reduceLE, Int.reduceBEq, Int.reduceEq, Int.reduceAdd, Int.reduceSub, Int.reduceNeg, atI_0, atI_1, atI_2, atI_3, cut_1, cut_to1, eq_self, Option.bind_some, rb_ok, rb_exc, rb_bad, ro_ok, ro_exc, ro_bad, sq_nx, sq_rt, sq_bk, sq_ct, q_vgo1, q_vgo2, q_vgo3, q_pfin1, q_pfin2, q_pgo1, q_pgo2, q_cellD1, q_cellD2, q_cons21, q_cons22, q_cons23, q_tfin1, q_tfin2, q_tgo1, q_tgo2, q_isCell1, q_isCell2, q_appGo1, q_appGo2, q_extGo1, q_extGo2, q_popFin1, q_popFin2, q_popGo1, q_popGo2, q_newGo1, q_newGo2, q_setFin1, q_setFin2, q_setGo1, q_setGo2, q_chn1, q_chn2, q_compGo1, q_compGo2, q_ckGo1, q_ckGo2, e_var, e_glob, e_lit, e_pr, e_new, e_act0, e_act1, e_and, e_or, e_not, e_ite, e_chain, e_call, e_callk, e_comp, es_nil, es_cons, an_one, an_more, or_one, or_more, e_T, prim_eq, argsD, holds, deref_d, deref_loc, derefs_nil, derefs_cons, dsOf_nil, dsOf_cons, tru_eq, q_truD1, q_truD2, q_truD3, q_truD4, q_truD5, q_truD6, q_truD7, isLst_loc, do_app, do_ext, do_pop, new_eq, set_eq, p_tup, p_lst, p_add, p_sub, p_mul, p_fdiv, p_mod, p_pow, p_lt, p_le, p_gt, p_ge, p_max, p_min, p_eq, p_ne, p_in, p_nin, p_ix, p_slTo, p_slFrom, p_slB, p_neg, p_len, p_int, p_sum, p_all, p_tupL, p_tupT, p_lstL, p_lstT, p_isi, p_isN, p_notN, isin_ch, isin_tup, isin_list, isTy, q_addD1, q_addD2, q_addD3, q_addD4, q_ixD1, q_ixD2, q_ixD3, q_slD1, q_slD2, q_lenD1, q_lenD2, q_lenD3, q_ugo1, q_ugo2, q_sgo1, q_sgo2, q_agoF1, q_agoF2, q_ago1, q_ago2, q_ago3, aug_add, aug_sub, q_fgo1, q_fgo2, s_asg', s_unp', s_par', s_par3', s_setix', s_aug', s_ex', s_ite', s_for', s_while', s_ret', ss_nil', ss_cons', asg_one, asg_many, setMany, pk_d, fin_rt, fin_nx, fin_ex, nx_ok, pick_nil, pick_cons, startR, get_top, set_top, take_top, take_own, take_fd, take_fd2, stq_get, stq_set, stq_len, stq_app, stq_top, stq_take, stq_take2, eqOk_str, eqv_str, eqOk_int, eqv_int, eqOk_bool, eqv_bool, it_seq, it_r1, it_r2, it_el, it_et, it_zip, it_rev, q_seqD1, q_seqD2, q_seqD3, List.map_cons, List.map_nil, List.length_cons, List.length_nil, List.replicate_succ, List.replicate_zero, List.append_nil, List.nil_append, List.cons_append, List.getElem?_cons_zero, List.getElem?_cons_succ, List.getElem?_nil, List.set_cons_zero, List.set_cons_succ, Option.map_some, Option.map_none, if_true, if_false, ite_true, ite_false, reduceIte, Bool.not_true, Bool.not_false, Bool.false_eq_true, decide_true, decide_false, Bool.and_true, Bool.true_and, Bool.and_false, Bool.false_and, b26, d0, e1, k, sub1, e2, e3]
      exact ⟨_, _, _, _, rfl, ⟨f3.a0, f3.b0, f3.b1, f3.c0, by have := f3.c1; omega⟩, .bin t u, rfl, g2.bin g3, by show max t.tall u.tall + 1 ≤ _; omega⟩
    · obtain ⟨x, a2, b2, c2, e2, f2, g2⟩ := c_lleaf (n + d + 1) (m + 1) a1 b1 c1 pre rest f1 (by omega)
      have e2 : callF FT (n + d + 5) 25 [.loc pre.length] (stq pre (fdc a1 b1 c1) rest) = _ := e2
      simp only [lineOk4, lineOk5, lineOk6, lineOk7, lineOk8, lineOk9, lineOk10, lineOk11, lineOk12, lineOk13, lineOk14, lineOk15, lineOk16, lineOk17, lineOk18, lineOk19, lineOk20, lineOk21, lineOk22, lineOk23, lineOk24, lineOk25, lineOk26, lineOk27, lineOk28, lineOk29, lineOk30, lineOk31, lineOk32, lineOk33, lineOk34, lineOk35, lineOk36, lineOk37, lineOk38, lineOk39, lineOk40, nc0, nc1, nc2, nc3, nc4, lineOk0, lineOk1, lineOk2, lineOk3, Nat.reduceAdd, Nat.reduceSub, Int.reduceLT, Int.reduceLE, Int.reduceBEq, Int.reduceEq, Int.reduceAdd, Int.reduceSub, Int.reduceNeg, atI_0, atI_1, atI_2, atI_3, cut_1, cut_to1, eq_self, Option.bind_some, rb_ok, rb_exc, rb_bad, ro_ok, ro_exc, ro_bad, sq_nx, sq_rt, sq_bk, sq_ct, q_vgo1, q_vgo2, q_vgo3, q_pfin1, q_pfin2, q_pgo1, q_pgo2, q_cellD1, q_cellD2, q_cons21, q_cons22, q_cons23, q_tfin1, q_tfin2, q_tgo1, q_tgo2, q_isCell1, q_isCell2, q_appGo1, q_appGo2, q_extGo1, q_extGo2, q_popFin1, q_popFin2, q_popGo1, q_popGo2, q_newGo1, q_newGo2, q_setFin1, q_setFin2, q_setGo1, q_setGo2, q_chn1, q_chn2, q_compGo1, q_compGo2, q_ckGo1, q_ckGo2, e_var, e_glob, e_lit, e_pr, e_new, e_act0, e_act1, e_and, e_or, e_not, e_ite, e_chain, e_call, e_callk, e_comp, es_nil, es_cons, an_one, an_more, or_one, or_more, e_T, prim_eq, argsD, holds, deref_d, deref_loc, derefs_nil, derefs_cons, dsOf_nil, dsOf_cons, tru_eq, q_truD1, q_truD2, q_truD3, q_truD4, q_truD5, q_truD6, q_truD7, isLst_loc, do_app, do_ext, do_pop, new_eq, set_eq, p_tup, p_lst, p_add, p_sub, p_mul, p_fdiv, p_mod, p_pow, p_lt, p_le, p_gt, p_ge, p_max, p_min, p_eq, p_ne, p_in, p_nin, p_ix, p_slTo, p_slFrom, p_slB, p_neg, p_len, p_int, p_sum, p_all, p_tupL, p_tupT, p_lstL, p_lstT, p_isi, p_isN, p_notN, isin_ch, isin_tup, isin_list, isTy, q_addD1, q_addD2, q_addD3, q_addD4, q_ixD1, q_ixD2, q_ixD3, q_slD1, q_slD2, q_lenD1, q_lenD2, q_lenD3, q_ugo1, q_ugo2, q_sgo1, q_sgo2, q_agoF1, q_agoF2, q_ago1, q_ago2, q_ago3, aug_add, aug_sub, q_fgo1, q_fgo2, s_asg', s_unp', s_par', s_par3', s_setix', s_aug', s_ex', s_ite', s_for', s_while', s_ret', ss_nil', ss_cons', asg_one, asg_many, setMany, pk_d, fin_rt, fin_nx, fin_ex, nx_ok, pick_nil, pick_cons, startR, get_top, set_top, take_top, take_own, take_fd, take_fd2, stq_get, stq_set, stq_len, stq_app, stq_top, stq_take, stq_take2, eqOk_str, eqv_str, eqOk_int, eqv_int, eqOk_bool, eqv_bool, it_seq, it_r1, it_r2, it_el, it_et, it_zip, it_rev, q_seqD1, q_seqD2, q_seqD3, List.map_cons, List.map_nil, List.length_cons, List.length_nil, List.replicate_succ, List.replicate_zero, List.append_nil, List.nil_append, List.cons_append, List.getElem?_cons_zero, List.getElem?_cons_succ, List.getElem?_nil, List.set_cons_zero, List.set_cons_succ, Option.map_some, Option.map_none, if_true, if_false, ite_true, ite_false, reduceIte, Bool.not_true, Bool.not_false, Bool.false_eq_true, decide_true, decide_false, Bool.and_true, Bool.true_and, Bool.and_false, Bool.false_and, b26, d0, e1, k, e2]
      exact ⟨_, _, _, _, rfl, ⟨f2.a0, f2.b0, f2.b1, f2.c0, by have := f2.c1; omega⟩, .leaf x, rfl, g2, by show 1 ≤ _; omega⟩
theorem c_flatk (n : Nat) (x0 : PyData) (h : GLK x0) : ∀ (k many : Nat) (st : Sto), 1 ≤ many → many ≤ 2 ^ k →
    ∃ t, callF FT (n + k + 1) 27 [.d x0, .d (.int many)] st = .ok (.d (encK t)) st ∧ GoodK t ∧ t.size + 1 = 2 * many ∧ t.tall ≤ k + 1
  | 0, many, st, h1, h2 => by
    have e : many = 1 := by omega
    subst e
    rw [show n + 0 + 1 = n + 1 from rfl, cf ft27]
    simp only [nc1]
    simp only [lineOk4, lineOk5, lineOk6, lineOk7, lineOk8, lineOk9, lineOk10, lineOk11, lineOk12, lineOk13, lineOk14, lineOk15, lineOk16, lineOk17, lineOk18, lineOk19, lineOk20, lineOk21, lineOk22, lineOk23, lineOk24, lineOk25, lineOk26, lineOk27, lineOk28, lineOk29, lineOk30, lineOk31, lineOk32, lineOk33, lineOk34, lineOk35, lineOk36, lineOk37, lineOk38, lineOk39, lineOk40, nc0, nc1, nc2, nc3, nc4, lineOk0, lineOk1, lineOk2, lineOk3, Nat.reduceAdd, Nat.reduceSub, Int.reduceLT, Int.reduceLE, Int.reduceBEq, Int.reduceEq, Int.reduceAdd, Int.reduceSub, Int.reduceNeg, atI_0, atI_1, atI_2, atI_3, cut_1, cut_to1, eq_self, Option.bind_some, rb_ok, rb_exc, rb_bad, ro_ok, ro_exc, ro_bad, sq_nx, sq_rt, sq_bk, sq_ct, q_vgo1, q_vgo2, q_vgo3, q_pfin1, q_pfin2, q_pgo1, q_pgo2, q_cellD1, q_cellD2, q_cons21, q_cons22, q_cons23, q_tfin1, q_tfin2, q_tgo1, q_tgo2, q_isCell1, q_isCell2, q_appGo1, q_appGo2, q_extGo1, q_extGo2, q_popFin1, q_popFin2, q_popGo1, q_popGo2, q_newGo1, q_newGo2, q_setFin1, q_setFin2, q_setGo1, q_setGo2, q_chn1, q_chn2, q_compGo1, q_compGo2, q_ckGo1, q_ckGo2, e_var, e_glob, e_lit, e_pr, e_new, e_act0, e_act1, e_and, e_or, e_not, e_ite, e_chain, e_call, e_callk, e_comp, es_nil, es_cons, an_one, an_more, or_one, or_more, e_T, prim_eq, argsD, holds, deref_d, deref_loc, derefs_nil, derefs_cons, dsOf_nil, dsOf_cons, tru_eq, q_truD1, q_truD2, q_truD3, q_truD4, q_truD5, q_truD6, q_truD7, isLst_loc, do_app, do_ext, do_pop, new_eq, set_eq, p_tup, p_lst, p_add, p_sub, p_mul, p_fdiv, p_mod, p_pow, p_lt, p_le, p_gt, p_ge, p_max, p_min, p_eq, p_ne, p_in, p_nin, p_ix, p_slTo, p_slFrom, p_slB, p_neg, p_len, p_int, p_sum, p_all, p_tupL, p_tupT, p_lstL, p_lstT, p_isi, p_isN, p_notN, isin_ch, isin_tup, isin_list, isTy, q_addD1, q_addD2, q_addD3, q_addD4, q_ixD1, q_ixD2, q_ixD3, q_slD1, q_slD2, q_lenD1, q_lenD2, q_lenD3, q_ugo1, q_ugo2, q_sgo1, q_sgo2, q_agoF1, q_agoF2, q_ago1, q_ago2, q_ago3, aug_add, aug_sub, q_fgo1, q_fgo2, s_asg', s_unp', s_par', s_par3', s_setix', s_aug', s_ex', s_ite', s_for', s_while', s_ret', ss_nil', ss_cons', asg_one, asg_many, setMany, pk_d, fin_rt, fin_nx, fin_ex, nx_ok, pick_nil, pick_cons, startR, get_top, set_top, take_top, take_own, take_fd, take_fd2, stq_get, stq_set, stq_len, stq_app, stq_top, stq_take, stq_take2, eqOk_str, eqv_str, eqOk_int, eqv_int, eqOk_bool, eqv_bool, it_seq, it_r1, it_r2, it_el, it_et, it_zip, it_rev, q_seqD1, q_seqD2, q_seqD3, List.map_cons, List.map_nil, List.length_cons, List.length_nil, List.replicate_succ, List.replicate_zero, List.append_nil, List.nil_append, List.cons_append, List.getElem?_cons_zero, List.getElem?_cons_succ, List.getElem?_nil, List.set_cons_zero, List.set_cons_succ, Option.map_some, Option.map_none, if_true, if_false, ite_true, ite_false, reduceIte, Bool.not_true, Bool.not_false, Bool.false_eq_true, decide_true, decide_false, Bool.and_true, Bool.true_and, Bool.and_false, Bool.false_and, b27]
    exact ⟨.leaf x0, rfl, h, rfl, Nat.le_refl _⟩
  | k + 1, many, st, h1, h2 => by
    have p2 : 2 ^ (k + 1) = 2 * 2 ^ k := by rw [Nat.pow_succ]; omega
    rw [p2] at h2
    rw [show n + (k + 1) + 1 = n + k + 1 + 1 by omega, cf ft27]
    by_cases c1 : many = 1
    · subst c1
      simp only [nc1]
      simp only [lineOk4, lineOk5, lineOk6, lineOk7, lineOk8, lineOk9, lineOk10, lineOk11, lineOk12, lineOk13, lineOk14, lineOk15, lineOk16, lineOk17, lineOk18, lineOk19, lineOk20, lineOk21, lineOk22, lineOk23, lineOk24, lineOk25, lineOk26, lineOk27, lineOk28, lineOk29, lineOk30, lineOk31, lineOk32, lineOk33, lineOk34, lineOk35, lineOk36, lineOk37, lineOk38, lineOk39, lineOk40, nc0, nc1, nc2, nc3, nc4, lineOk0, lineOk1, lineOk2, lineOk3, Nat.reduceAdd, Nat.reduceSub, Int.reduceLT, Int.reduceLE, Int.reduceBEq, Int.reduceEq, Int.reduceAdd, Int.reduceSub, Int.reduceNeg, atI_0, atI_1, atI_2, atI_3, cut_1, cut_to1, eq_self, Option.bind_some, rb_ok, rb_exc, rb_bad, ro_ok, ro_exc, ro_bad, sq_nx, sq_rt, sq_bk, sq_ct, q_vgo1, q_vgo2, q_vgo3, q_pfin1, q_pfin2, q_pgo1, q_pgo2, q_cellD1, q_cellD2, q_cons21, q_cons22, q_cons23, q_tfin1, q_tfin2, q_tgo1, q_tgo2, q_isCell1, q_isCell2, q_appGo1, q_appGo2, q_extGo1, q_extGo2, q_popFin1, q_popFin2, q_popGo1, q_popGo2, q_newGo1, q_newGo2, q_setFin1, q_setFin2, q_setGo1, q_setGo2, q_chn1, q_chn2, q_compGo1, q_compGo2, q_ckGo1, q_ckGo2, e_var, e_glob, e_lit, e_pr, e_new, e_act0, e_act1, e_and, e_or, e_not, e_ite, e_chain, e_call, e_callk, e_comp, es_nil, es_cons, an_one, an_more, or_one, or_more, e_T, prim_eq, argsD, holds, deref_d, deref_loc, derefs_nil, derefs_cons, dsOf_nil, dsOf_cons, tru_eq, q_truD1, q_truD2, q_truD3, q_truD4, q_truD5, q_truD6, q_truD7, isLst_loc, do_app, do_ext, do_pop, new_eq, set_eq, p_tup, p_lst, p_add, p_sub, p_mul, p_fdiv, p_mod, p_pow, p_lt, p_le, p_gt, p_ge, p_max, p_min, p_eq, p_ne, p_in, p_nin, p_ix, p_slTo, p_slFrom, p_slB, p_neg, p_len, p_int, p_sum, p_all, p_tupL, p_tupT, p_lstL, p_lstT, p_isi, p_isN, p_notN, isin_ch, isin_tup, isin_list, isTy, q_addD1, q_addD2, q_addD3, q_addD4, q_ixD1, q_ixD2, q_ixD3, q_slD1, q_slD2, q_lenD1, q_lenD2, q_lenD3, q_ugo1, q_ugo2, q_sgo1, q_sgo2, q_agoF1, q_agoF2, q_ago1, q_ago2, q_ago3, aug_add, aug_sub, q_fgo1, q_fgo2, s_asg', s_unp', s_par', s_par3', s_setix', s_aug', s_ex', s_ite', s_for', s_while', s_ret', ss_nil', ss_cons', asg_one, asg_many, setMany, pk_d, fin_rt, fin_nx, fin_ex, nx_ok, pick_nil, pick_cons, startR, get_top, set_top, take_top, take_own, take_fd, take_fd2, stq_get, stq_set, stq_len, stq_app, stq_top, stq_take, stq_take2, eqOk_str, eqv_str, eqOk_int, eqv_int, eqOk_bool, eqv_bool, it_seq, it_r1, it_r2, it_el, it_et, it_zip, it_rev, q_seqD1, q_seqD2, q_seqD3, List.map_cons, List.map_nil, List.length_cons, List.length_nil, List.replicate_succ, List.replicate_zero, List.append_nil, List.nil_append, List.cons_append, List.getElem?_cons_zero, List.getElem?_cons_succ, List.getElem?_nil, List.set_cons_zero, List.set_cons_succ, Option.map_some, Option.map_none, if_true, if_false, ite_true, ite_false, reduceIte, Bool.not_true, Bool.not_false, Bool.false_eq_true, decide_true, decide_false, Bool.and_true, Bool.true_and, Bool.and_false, Bool.false_and, b27]
      exact ⟨.leaf x0, rfl, h, rfl, by show 1 ≤ _; omega⟩
    · have d3 : ((many : Int) == 1) = false := beq_eq_false_iff_ne.mpr (by omega)
      have dv : divOk 2 = true := divOk_s (by decide) (by decide)
      have q1 : (many : Int) / 2 = ((many / 2 : Nat) : Int) := by omega
      have q2 : (many : Int) - ((many / 2 : Nat) : Int) = ((many - many / 2 : Nat) : Int) := by omega
      obtain ⟨t, e1, g1, s1, l1⟩ := c_flatk n x0 h k (many / 2) st (by omega) (by omega)
      obtain ⟨u, e2, g2, s2, l2⟩ := c_flatk n x0 h k (many - many / 2) st (by omega) (by omega)
      simp only [lineOk4, lineOk5, lineOk6, lineOk7, lineOk8, lineOk9, lineOk10, lineOk11, lineOk12, lineOk13, lineOk14, lineOk15, lineOk16, lineOk17, lineOk18, lineOk19, lineOk20, lineOk21, lineOk22, lineOk23, lineOk24, lineOk25, lineOk26, lineOk27, lineOk28, lineOk29, lineOk30, lineOk31, lineOk32, lineOk33, lineOk34, lineOk35, lineOk36, lineOk37, lineOk38, lineOk39, lineOk40, nc0, nc1, nc2, nc3, nc4, lineOk0, lineOk1, lineOk2, lineOk3, Nat.reduceAdd, Nat.reduceSub, Int.reduceLT, Int.reduceLE, Int.reduceBEq, Int.reduceEq, Int.reduceAdd, Int.reduceSub, Int.reduceNeg, atI_0, atI_1, atI_2, atI_3, cut_1, cut_to1, eq_self, Option.bind_some, rb_ok, rb_exc, rb_bad, ro_ok, ro_exc, ro_bad, sq_nx, sq_rt, sq_bk, sq_ct, q_vgo1, q_vgo2, q_vgo3, q_pfin1, q_pfin2, q_pgo1, q_pgo2, q_cellD1, q_cellD2, q_cons21, q_cons22, q_cons23, q_tfin1, q_tfin2, q_tgo1, q_tgo2, q_isCell1, q_isCell2, q_appGo1, q_appGo2, q_extGo1, q_extGo2, q_popFin1, q_popFin2, q_popGo1, q_popGo2, q_newGo1, q_newGo2, q_setFin1, q_setFin2, q_setGo1, q_setGo2, q_chn1, q_chn2, q_compGo1, q_compGo2, q_ckGo1, q_ckGo2, e_var, e_glob, e_lit, e_pr, e_new, e_act0, e_act1, e_and, e_or, e_not, e_ite, e_chain, e_call, e_callk, e_comp, es_nil, es_cons, an_one, an_more, or_one, or_more, e_T, prim_eq, argsD, holds, deref_d, deref_loc, derefs_nil, derefs_cons, dsOf_nil, dsOf_cons, tru_eq, q_truD1, q_truD2, q_truD3, q_truD4, q_truD5, q_truD6, q_truD7, isLst_loc, do_app, do_ext, do_pop, new_eq, set_eq, p_tup, p_lst, p_add, p_sub, p_mul, p_fdiv, p_mod, p_pow, p_lt, p_le, p_gt, p_ge, p_max, p_min, p_eq, p_ne, p_in, p_nin, p_ix, p_slTo, p_slFrom, p_slB, p_neg, p_len, p_int, p_sum, p_all, p_tupL, p_tupT, p_lstL, p_lstT, p_isi, p_isN, p_notN, isin_ch, isin_tup, isin_list, isTy, q_addD1, q_addD2, q_addD3, q_addD4, q_ixD1, q_ixD2, q_ixD3, q_slD1, q_slD2, q_lenD1, q_lenD2, q_lenD3, q_ugo1, q_ugo2, q_sgo1, q_sgo2, q_agoF1, q_agoF2, q_ago1, q_ago2, q_ago3, aug_add, aug_sub, q_fgo1, q_fgo2, s_asg', s_unp', s_par', s_par3', s_setix', s_aug', s_ex', s_ite', s_for', s_while', s_ret', ss_nil', ss_cons', asg_one, asg_many, setMany, pk_d, fin_rt, fin_nx, fin_ex, nx_ok, pick_nil, pick_cons, startR, get_top, set_top, take_top, take_own, take_fd, take_fd2, stq_get, stq_set, stq_len, stq_app, stq_top, stq_take, stq_take2, eqOk_str, eqv_str, eqOk_int, eqv_int, eqOk_bool, eqv_bool, it_seq, it_r1, it_r2, it_el, it_et, it_zip, it_rev, q_seqD1, q_seqD2, q_seqD3, List.map_cons, List.map_nil, List.length_cons, List.length_nil, List.replicate_succ, List.replicate_zero, List.append_nil, List.nil_append, List.cons_append, List.getElem?_cons_zero, List.getElem?_cons_succ, List.getElem?_nil, List.set_cons_zero, List.set_cons_succ, Option.map_some, Option.map_none, if_true, if_false, ite_true, ite_false, reduceIte, Bool.not_true, Bool.not_false, Bool.false_eq_true, decide_true, decide_false, Bool.and_true, Bool.true_and, Bool.and_false, Bool.false_and, b27, d3, dv, q1, q2, e1, e2]
      exact ⟨.bin t u, rfl, g1.bin g2, by show t.size + u.size + 1 + 1 = 2 * many; omega, by show max t.tall u.tall + 1 ≤ _; omega⟩
def tbodyk : Ss := (.cons (.asg 3 (.call 14 (.cons (.var 0) (.cons (.pr .lst (.cons (.pr .tup (.cons (.lit (.str "arrow")) (.cons (.var 3) (.cons (.var 1) .nil)))) (.cons (.pr .tup (.cons (.lit (.str "arrow")) (.cons (.var 1) (.cons (.var 3) .nil)))) .nil))) .nil))))
    .nil)
theorem thin_loopk (n : Nat) (pre rest : Sto) (x0 : PyData) (h : GLK x0) (dp : W) : ∀ (xs : List PyData) (m : Nat) (a b c : Int) (t : Tr) (o : Option W), FdOk m a b c → m + xs.length ≤ 1000000 → GoodK t →
    ∃ t' a' b' c' o', forL (forF (callF FT (n + 2)) (.one 4) tbodyk) xs [some (.loc pre.length), some (.d x0), some dp, some (.d (encK t)), o] (stq pre (fdc a b c) rest) =
      .nx [some (.loc pre.length), some (.d x0), some dp, some (.d (encK t')), o'] (stq pre (fdc a' b' c') rest) ∧ FdOk (m + xs.length) a' b' c' ∧ GoodK t' ∧ t'.tall = t.tall + xs.length ∧ t'.size ≤ t.size + 2 * xs.length
  | [], m, a, b, c, t, o, f, _, g => ⟨t, a, b, c, o, rfl, f, g, rfl, Nat.le_refl _⟩
  | x :: xs, m, a, b, c, t, o, f, hm, g => by
    rw [List.length_cons] at hm
    obtain ⟨y, a1, b1, c1, e1, f1, hy⟩ := c_one n m a b c pre rest [.tuple [.str (Str.ofString "arrow"), encK t, x0], .tuple [.str (Str.ofString "arrow"), x0, encK t]] f (by omega) (by simp) (by simp)
    have hy : ∃ u, y = encK u ∧ GoodK u ∧ u.tall = t.tall + 1 ∧ u.size ≤ t.size + 2 := by
      have tp := t.tall_pos
      simp only [List.mem_cons, List.not_mem_nil, or_false] at hy
      rcases hy with rfl | rfl
      · exact ⟨.bin t (.leaf x0), rfl, g.bin h, by show max t.tall 1 + 1 = _; omega, by show t.size + 1 + 1 ≤ _; omega⟩
      · exact ⟨.bin (.leaf x0) t, rfl, GoodK.bin h g, by show max 1 t.tall + 1 = _; omega, by show 1 + t.size + 1 ≤ _; omega⟩
    obtain ⟨u, rfl, gu, hu, su⟩ := hy
    obtain ⟨t', a', b', c', o', e2, f2, g2, h2, s2⟩ := thin_loopk n pre rest x0 h dp xs (m + 1) a1 b1 c1 u (some (.d x)) f1 (by omega) gu
    refine ⟨t', a', b', c', o', ?_, by rw [List.length_cons, show m + (xs.length + 1) = m + 1 + xs.length by omega]; exact f2, g2, by rw [List.length_cons]; omega, by rw [List.length_cons]; omega⟩
    rw [forL_cons, forF_one]
    simp only [lineOk4, lineOk5, lineOk6, lineOk7, lineOk8, lineOk9, lineOk10, lineOk11, lineOk12, lineOk13, lineOk14, lineOk15, lineOk16, lineOk17, lineOk18, lineOk19, lineOk20, lineOk21, lineOk22, lineOk23, lineOk24, lineOk25, lineOk26, lineOk27, lineOk28, lineOk29, lineOk30, lineOk31, lineOk32, lineOk33, lineOk34, lineOk35, lineOk36, lineOk37, lineOk38, lineOk39, lineOk40, nc0, nc1, nc2, nc3, nc4, lineOk0, lineOk1, lineOk2, lineOk3, Nat.reduceAdd, Nat.reduceSub, Int.reduceLT, Int.reduceLE, Int.reduceBEq, Int.reduceEq, Int.reduceAdd, Int.reduceSub, Int.reduceNeg, atI_0, atI_1, atI_2, atI_3, cut_1, cut_to1, eq_self, Option.bind_some, rb_ok, rb_exc, rb_bad, ro_ok, ro_exc, ro_bad, sq_nx, sq_rt, sq_bk, sq_ct, q_vgo1, q_vgo2, q_vgo3, q_pfin1, q_pfin2, q_pgo1, q_pgo2, q_cellD1, q_cellD2, q_cons21, q_cons22, q_cons23, q_tfin1, q_tfin2, q_tgo1, q_tgo2, q_isCell1, q_isCell2, q_appGo1, q_appGo2, q_extGo1, q_extGo2, q_popFin1, q_popFin2, q_popGo1, q_popGo2, q_newGo1, q_newGo2, q_setFin1, q_setFin2, q_setGo1, q_setGo2, q_chn1, q_chn2, q_compGo1, q_compGo2, q_ckGo1, q_ckGo2, e_var, e_glob, e_lit, e_pr, e_new, e_act0, e_act1, e_and, e_or, e_not, e_ite, e_chain, e_call, e_callk, e_comp, es_nil, es_cons, an_one, an_more, or_one, or_more, e_T, prim_eq, argsD, holds, deref_d, deref_loc, derefs_nil, derefs_cons, dsOf_nil, dsOf_cons, tru_eq, q_truD1, q_truD2, q_truD3, q_truD4, q_truD5, q_truD6, q_truD7, isLst_loc, do_app, do_ext, do_pop, new_eq, set_eq, p_tup, p_lst, p_add, p_sub, p_mul, p_fdiv, p_mod, p_pow, p_lt, p_le, p_gt, p_ge, p_max, p_min, p_eq, p_ne, p_in, p_nin, p_ix, p_slTo, p_slFrom, p_slB, p_neg, p_len, p_int, p_sum, p_all, p_tupL, p_tupT, p_lstL, p_lstT, p_isi, p_isN, p_notN, isin_ch, isin_tup, isin_list, isTy, q_addD1, q_addD2, q_addD3, q_addD4, q_ixD1, q_ixD2, q_ixD3, q_slD1, q_slD2, q_lenD1, q_lenD2, q_lenD3, q_ugo1, q_ugo2, q_sgo1, q_sgo2, q_agoF1, q_agoF2, q_ago1, q_ago2, q_ago3, aug_add, aug_sub, q_fgo1, q_fgo2, s_asg', s_unp', s_par', s_par3', s_setix', s_aug', s_ex', s_ite', s_for', s_while', s_ret', ss_nil', ss_cons', asg_one, asg_many, setMany, pk_d, fin_rt, fin_nx, fin_ex, nx_ok, pick_nil, pick_cons, startR, get_top, set_top, take_top, take_own, take_fd, take_fd2, stq_get, stq_set, stq_len, stq_app, stq_top, stq_take, stq_take2, eqOk_str, eqv_str, eqOk_int, eqv_int, eqOk_bool, eqv_bool, it_seq, it_r1, it_r2, it_el, it_et, it_zip, it_rev, q_seqD1, q_seqD2, q_seqD3, List.map_cons, List.map_nil, List.length_cons, List.length_nil, List.replicate_succ, List.replicate_zero, List.append_nil, List.nil_append, List.cons_append, List.getElem?_cons_zero, List.getElem?_cons_succ, List.getElem?_nil, List.set_cons_zero, List.set_cons_succ, Option.map_some, Option.map_none, if_true, if_false, ite_true, ite_false, reduceIte, Bool.not_true, Bool.not_false, Bool.false_eq_true, decide_true, decide_false, Bool.and_true, Bool.true_and, Bool.and_false, Bool.false_and, tbodyk, e1, q_fstep1]
    exact e2
theorem c_think (n m d : Nat) (a b c : Int) (pre rest : Sto) (x0 : PyData) (h : GLK x0) (f : FdOk m a b c) (hm : m + d ≤ 1000000) (h1 : 1 ≤ d) (h2 : d ≤ 1000) :
    Draws (callF FT (n + 3) 28 [.loc pre.length, .d x0, .d (.int d)] (stq pre (fdc a b c) rest)) (m + d) pre rest fun x => ∃ t, x = encK t ∧ GoodK t ∧ t.tall = d ∧ t.size ≤ 2 * d := by
  have q : (d : Int) - 1 = ((d - 1 : Nat) : Int) := by omega
  have rg : rngOk ((d - 1 : Nat) : Int) = true := by
    unfold rngOk
    rw [decide_eq_true (by omega), decide_eq_true (by omega)]
    rfl
  have hl := range_len 0 (d - 1)
  obtain ⟨t', a', b', c', o', e2, f2, g2, h2, s2⟩ := thin_loopk n pre rest x0 h (.d (.int d)) (rangeD 0 (d - 1)) m a b c (.leaf x0) none f (by omega) h
  rw [hl] at f2 h2 s2
  unfold tbodyk at e2
  have e2 : _ = Out.nx _ _ := e2
  rw [encK] at e2
  rw [cf ft28]
  simp only [lineOk4, lineOk5, lineOk6, lineOk7, lineOk8, lineOk9, lineOk10, lineOk11, lineOk12, lineOk13, lineOk14, lineOk15, lineOk16, lineOk17, lineOk18, lineOk19, lineOk20, lineOk21, lineOk22, lineOk23, lineOk24, lineOk25, lineOk26, lineOk27, lineOk28, lineOk29, lineOk30, lineOk31, lineOk32, lineOk33, lineOk34, lineOk35, lineOk36, lineOk37, lineOk38, lineOk39, lineOk40, nc0, nc1, nc2, nc3, nc4, lineOk0, lineOk1, lineOk2, lineOk3, Nat.reduceAdd, Nat.reduceSub, Int.reduceLT, Int.reduceLE, Int.reduceBEq, Int.reduceEq, Int.reduceAdd, Int.reduceSub, Int.reduceNeg, atI_0, atI_1, atI_2, atI_3, cut_1, cut_to1, eq_self, Option.bind_some, rb_ok, rb_exc, rb_bad, ro_ok, ro_exc, ro_bad, sq_nx, sq_rt, sq_bk, sq_ct, q_vgo1, q_vgo2, q_vgo3, q_pfin1, q_pfin2, q_pgo1, q_pgo2, q_cellD1, q_cellD2, q_cons21, q_cons22, q_cons23, q_tfin1, q_tfin2, q_tgo1, q_tgo2, q_isCell1, q_isCell2, q_appGo1, q_appGo2, q_extGo1, q_extGo2, q_popFin1, q_popFin2, q_popGo1, q_popGo2, q_newGo1, q_newGo2, q_setFin1, q_setFin2, q_setGo1, q_setGo2, q_chn1, q_chn2, q_compGo1, q_compGo2, q_ckGo1, q_ckGo2, e_var, e_glob, e_lit, e_pr, e_new, e_act0, e_act1, e_and, e_or, e_not, e_ite, e_chain, e_call, e_callk, e_comp, es_nil, es_cons, an_one, an_more, or_one, or_more, e_T, prim_eq, argsD, holds, deref_d, deref_loc, derefs_nil, derefs_cons, dsOf_nil, dsOf_cons, tru_eq, q_truD1, q_truD2, q_truD3, q_truD4, q_truD5, q_truD6, q_truD7, isLst_loc, do_app, do_ext, do_pop, new_eq, set_eq, p_tup, p_lst, p_add, p_sub, p_mul, p_fdiv, p_mod, p_pow, p_lt, p_le, p_gt, p_ge, p_max, p_min, p_eq, p_ne, p_in, p_nin, p_ix, p_slTo, p_slFrom, p_slB, p_neg, p_len, p_int, p_sum, p_all, p_tupL, p_tupT, p_lstL, p_lstT, p_isi, p_isN, p_notN, isin_ch, isin_tup, isin_list, isTy, q_addD1, q_addD2, q_addD3, q_addD4, q_ixD1, q_ixD2, q_ixD3, q_slD1, q_slD2, q_lenD1, q_lenD2, q_lenD3, q_ugo1, q_ugo2, q_sgo1, q_sgo2, q_agoF1, q_agoF2, q_ago1, q_ago2, q_ago3, aug_add, aug_sub, q_fgo1, q_fgo2, s_asg', s_unp', s_par', s_par3', s_setix', s_aug', s_ex', s_ite', s_for', s_while', s_ret', ss_nil', ss_cons', asg_one, asg_many, setMany, pk_d, fin_rt, fin_nx, fin_ex, nx_ok, pick_nil, pick_cons, startR, get_top, set_top, take_top, take_own, take_fd, take_fd2, stq_get, stq_set, stq_len, stq_app, stq_top, stq_take, stq_take2, eqOk_str, eqv_str, eqOk_int, eqv_int, eqOk_bool, eqv_bool, it_seq, it_r1, it_r2, it_el, it_et, it_zip, it_rev, q_seqD1, q_seqD2, q_seqD3, List.map_cons, List.map_nil, List.length_cons, List.length_nil, List.replicate_succ, List.replicate_zero, List.append_nil, List.nil_append, List.cons_append, List.getElem?_cons_zero, List.getElem?_cons_succ, List.getElem?_nil, List.set_cons_zero, List.set_cons_succ, Option.map_some, Option.map_none, if_true, if_false, ite_true, ite_false, reduceIte, Bool.not_true, Bool.not_false, Bool.false_eq_true, decide_true, decide_false, Bool.and_true, Bool.true_and, Bool.and_false, Bool.false_and, b28, q, rg, Int.toNat_natCast, e2]
  exact ⟨_, _, _, _, rfl, ⟨f2.a0, f2.b0, f2.b1, f2.c0, by have := f2.c1; omega⟩, t', rfl, g2, by rw [h2]; show 1 + (d - 1) = d; omega, by have : (Tr.leaf x0).size = 1 := rfl; omega⟩
def badK (x0 : PyData) : List PyData := [.none, .int 0, .bool true, .str (Str.ofString "any"), .str (Str.ofString ""), .tuple [], .list [], .tuple [.str (Str.ofString "any")], .tuple [.str (Str.ofString "arrow")], .tuple [.str (Str.ofString "arrow"), x0], .tuple [.str (Str.ofString "arrow"), x0, x0, x0], .tuple [x0], .tuple [.str (Str.ofString "any"), .int (-1)], .tuple [.str (Str.ofString "any"), .int 1000], .tuple [.str (Str.ofString "any"), .bool false], .tuple [.str (Str.ofString "any"), .str (Str.ofString "0")], .tuple [.str (Str.ofString "any"), .int 0, .int 0], .list [.str (Str.ofString "any"), .int 0], .tuple [.str (Str.ofString "any"), .none], .tuple [.str (Str.ofString "any"), .tuple [.int 0]], .tuple [.str (Str.ofString "base"), .str (Str.ofString "")], .tuple [.str (Str.ofString "base"), .str (Str.ofString "A")], .tuple [.str (Str.ofString "base"), .str (Str.ofString "0a")], .tuple [.str (Str.ofString "base"), .str (Str.ofString "abcdefghijklm")], .tuple [.str (Str.ofString "base"), .str (Str.ofString "a-")], .tuple [.str (Str.ofString "base"), .int 3], .list [.str (Str.ofString "base"), .str (Str.ofString "a")], .tuple [.str (Str.ofString "base")], .tuple [.str (Str.ofString "base"), .str (Str.ofString "a"), .str (Str.ofString "a")], .tuple [.str (Str.ofString "var"), .int 0], .tuple [.str (Str.ofString "Any"), .int 0], .list [.str (Str.ofString "arrow"), x0, x0], .tuple [.str (Str.ofString "base"), .tuple [.str (Str.ofString "a")]]]
theorem badK_ok {x0 : PyData} (h : GLK x0) : ∀ x ∈ badK x0, leafK x = true ∧ looseNode x = false := by
  obtain ⟨h1, h2⟩ := (⟨(leafK_all h.1).1, (leafK_all h.1).2.1⟩ : PyData.canLay0 x0 = true ∧ strFit x0 = true)
  intro x hx
  simp only [badK, List.mem_cons, List.not_mem_nil, or_false] at hx
  rcases hx with rfl | rfl | rfl | rfl | rfl | rfl | rfl | rfl | rfl | rfl | rfl | rfl | rfl | rfl | rfl | rfl | rfl | rfl | rfl | rfl | rfl | rfl | rfl | rfl | rfl | rfl | rfl | rfl | rfl | rfl | rfl | rfl | rfl
  · exact ⟨by decide +kernel, by decide +kernel⟩
  · exact ⟨by decide +kernel, by decide +kernel⟩
  · exact ⟨by decide +kernel, by decide +kernel⟩
  · exact ⟨by decide +kernel, by decide +kernel⟩
  · exact ⟨by decide +kernel, by decide +kernel⟩
  · exact ⟨by decide +kernel, by decide +kernel⟩
  · exact ⟨by decide +kernel, by decide +kernel⟩
  · exact ⟨by decide +kernel, by decide +kernel⟩
  · exact ⟨by decide +kernel, by decide +kernel⟩
  · have r : looseNode (.tuple [.str (Str.ofString "arrow"), x0]) = false := by kernel_rfl
    refine ⟨?_, r⟩
    unfold leafK
    rw [r]
    simp only [PyData.canLay0, PyData.canLayAll0, sf_t, sf_l, nf_2, nf_l, hf_1, hf_l, h1, h2, so_lam, so_app, so_Lam, so_fun, so_a, so_arrow, so_Any, so_base, Bool.not_false, Bool.true_or, Bool.and_true, Bool.true_and]
  · have r : looseNode (.tuple [.str (Str.ofString "arrow"), x0, x0, x0]) = false := by kernel_rfl
    refine ⟨?_, r⟩
    unfold leafK
    rw [r]
    simp only [PyData.canLay0, PyData.canLayAll0, sf_t, sf_l, nf_2, nf_l, hf_1, hf_l, h1, h2, so_lam, so_app, so_Lam, so_fun, so_a, so_arrow, so_Any, so_base, Bool.not_false, Bool.true_or, Bool.and_true, Bool.true_and]
  · cases x0 <;> refine ⟨?_, rfl⟩ <;> (unfold leafK; simp only [strFit, nodeFit, looseNode, kindNode, headFit]; simp [PyData.canLay0, PyData.canLayAll0, strFit, nodeFit, looseNode, kindNode, headFit] at h1 ⊢ <;> first | exact h1 | rfl)
  · exact ⟨by decide +kernel, by decide +kernel⟩
  · exact ⟨by decide +kernel, by decide +kernel⟩
  · exact ⟨by decide +kernel, by decide +kernel⟩
  · exact ⟨by decide +kernel, by decide +kernel⟩
  · exact ⟨by decide +kernel, by decide +kernel⟩
  · exact ⟨by decide +kernel, by decide +kernel⟩
  · exact ⟨by decide +kernel, by decide +kernel⟩
  · exact ⟨by decide +kernel, by decide +kernel⟩
  · exact ⟨by decide +kernel, by decide +kernel⟩
  · exact ⟨by decide +kernel, by decide +kernel⟩
  · exact ⟨by decide +kernel, by decide +kernel⟩
  · exact ⟨by decide +kernel, by decide +kernel⟩
  · exact ⟨by decide +kernel, by decide +kernel⟩
  · exact ⟨by decide +kernel, by decide +kernel⟩
  · exact ⟨by decide +kernel, by decide +kernel⟩
  · exact ⟨by decide +kernel, by decide +kernel⟩
  · exact ⟨by decide +kernel, by decide +kernel⟩
  · exact ⟨by decide +kernel, by decide +kernel⟩
  · exact ⟨by decide +kernel, by decide +kernel⟩
  · have r : looseNode (.list [.str (Str.ofString "arrow"), x0, x0]) = false := by kernel_rfl
    refine ⟨?_, r⟩
    unfold leafK
    rw [r]
    simp only [PyData.canLay0, PyData.canLayAll0, sf_t, sf_l, nf_2, nf_l, hf_1, hf_l, h1, h2, so_lam, so_app, so_Lam, so_fun, so_a, so_arrow, so_Any, so_base, Bool.not_false, Bool.true_or, Bool.and_true, Bool.true_and]
  · exact ⟨by decide +kernel, by decide +kernel⟩
theorem c_nokind (n m : Nat) (a b c : Int) (pre rest : Sto) (x0 : PyData) (h : GLK x0) (f : FdOk m a b c) (hm : m ≤ 1000000) :
    Draws (callF FT (n + 3) 29 [.loc pre.length, .d x0] (stq pre (fdc a b c) rest)) (m + 1) pre rest fun x => leafK x = true ∧ looseNode x = false := by
  obtain ⟨y, a1, b1, c1, e1, f1, hy⟩ := c_one n m a b c pre rest (badK x0) f hm (by simp [badK]) (by simp [badK])
  rw [cf ft29]
  unfold badK at e1
  simp only [lineOk4, lineOk5, lineOk6, lineOk7, lineOk8, lineOk9, lineOk10, lineOk11, lineOk12, lineOk13, lineOk14, lineOk15, lineOk16, lineOk17, lineOk18, lineOk19, lineOk20, lineOk21, lineOk22, lineOk23, lineOk24, lineOk25, lineOk26, lineOk27, lineOk28, lineOk29, lineOk30, lineOk31, lineOk32, lineOk33, lineOk34, lineOk35, lineOk36, lineOk37, lineOk38, lineOk39, lineOk40, nc0, nc1, nc2, nc3, nc4, lineOk0, lineOk1, lineOk2, lineOk3, Nat.reduceAdd, Nat.reduceSub, Int.reduceLT, Int.reduceLE, Int.reduceBEq, Int.reduceEq, Int.reduceAdd, Int.reduceSub, Int.reduceNeg, atI_0, atI_1, atI_2, atI_3, cut_1, cut_to1, eq_self, Option.bind_some, rb_ok, rb_exc, rb_bad, ro_ok, ro_exc, ro_bad, sq_nx, sq_rt, sq_bk, sq_ct, q_vgo1, q_vgo2, q_vgo3, q_pfin1, q_pfin2, q_pgo1, q_pgo2, q_cellD1, q_cellD2, q_cons21, q_cons22, q_cons23, q_tfin1, q_tfin2, q_tgo1, q_tgo2, q_isCell1, q_isCell2, q_appGo1, q_appGo2, q_extGo1, q_extGo2, q_popFin1, q_popFin2, q_popGo1, q_popGo2, q_newGo1, q_newGo2, q_setFin1, q_setFin2, q_setGo1, q_setGo2, q_chn1, q_chn2, q_compGo1, q_compGo2, q_ckGo1, q_ckGo2, e_var, e_glob, e_lit, e_pr, e_new, e_act0, e_act1, e_and, e_or, e_not, e_ite, e_chain, e_call, e_callk, e_comp, es_nil, es_cons, an_one, an_more, or_one, or_more, e_T, prim_eq, argsD, holds, deref_d, deref_loc, derefs_nil, derefs_cons, dsOf_nil, dsOf_cons, tru_eq, q_truD1, q_truD2, q_truD3, q_truD4, q_truD5, q_truD6, q_truD7, isLst_loc, do_app, do_ext, do_pop, new_eq, set_eq, p_tup, p_lst, p_add, p_sub, p_mul, p_fdiv, p_mod, p_pow, p_lt, p_le, p_gt, p_ge, p_max, p_min, p_eq, p_ne, p_in, p_nin, p_ix, p_slTo, p_slFrom, p_slB, p_neg, p_len, p_int, p_sum, p_all, p_tupL, p_tupT, p_lstL, p_lstT, p_isi, p_isN, p_notN, isin_ch, isin_tup, isin_list, isTy, q_addD1, q_addD2, q_addD3, q_addD4, q_ixD1, q_ixD2, q_ixD3, q_slD1, q_slD2, q_lenD1, q_lenD2, q_lenD3, q_ugo1, q_ugo2, q_sgo1, q_sgo2, q_agoF1, q_agoF2, q_ago1, q_ago2, q_ago3, aug_add, aug_sub, q_fgo1, q_fgo2, s_asg', s_unp', s_par', s_par3', s_setix', s_aug', s_ex', s_ite', s_for', s_while', s_ret', ss_nil', ss_cons', asg_one, asg_many, setMany, pk_d, fin_rt, fin_nx, fin_ex, nx_ok, pick_nil, pick_cons, startR, get_top, set_top, take_top, take_own, take_fd, take_fd2, stq_get, stq_set, stq_len, stq_app, stq_top, stq_take, stq_take2, eqOk_str, eqv_str, eqOk_int, eqv_int, eqOk_bool, eqv_bool, it_seq, it_r1, it_r2, it_el, it_et, it_zip, it_rev, q_seqD1, q_seqD2, q_seqD3, List.map_cons, List.map_nil, List.length_cons, List.length_nil, List.replicate_succ, List.replicate_zero, List.append_nil, List.nil_append, List.cons_append, List.getElem?_cons_zero, List.getElem?_cons_succ, List.getElem?_nil, List.set_cons_zero, List.set_cons_succ, Option.map_some, Option.map_none, if_true, if_false, ite_true, ite_false, reduceIte, Bool.not_true, Bool.not_false, Bool.false_eq_true, decide_true, decide_false, Bool.and_true, Bool.true_and, Bool.and_false, Bool.false_and, b29, e1]
  exact ⟨_, _, _, _, rfl, f1, badK_ok h y hy⟩
theorem c_swapk (other : PyData) (ho : leafK other = true ∧ looseNode other = false) : ∀ (t : Tr) (n m d : Nat) (a b c : Int) (pre rest : Sto), GoodK t → FdOk m a b c → m + 2 * t.tall ≤ 900000 → d ≤ 1000 →
    Draws (callF FT (n + t.tall + 2) 18 [.loc pre.length, .d (encK t), .d other, .d (.int d)] (stq pre (fdc a b c) rest)) (m + 2 * t.tall) pre rest fun x => ∃ t', x = encK t' ∧ t'.all leafK = true ∧ t'.all looseNode = false ∧ t'.flat = true
  | .leaf x, n, m, d, a, b, c, pre, rest, g, f, hm, hd => by
    obtain ⟨w, r, rfl, hp⟩ := gl_partsK g
    have e0 := c_lparts (n + 1) w r (stq pre (fdc a b c) rest)
    have e0 : callF FT (n + 2) 17 [.d (.tuple (.str w :: r))] (stq pre (fdc a b c) rest) = _ := e0
    rw [show n + (Tr.leaf (.tuple (.str w :: r))).tall + 2 = n + 2 + 1 from rfl, cf ft18, encK]
    simp only [lineOk4, lineOk5, lineOk6, lineOk7, lineOk8, lineOk9, lineOk10, lineOk11, lineOk12, lineOk13, lineOk14, lineOk15, lineOk16, lineOk17, lineOk18, lineOk19, lineOk20, lineOk21, lineOk22, lineOk23, lineOk24, lineOk25, lineOk26, lineOk27, lineOk28, lineOk29, lineOk30, lineOk31, lineOk32, lineOk33, lineOk34, lineOk35, lineOk36, lineOk37, lineOk38, lineOk39, lineOk40, nc0, nc1, nc2, nc3, nc4, lineOk0, lineOk1, lineOk2, lineOk3, Nat.reduceAdd, Nat.reduceSub, Int.reduceLT, Int.reduceLE, Int.reduceBEq, Int.reduceEq, Int.reduceAdd, Int.reduceSub, Int.reduceNeg, atI_0, atI_1, atI_2, atI_3, cut_1, cut_to1, eq_self, Option.bind_some, rb_ok, rb_exc, rb_bad, ro_ok, ro_exc, ro_bad, sq_nx, sq_rt, sq_bk, sq_ct, q_vgo1, q_vgo2, q_vgo3, q_pfin1, q_pfin2, q_pgo1, q_pgo2, q_cellD1, q_cellD2, q_cons21, q_cons22, q_cons23, q_tfin1, q_tfin2, q_tgo1, q_tgo2, q_isCell1, q_isCell2, q_appGo1, q_appGo2, q_extGo1, q_extGo2, q_popFin1, q_popFin2, q_popGo1, q_popGo2, q_newGo1, q_newGo2, q_setFin1, q_setFin2, q_setGo1, q_setGo2, q_chn1, q_chn2, q_compGo1, q_compGo2, q_ckGo1, q_ckGo2, e_var, e_glob, e_lit, e_pr, e_new, e_act0, e_act1, e_and, e_or, e_not, e_ite, e_chain, e_call, e_callk, e_comp, es_nil, es_cons, an_one, an_more, or_one, or_more, e_T, prim_eq, argsD, holds, deref_d, deref_loc, derefs_nil, derefs_cons, dsOf_nil, dsOf_cons, tru_eq, q_truD1, q_truD2, q_truD3, q_truD4, q_truD5, q_truD6, q_truD7, isLst_loc, do_app, do_ext, do_pop, new_eq, set_eq, p_tup, p_lst, p_add, p_sub, p_mul, p_fdiv, p_mod, p_pow, p_lt, p_le, p_gt, p_ge, p_max, p_min, p_eq, p_ne, p_in, p_nin, p_ix, p_slTo, p_slFrom, p_slB, p_neg, p_len, p_int, p_sum, p_all, p_tupL, p_tupT, p_lstL, p_lstT, p_isi, p_isN, p_notN, isin_ch, isin_tup, isin_list, isTy, q_addD1, q_addD2, q_addD3, q_addD4, q_ixD1, q_ixD2, q_ixD3, q_slD1, q_slD2, q_lenD1, q_lenD2, q_lenD3, q_ugo1, q_ugo2, q_sgo1, q_sgo2, q_agoF1, q_agoF2, q_ago1, q_ago2, q_ago3, aug_add, aug_sub, q_fgo1, q_fgo2, s_asg', s_unp', s_par', s_par3', s_setix', s_aug', s_ex', s_ite', s_for', s_while', s_ret', ss_nil', ss_cons', asg_one, asg_many, setMany, pk_d, fin_rt, fin_nx, fin_ex, nx_ok, pick_nil, pick_cons, startR, get_top, set_top, take_top, take_own, take_fd, take_fd2, stq_get, stq_set, stq_len, stq_app, stq_top, stq_take, stq_take2, eqOk_str, eqv_str, eqOk_int, eqv_int, eqOk_bool, eqv_bool, it_seq, it_r1, it_r2, it_el, it_et, it_zip, it_rev, q_seqD1, q_seqD2, q_seqD3, List.map_cons, List.map_nil, List.length_cons, List.length_nil, List.replicate_succ, List.replicate_zero, List.append_nil, List.nil_append, List.cons_append, List.getElem?_cons_zero, List.getElem?_cons_succ, List.getElem?_nil, List.set_cons_zero, List.set_cons_succ, Option.map_some, Option.map_none, if_true, if_false, ite_true, ite_false, reduceIte, Bool.not_true, Bool.not_false, Bool.false_eq_true, decide_true, decide_false, Bool.and_true, Bool.true_and, Bool.and_false, Bool.false_and, b18, e0, hp, eqNilT [] rfl, eqvNilT, List.isEmpty_nil]
    exact ⟨_, _, _, _, rfl, ⟨f.a0, f.b0, f.b1, f.c0, by have := f.c1; omega⟩, .leaf other, rfl, ho.1, ho.2, rfl⟩
  | .un u, n, m, d, a, b, c, pre, rest, g, f, hm, hd => absurd (show false = true from g.2.2) (by decide)
  | .bin u v, n, m, d, a, b, c, pre, rest, g, f, hm, hd => by
    have tl : (Tr.bin u v).tall = max u.tall v.tall + 1 := rfl
    rw [tl] at hm ⊢
    have gu : GoodK u := GoodLGoodK g
    have gv : GoodK v := GoodRtGoodK g
    have la := canAll2 (layK gu.1) (layK gv.1)
    have e0 := c_lparts (n + max u.tall v.tall + 1) (Str.ofString "arrow") [encK u, encK v] (stq pre (fdc a b c) rest)
    have e0 : callF FT (n + max u.tall v.tall + 2) 17 [.d (.tuple [.str (Str.ofString "arrow"), encK u, encK v])] (stq pre (fdc a b c) rest) = _ := e0
    rw [show n + (max u.tall v.tall + 1) + 2 = n + max u.tall v.tall + 2 + 1 by omega, cf ft18, encK]
    by_cases hd0 : d < 1
    · have dd : decide ((d : Int) < 1) = true := decide_eq_true (by omega)
      simp only [lineOk4, lineOk5, lineOk6, lineOk7, lineOk8, lineOk9, lineOk10, lineOk11, lineOk12, lineOk13, lineOk14, lineOk15, lineOk16, lineOk17, lineOk18, lineOk19, lineOk20, lineOk21, lineOk22, lineOk23, lineOk24, lineOk25, lineOk26, lineOk27, lineOk28, lineOk29, lineOk30, lineOk31, lineOk32, lineOk33, lineOk34, lineOk35, lineOk36, lineOk37, lineOk38, lineOk39, lineOk40, nc0, nc1, nc2, nc3, nc4, lineOk0, lineOk1, lineOk2, lineOk3, Nat.reduceAdd, Nat.reduceSub, Int.reduceLT, Int.reduceLE, Int.reduceBEq, Int.reduceEq, Int.reduceAdd, Int.reduceSub, Int.reduceNeg, atI_0, atI_1, atI_2, atI_3, cut_1, cut_to1, eq_self, Option.bind_some, rb_ok, rb_exc, rb_bad, ro_ok, ro_exc, ro_bad, sq_nx, sq_rt, sq_bk, sq_ct, q_vgo1, q_vgo2, q_vgo3, q_pfin1, q_pfin2, q_pgo1, q_pgo2, q_cellD1, q_cellD2, q_cons21, q_cons22, q_cons23, q_tfin1, q_tfin2, q_tgo1, q_tgo2, q_isCell1, q_isCell2, q_appGo1, q_appGo2, q_extGo1, q_extGo2, q_popFin1, q_popFin2, q_popGo1, q_popGo2, q_newGo1, q_newGo2, q_setFin1, q_setFin2, q_setGo1, q_setGo2, q_chn1, q_chn2, q_compGo1, q_compGo2, q_ckGo1, q_ckGo2, e_var, e_glob, e_lit, e_pr, e_new, e_act0, e_act1, e_and, e_or, e_not, e_ite, e_chain, e_call, e_callk, e_comp, es_nil, es_cons, an_one, an_more, or_one, or_more, e_T, prim_eq, argsD, holds, deref_d, deref_loc, derefs_nil, derefs_cons, dsOf_nil, dsOf_cons, tru_eq, q_truD1, q_truD2, q_truD3, q_truD4, q_truD5, q_truD6, q_truD7, isLst_loc, do_app, do_ext, do_pop, new_eq, set_eq, p_tup, p_lst, p_add, p_sub, p_mul, p_fdiv, p_mod, p_pow, p_lt, p_le, p_gt, p_ge, p_max, p_min, p_eq, p_ne, p_in, p_nin, p_ix, p_slTo, p_slFrom, p_slB, p_neg, p_len, p_int, p_sum, p_all, p_tupL, p_tupT, p_lstL, p_lstT, p_isi, p_isN, p_notN, isin_ch, isin_tup, isin_list, isTy, q_addD1, q_addD2, q_addD3, q_addD4, q_ixD1, q_ixD2, q_ixD3, q_slD1, q_slD2, q_lenD1, q_lenD2, q_lenD3, q_ugo1, q_ugo2, q_sgo1, q_sgo2, q_agoF1, q_agoF2, q_ago1, q_ago2, q_ago3, aug_add, aug_sub, q_fgo1, q_fgo2, s_asg', s_unp', s_par', s_par3', s_setix', s_aug', s_ex', s_ite', s_for', s_while', s_ret', ss_nil', ss_cons', asg_one, asg_many, setMany, pk_d, fin_rt, fin_nx, fin_ex, nx_ok, pick_nil, pick_cons, startR, get_top, set_top, take_top, take_own, take_fd, take_fd2, stq_get, stq_set, stq_len, stq_app, stq_top, stq_take, stq_take2, eqOk_str, eqv_str, eqOk_int, eqv_int, eqOk_bool, eqv_bool, it_seq, it_r1, it_r2, it_el, it_et, it_zip, it_rev, q_seqD1, q_seqD2, q_seqD3, List.map_cons, List.map_nil, List.length_cons, List.length_nil, List.replicate_succ, List.replicate_zero, List.append_nil, List.nil_append, List.cons_append, List.getElem?_cons_zero, List.getElem?_cons_succ, List.getElem?_nil, List.set_cons_zero, List.set_cons_succ, Option.map_some, Option.map_none, if_true, if_false, ite_true, ite_false, reduceIte, Bool.not_true, Bool.not_false, Bool.false_eq_true, decide_true, decide_false, Bool.and_true, Bool.true_and, Bool.and_false, Bool.false_and, b18, sArr, e0, p3_arr, eqNilT _ la, eqvNilT, List.isEmpty_cons, dd]
      exact ⟨_, _, _, _, rfl, ⟨f.a0, f.b0, f.b1, f.c0, by have := f.c1; omega⟩, .leaf other, rfl, ho.1, ho.2, rfl⟩
    · have dd : decide ((d : Int) < 1) = false := decide_eq_false (by omega)
      obtain ⟨_, a1, b1, c1, e1, f1, r, rfl, hr⟩ := c_draw (n + max u.tall v.tall + 1) 4 m a b c pre rest f (by omega) (by decide) (by decide)
      have e1 : callF FT (n + max u.tall v.tall + 2) 13 [.loc pre.length, .d (.int 4)] (stq pre (fdc a b c) rest) = _ := e1
      cases k : ((r : Int) == 0)
      · obtain ⟨_, a2, b2, c2, e2, f2, q, rfl, hq⟩ := c_draw (n + max u.tall v.tall + 1) 2 (m + 1) a1 b1 c1 pre rest f1 (by omega) (by decide) (by decide)
        have e2 : callF FT (n + max u.tall v.tall + 2) 13 [.loc pre.length, .d (.int 2)] (stq pre (fdc a1 b1 c1) rest) = _ := e2
        have sd : (d : Int) - 1 = ((d - 1 : Nat) : Int) := by omega
        obtain rfl | rfl : q = 0 ∨ q = 1 := by omega
        · obtain ⟨_, a3, b3, c3, e3, f3, t', rfl, g3, h3, l3⟩ := c_swapk other ho u (n + max u.tall v.tall - u.tall) (m + 2) (d - 1) a2 b2 c2 pre (rest ++ [.lst []]) gu f2 (by omega) (by omega)
          rw [show n + max u.tall v.tall - u.tall + u.tall + 2 = n + max u.tall v.tall + 2 by omega] at e3
          simp only [lineOk4, lineOk5, lineOk6, lineOk7, lineOk8, lineOk9, lineOk10, lineOk11, lineOk12, lineOk13, lineOk14, lineOk15, lineOk16, lineOk17, lineOk18, lineOk19, lineOk20, lineOk21, lineOk22, lineOk23, lineOk24, lineOk25, lineOk26, lineOk27, lineOk28, lineOk29, lineOk30, lineOk31, lineOk32, lineOk33, lineOk34, lineOk35, lineOk36, lineOk37, lineOk38, lineOk39, lineOk40, nc0, nc1, nc2, nc3, nc4, lineOk0, lineOk1, lineOk2, lineOk3, Nat.reduceAdd, Nat.reduceSub, Int.reduceLT, Int.reduceLE, Int.reduceBEq, Int.reduceEq, Int.reduceAdd, Int.reduceSub, Int.reduceNeg, atI_0, atI_1, atI_2, atI_3, cut_1, cut_to1, eq_self, Option.bind_some, rb_ok, rb_exc, rb_bad, ro_ok, ro_exc, ro_bad, sq_nx, sq_rt, sq_bk, sq_ct, q_vgo1, q_vgo2, q_vgo3, q_pfin1, q_pfin2, q_pgo1, q_pgo2, q_cellD1, q_cellD2, q_cons21, q_cons22, q_cons23, q_tfin1, q_tfin2, q_tgo1, q_tgo2, q_isCell1, q_isCell2, q_appGo1, q_appGo2, q_extGo1, q_extGo2, q_popFin1, q_popFin2, q_popGo1, q_popGo2, q_newGo1, q_newGo2, q_setFin1, q_setFin2, q_setGo1, q_setGo2, q_chn1, q_chn2, q_compGo1, q_compGo2, q_ckGo1, q_ckGo2, e_var, e_glob, e_lit, e_pr, e_new, e_act0, e_act1, e_and, e_or, e_not, e_ite, e_chain, e_call, e_callk, e_comp, es_nil, es_cons, an_one, an_more, or_one, or_more, e_T, prim_eq, argsD, holds, deref_d, deref_loc, derefs_nil, derefs_cons, dsOf_nil, dsOf_cons, tru_eq, q_truD1, q_truD2, q_truD3, q_truD4, q_truD5, q_truD6, q_truD7, isLst_loc, do_app, do_ext, do_pop, new_eq, set_eq, p_tup, p_lst, p_add, p_sub, p_mul, p_fdiv, p_mod, p_pow, p_lt, p_le, p_gt, p_ge, p_max, p_min, p_eq, p_ne, p_in, p_nin, p_ix, p_slTo, p_slFrom, p_slB, p_neg, p_len, p_int, p_sum, p_all, p_tupL, p_tupT, p_lstL, p_lstT, p_isi, p_isN, p_notN, isin_ch, isin_tup, isin_list, isTy, q_addD1, q_addD2, q_addD3, q_addD4, q_ixD1, q_ixD2, q_ixD3, q_slD1, q_slD2, q_lenD1, q_lenD2, q_lenD3, q_ugo1, q_ugo2, q_sgo1, q_sgo2, q_agoF1, q_agoF2, q_ago1, q_ago2, q_ago3, aug_add, aug_sub, q_fgo1, q_fgo2, s_asg', s_unp', s_par', s_par3', s_setix', s_aug', s_ex', s_ite', s_for', s_while', s_ret', ss_nil', ss_cons', asg_one, asg_many, setMany, pk_d, fin_rt, fin_nx, fin_ex, nx_ok, pick_nil, pick_cons, startR, get_top, set_top, take_top, take_own, take_fd, take_fd2, stq_get, stq_set, stq_len, stq_app, stq_top, stq_take, stq_take2, eqOk_str, eqv_str, eqOk_int, eqv_int, eqOk_bool, eqv_bool, it_seq, it_r1, it_r2, it_el, it_et, it_zip, it_rev, q_seqD1, q_seqD2, q_seqD3, List.map_cons, List.map_nil, List.length_cons, List.length_nil, List.replicate_succ, List.replicate_zero, List.append_nil, List.nil_append, List.cons_append, List.getElem?_cons_zero, List.getElem?_cons_succ, List.getElem?_nil, List.set_cons_zero, List.set_cons_succ, Option.map_some, Option.map_none, if_true, if_false, ite_true, ite_false, reduceIte, Bool.not_true, Bool.not_false, Bool.false_eq_true, decide_true, decide_false, Bool.and_true, Bool.true_and, Bool.and_false, Bool.false_and, b18, sArr, e0, p3_arr, eqNilT _ la, eqvNilT, List.isEmpty_cons, dd, e1, k, e2, enumD, cl_cons, cl_nil, q_cStep1, q_cEnd1, compF_many, wipeR, yld_d, len_fd, sd, e3, nc0, nc1, List.length_append]
          exact ⟨_, _, _, _, rfl, ⟨f3.a0, f3.b0, f3.b1, f3.c0, by have := f3.c1; omega⟩, .bin t' v, rfl, (by show (t'.all _ && v.all _) = true; rw [g3, gv.1]; rfl), (by show (t'.all _ && v.all _) = false; rw [h3]; rfl), (by show (t'.flat && v.flat) = true; rw [l3, gv.2.2]; rfl)⟩
        · obtain ⟨_, a3, b3, c3, e3, f3, t', rfl, g3, h3, l3⟩ := c_swapk other ho v (n + max u.tall v.tall - v.tall) (m + 2) (d - 1) a2 b2 c2 pre (rest ++ [.lst [encK u]]) gv f2 (by omega) (by omega)
          rw [show n + max u.tall v.tall - v.tall + v.tall + 2 = n + max u.tall v.tall + 2 by omega] at e3
          simp only [lineOk4, lineOk5, lineOk6, lineOk7, lineOk8, lineOk9, lineOk10, lineOk11, lineOk12, lineOk13, lineOk14, lineOk15, lineOk16, lineOk17, lineOk18, lineOk19, lineOk20, lineOk21, lineOk22, lineOk23, lineOk24, lineOk25, lineOk26, lineOk27, lineOk28, lineOk29, lineOk30, lineOk31, lineOk32, lineOk33, lineOk34, lineOk35, lineOk36, lineOk37, lineOk38, lineOk39, lineOk40, nc0, nc1, nc2, nc3, nc4, lineOk0, lineOk1, lineOk2, lineOk3, Nat.reduceAdd, Nat.reduceSub, Int.reduceLT, Int.reduceLE, Int.reduceBEq, Int.reduceEq, Int.reduceAdd, Int.reduceSub, Int.reduceNeg, atI_0, atI_1, atI_2, atI_3, cut_1, cut_to1, eq_self, Option.bind_some, rb_ok, rb_exc, rb_bad, ro_ok, ro_exc, ro_bad, sq_nx, sq_rt, sq_bk, sq_ct, q_vgo1, q_vgo2, q_vgo3, q_pfin1, q_pfin2, q_pgo1, q_pgo2, q_cellD1, q_cellD2, q_cons21, q_cons22, q_cons23, q_tfin1, q_tfin2, q_tgo1, q_tgo2, q_isCell1, q_isCell2, q_appGo1, q_appGo2, q_extGo1, q_extGo2, q_popFin1, q_popFin2, q_popGo1, q_popGo2, q_newGo1, q_newGo2, q_setFin1, q_setFin2, q_setGo1, q_setGo2, q_chn1, q_chn2, q_compGo1, q_compGo2, q_ckGo1, q_ckGo2, e_var, e_glob, e_lit, e_pr, e_new, e_act0, e_act1, e_and, e_or, e_not, e_ite, e_chain, e_call, e_callk, e_comp, es_nil, es_cons, an_one, an_more, or_one, or_more, e_T, prim_eq, argsD, holds, deref_d, deref_loc, derefs_nil, derefs_cons, dsOf_nil, dsOf_cons, tru_eq, q_truD1, q_truD2, q_truD3, q_truD4, q_truD5, q_truD6, q_truD7, isLst_loc, do_app, do_ext, do_pop, new_eq, set_eq, p_tup, p_lst, p_add, p_sub, p_mul, p_fdiv, p_mod, p_pow, p_lt, p_le, p_gt, p_ge, p_max, p_min, p_eq, p_ne, p_in, p_nin, p_ix, p_slTo, p_slFrom, p_slB, p_neg, p_len, p_int, p_sum, p_all, p_tupL, p_tupT, p_lstL, p_lstT, p_isi, p_isN, p_notN, isin_ch, isin_tup, isin_list, isTy, q_addD1, q_addD2, q_addD3, q_addD4, q_ixD1, q_ixD2, q_ixD3, q_slD1, q_slD2, q_lenD1, q_lenD2, q_lenD3, q_ugo1, q_ugo2, q_sgo1, q_sgo2, q_agoF1, q_agoF2, q_ago1, q_ago2, q_ago3, aug_add, aug_sub, q_fgo1, q_fgo2, s_asg', s_unp', s_par', s_par3', s_setix', s_aug', s_ex', s_ite', s_for', s_while', s_ret', ss_nil', ss_cons', asg_one, asg_many, setMany, pk_d, fin_rt, fin_nx, fin_ex, nx_ok, pick_nil, pick_cons, startR, get_top, set_top, take_top, take_own, take_fd, take_fd2, stq_get, stq_set, stq_len, stq_app, stq_top, stq_take, stq_take2, eqOk_str, eqv_str, eqOk_int, eqv_int, eqOk_bool, eqv_bool, it_seq, it_r1, it_r2, it_el, it_et, it_zip, it_rev, q_seqD1, q_seqD2, q_seqD3, List.map_cons, List.map_nil, List.length_cons, List.length_nil, List.replicate_succ, List.replicate_zero, List.append_nil, List.nil_append, List.cons_append, List.getElem?_cons_zero, List.getElem?_cons_succ, List.getElem?_nil, List.set_cons_zero, List.set_cons_succ, Option.map_some, Option.map_none, if_true, if_false, ite_true, ite_false, reduceIte, Bool.not_true, Bool.not_false, Bool.false_eq_true, decide_true, decide_false, Bool.and_true, Bool.true_and, Bool.and_false, Bool.false_and, b18, sArr, e0, p3_arr, eqNilT _ la, eqvNilT, List.isEmpty_cons, dd, e1, k, e2, enumD, cl_cons, cl_nil, q_cStep1, q_cEnd1, compF_many, wipeR, yld_d, len_fd, sd, e3, nc0, nc1, List.length_append]
          exact ⟨_, _, _, _, rfl, ⟨f3.a0, f3.b0, f3.b1, f3.c0, by have := f3.c1; omega⟩, .bin u t', rfl, (by show (u.all _ && t'.all _) = true; rw [g3, gu.1]; rfl), (by show (u.all _ && t'.all _) = false; rw [h3, Bool.and_false]), (by show (u.flat && t'.flat) = true; rw [l3, gu.2.2]; rfl)⟩
      · simp only [lineOk4, lineOk5, lineOk6, lineOk7, lineOk8, lineOk9, lineOk10, lineOk11, lineOk12, lineOk13, lineOk14, lineOk15, lineOk16, lineOk17, lineOk18, lineOk19, lineOk20, lineOk21, lineOk22, lineOk23, lineOk24, lineOk25, lineOk26, lineOk27, lineOk28, lineOk29, lineOk30, lineOk31, lineOk32, lineOk33, lineOk34, lineOk35, lineOk36, lineOk37, lineOk38, lineOk39, lineOk40, nc0, nc1, nc2, nc3, nc4, lineOk0, lineOk1, lineOk2, lineOk3, Nat.reduceAdd, Nat.reduceSub, Int.reduceLT, Int.reduceLE, Int.reduceBEq, Int.reduceEq, Int.reduceAdd, Int.reduceSub, Int.reduceNeg, atI_0, atI_1, atI_2, atI_3, cut_1, cut_to1, eq_self, Option.bind_some, rb_ok, rb_exc, rb_bad, ro_ok, ro_exc, ro_bad, sq_nx, sq_rt, sq_bk, sq_ct, q_vgo1, q_vgo2, q_vgo3, q_pfin1, q_pfin2, q_pgo1, q_pgo2, q_cellD1, q_cellD2, q_cons21, q_cons22, q_cons23, q_tfin1, q_tfin2, q_tgo1, q_tgo2, q_isCell1, q_isCell2, q_appGo1, q_appGo2, q_extGo1, q_extGo2, q_popFin1, q_popFin2, q_popGo1, q_popGo2, q_newGo1, q_newGo2, q_setFin1, q_setFin2, q_setGo1, q_setGo2, q_chn1, q_chn2, q_compGo1, q_compGo2, q_ckGo1, q_ckGo2, e_var, e_glob, e_lit, e_pr, e_new, e_act0, e_act1, e_and, e_or, e_not, e_ite, e_chain, e_call, e_callk, e_comp, es_nil, es_cons, an_one, an_more, or_one, or_more, e_T, prim_eq, argsD, holds, deref_d, deref_loc, derefs_nil, derefs_cons, dsOf_nil, dsOf_cons, tru_eq, q_truD1, q_truD2, q_truD3, q_truD4, q_truD5, q_truD6, q_truD7, isLst_loc, do_app, do_ext, do_pop, new_eq, set_eq, p_tup, p_lst, p_add, p_sub, p_mul, p_fdiv, p_mod, p_pow, p_lt, p_le, p_gt, p_ge, p_max, p_min, p_eq, p_ne, p_in, p_nin, p_ix, p_slTo, p_slFrom, p_slB, p_neg, p_len, p_int, p_sum, p_all, p_tupL, p_tupT, p_lstL, p_lstT, p_isi, p_isN, p_notN, isin_ch, isin_tup, isin_list, isTy, q_addD1, q_addD2, q_addD3, q_addD4, q_ixD1, q_ixD2, q_ixD3, q_slD1, q_slD2, q_lenD1, q_lenD2, q_lenD3, q_ugo1, q_ugo2, q_sgo1, q_sgo2, q_agoF1, q_agoF2, q_ago1, q_ago2, q_ago3, aug_add, aug_sub, q_fgo1, q_fgo2, s_asg', s_unp', s_par', s_par3', s_setix', s_aug', s_ex', s_ite', s_for', s_while', s_ret', ss_nil', ss_cons', asg_one, asg_many, setMany, pk_d, fin_rt, fin_nx, fin_ex, nx_ok, pick_nil, pick_cons, startR, get_top, set_top, take_top, take_own, take_fd, take_fd2, stq_get, stq_set, stq_len, stq_app, stq_top, stq_take, stq_take2, eqOk_str, eqv_str, eqOk_int, eqv_int, eqOk_bool, eqv_bool, it_seq, it_r1, it_r2, it_el, it_et, it_zip, it_rev, q_seqD1, q_seqD2, q_seqD3, List.map_cons, List.map_nil, List.length_cons, List.length_nil, List.replicate_succ, List.replicate_zero, List.append_nil, List.nil_append, List.cons_append, List.getElem?_cons_zero, List.getElem?_cons_succ, List.getElem?_nil, List.set_cons_zero, List.set_cons_succ, Option.map_some, Option.map_none, if_true, if_false, ite_true, ite_false, reduceIte, Bool.not_true, Bool.not_false, Bool.false_eq_true, decide_true, decide_false, Bool.and_true, Bool.true_and, Bool.and_false, Bool.false_and, b18, sArr, e0, p3_arr, eqNilT _ la, eqvNilT, List.isEmpty_cons, dd, e1, k]
        exact ⟨_, _, _, _, rfl, ⟨f1.a0, f1.b0, f1.b1, f1.c0, by have := f1.c1; omega⟩, .leaf other, rfl, ho.1, ho.2, rfl⟩
end K60

set_option Elab.async false
set_option linter.all false
set_option maxRecDepth 100000
set_option maxHeartbeats 4000000
namespace K60
open PySem PySem.Spec L2 Mp
theorem arr_any : (Str.ofString "arrow" == Str.ofString "any") = false := by decide +kernel
theorem z0 : eqOk (.list []) (.list []) = true := eqNil [] rfl
theorem z1 : eqOk (.list [.int 1]) (.list []) = true := eqNil _ rfl
theorem z2 : eqOk (.list [.int 1, .int 1]) (.list []) = true := eqNil _ rfl
theorem c_hasany : ∀ (t : Tr) (n : Nat) (st : Sto), GoodK t → callF FT (n + t.tall + 1) 30 [.d (encK t)] st = .ok (.d (.bool (!t.all noAny))) st
  | .leaf x, n, st, g => by
    obtain ⟨w, r, rfl, hp⟩ := gl_partsK g
    have hw : (PyData.strOk w && PyData.canLayAll0 r) = true := by
      have := (leafK_all g.1).1
      simpa [PyData.canLay0, PyData.canLayAll0] using this
    rw [Bool.and_eq_true] at hw
    have e0 : ∀ st, callF FT (n + 1) 17 [.d (.tuple (.str w :: r))] st = .ok (.d (.tuple [])) st := fun st => by rw [c_lparts, hp]; rfl
    have el : (!(Tr.leaf (.tuple (.str w :: r))).all noAny) = (w == Str.ofString "any") := by
      show (!(!(w == Str.ofString "any"))) = _
      rw [Bool.not_not]
    rw [el, show n + (Tr.leaf (.tuple (.str w :: r))).tall + 1 = n + 1 + 1 from rfl, cf ft30, encK]
    cases k : w == Str.ofString "any" <;> simp only [lineOk4, lineOk5, lineOk6, lineOk7, lineOk8, lineOk9, lineOk10, lineOk11, lineOk12, lineOk13, lineOk14, lineOk15, lineOk16, lineOk17, lineOk18, lineOk19, lineOk20, lineOk21, lineOk22, lineOk23, lineOk24, lineOk25, lineOk26, lineOk27, lineOk28, lineOk29, lineOk30, lineOk31, lineOk32, lineOk33, lineOk34, lineOk35, lineOk36, lineOk37, lineOk38, lineOk39, lineOk40, nc0, nc1, nc2, nc3, nc4, lineOk0, lineOk1, lineOk2, lineOk3, Nat.reduceAdd, Nat.reduceSub, Int.reduceLT, Int.reduceLE, Int.reduceBEq, Int.reduceEq, Int.reduceAdd, Int.reduceSub, Int.reduceNeg, atI_0, atI_1, atI_2, atI_3, cut_1, cut_to1, eq_self, Option.bind_some, rb_ok, rb_exc, rb_bad, ro_ok, ro_exc, ro_bad, sq_nx, sq_rt, sq_bk, sq_ct, q_vgo1, q_vgo2, q_vgo3, q_pfin1, q_pfin2, q_pgo1, q_pgo2, q_cellD1, q_cellD2, q_cons21, q_cons22, q_cons23, q_tfin1, q_tfin2, q_tgo1, q_tgo2, q_isCell1, q_isCell2, q_appGo1, q_appGo2, q_extGo1, q_extGo2, q_popFin1, q_popFin2, q_popGo1, q_popGo2, q_newGo1, q_newGo2, q_setFin1, q_setFin2, q_setGo1, q_setGo2, q_chn1, q_chn2, q_compGo1, q_compGo2, q_ckGo1, q_ckGo2, e_var, e_glob, e_lit, e_pr, e_new, e_act0, e_act1, e_and, e_or, e_not, e_ite, e_chain, e_call, e_callk, e_comp, es_nil, es_cons, an_one, an_more, or_one, or_more, e_T, prim_eq, argsD, holds, deref_d, deref_loc, derefs_nil, derefs_cons, dsOf_nil, dsOf_cons, tru_eq, q_truD1, q_truD2, q_truD3, q_truD4, q_truD5, q_truD6, q_truD7, isLst_loc, do_app, do_ext, do_pop, new_eq, set_eq, p_tup, p_lst, p_add, p_sub, p_mul, p_fdiv, p_mod, p_pow, p_lt, p_le, p_gt, p_ge, p_max, p_min, p_eq, p_ne, p_in, p_nin, p_ix, p_slTo, p_slFrom, p_slB, p_neg, p_len, p_int, p_sum, p_all, p_tupL, p_tupT, p_lstL, p_lstT, p_isi, p_isN, p_notN, isin_ch, isin_tup, isin_list, isTy, q_addD1, q_addD2, q_addD3, q_addD4, q_ixD1, q_ixD2, q_ixD3, q_slD1, q_slD2, q_lenD1, q_lenD2, q_lenD3, q_ugo1, q_ugo2, q_sgo1, q_sgo2, q_agoF1, q_agoF2, q_ago1, q_ago2, q_ago3, aug_add, aug_sub, q_fgo1, q_fgo2, s_asg', s_unp', s_par', s_par3', s_setix', s_aug', s_ex', s_ite', s_for', s_while', s_ret', ss_nil', ss_cons', asg_one, asg_many, setMany, pk_d, fin_rt, fin_nx, fin_ex, nx_ok, pick_nil, pick_cons, startR, get_top, set_top, take_top, take_own, take_fd, take_fd2, stq_get, stq_set, stq_len, stq_app, stq_top, stq_take, stq_take2, eqOk_str, eqv_str, eqOk_int, eqv_int, eqOk_bool, eqv_bool, it_seq, it_r1, it_r2, it_el, it_et, it_zip, it_rev, q_seqD1, q_seqD2, q_seqD3, List.map_cons, List.map_nil, List.length_cons, List.length_nil, List.replicate_succ, List.replicate_zero, List.append_nil, List.nil_append, List.cons_append, List.getElem?_cons_zero, List.getElem?_cons_succ, List.getElem?_nil, List.set_cons_zero, List.set_cons_succ, Option.map_some, Option.map_none, if_true, if_false, ite_true, ite_false, reduceIte, Bool.not_true, Bool.not_false, Bool.false_eq_true, decide_true, decide_false, Bool.and_true, Bool.true_and, Bool.and_false, Bool.false_and, b30, e0, hw.1, so_any, k, cl_nil, z0, eqvNil, List.isEmpty_nil]
  | .un u, n, st, g => absurd (show false = true from g.2.2) (by decide)
  | .bin u v, n, st, g => by
    have gu := g.sp.1
    have gv := g.sp.2
    have e0 : ∀ st, callF FT (n + max u.tall v.tall + 1) 17 [.d (.tuple [.str (Str.ofString "arrow"), encK u, encK v])] st = .ok (.d (.tuple [encK u, encK v])) st := fun st => by rw [c_lparts, p3_arr]; rfl
    have eu : ∀ st, callF FT (n + max u.tall v.tall + 1) 30 [.d (encK u)] st = .ok (.d (.bool (!u.all noAny))) st := fun st => by
      have := c_hasany u (n + max u.tall v.tall - u.tall) st gu
      rwa [show n + max u.tall v.tall - u.tall + u.tall + 1 = n + max u.tall v.tall + 1 by omega] at this
    have ev : ∀ st, callF FT (n + max u.tall v.tall + 1) 30 [.d (encK v)] st = .ok (.d (.bool (!v.all noAny))) st := fun st => by
      have := c_hasany v (n + max u.tall v.tall - v.tall) st gv
      rwa [show n + max u.tall v.tall - v.tall + v.tall + 1 = n + max u.tall v.tall + 1 by omega] at this
    have el : (!(Tr.bin u v).all noAny) = (!(u.all noAny && v.all noAny)) := rfl
    rw [el, show n + (Tr.bin u v).tall + 1 = n + max u.tall v.tall + 1 + 1 from rfl, cf ft30, encK]
    cases k1 : u.all noAny <;> cases k2 : v.all noAny <;>
      simp only [lineOk4, lineOk5, lineOk6, lineOk7, lineOk8, lineOk9, lineOk10, lineOk11, lineOk12, lineOk13, lineOk14, lineOk15, lineOk16, lineOk17, lineOk18, lineOk19, lineOk20, lineOk21, lineOk22, lineOk23, lineOk24, lineOk25, lineOk26, lineOk27, lineOk28, lineOk29, lineOk30, lineOk31, lineOk32, lineOk33, lineOk34, lineOk35, lineOk36, lineOk37, lineOk38, lineOk39, lineOk40, nc0, nc1, nc2, nc3, nc4, lineOk0, lineOk1, lineOk2, lineOk3, Nat.reduceAdd, Nat.reduceSub, Int.reduceLT, Int.reduceLE, Int.reduceBEq, Int.reduceEq, Int.reduceAdd, Int.reduceSub, Int.reduceNeg, atI_0, atI_1, atI_2, atI_3, cut_1, cut_to1, eq_self, Option.bind_some, rb_ok, rb_exc, rb_bad, ro_ok, ro_exc, ro_bad, sq_nx, sq_rt, sq_bk, sq_ct, q_vgo1, q_vgo2, q_vgo3, q_pfin1, q_pfin2, q_pgo1, q_pgo2, q_cellD1, q_cellD2, q_cons21, q_cons22, q_cons23, q_tfin1, q_tfin2, q_tgo1, q_tgo2, q_isCell1, q_isCell2, q_appGo1, q_appGo2, q_extGo1, q_extGo2, q_popFin1, q_popFin2, q_popGo1, q_popGo2, q_newGo1, q_newGo2, q_setFin1, q_setFin2, q_setGo1, q_setGo2, q_chn1, q_chn2, q_compGo1, q_compGo2, q_ckGo1, q_ckGo2, e_var, e_glob, e_lit, e_pr, e_new, e_act0, e_act1, e_and, e_or, e_not, e_ite, e_chain, e_call, e_callk, e_comp, es_nil, es_cons, an_one, an_more, or_one, or_more, e_T, prim_eq, argsD, holds, deref_d, deref_loc, derefs_nil, derefs_cons, dsOf_nil, dsOf_cons, tru_eq, q_truD1, q_truD2, q_truD3, q_truD4, q_truD5, q_truD6, q_truD7, isLst_loc, do_app, do_ext, do_pop, new_eq, set_eq, p_tup, p_lst, p_add, p_sub, p_mul, p_fdiv, p_mod, p_pow, p_lt, p_le, p_gt, p_ge, p_max, p_min, p_eq, p_ne, p_in, p_nin, p_ix, p_slTo, p_slFrom, p_slB, p_neg, p_len, p_int, p_sum, p_all, p_tupL, p_tupT, p_lstL, p_lstT, p_isi, p_isN, p_notN, isin_ch, isin_tup, isin_list, isTy, q_addD1, q_addD2, q_addD3, q_addD4, q_ixD1, q_ixD2, q_ixD3, q_slD1, q_slD2, q_lenD1, q_lenD2, q_lenD3, q_ugo1, q_ugo2, q_sgo1, q_sgo2, q_agoF1, q_agoF2, q_ago1, q_ago2, q_ago3, aug_add, aug_sub, q_fgo1, q_fgo2, s_asg', s_unp', s_par', s_par3', s_setix', s_aug', s_ex', s_ite', s_for', s_while', s_ret', ss_nil', ss_cons', asg_one, asg_many, setMany, pk_d, fin_rt, fin_nx, fin_ex, nx_ok, pick_nil, pick_cons, startR, get_top, set_top, take_top, take_own, take_fd, take_fd2, stq_get, stq_set, stq_len, stq_app, stq_top, stq_take, stq_take2, eqOk_str, eqv_str, eqOk_int, eqv_int, eqOk_bool, eqv_bool, it_seq, it_r1, it_r2, it_el, it_et, it_zip, it_rev, q_seqD1, q_seqD2, q_seqD3, List.map_cons, List.map_nil, List.length_cons, List.length_nil, List.replicate_succ, List.replicate_zero, List.append_nil, List.nil_append, List.cons_append, List.getElem?_cons_zero, List.getElem?_cons_succ, List.getElem?_nil, List.set_cons_zero, List.set_cons_succ, Option.map_some, Option.map_none, if_true, if_false, ite_true, ite_false, reduceIte, Bool.not_true, Bool.not_false, Bool.false_eq_true, decide_true, decide_false, Bool.and_true, Bool.true_and, Bool.and_false, Bool.false_and, b30, sArr, e0, eu, ev, k1, k2, so_arrow, so_any, arr_any, cl_nil, cl_cons, compF_one, wipeR, yld_d, q_cStep1, q_cEnd1, q_cEnd2, z0, z1, z2, eqvNil, List.isEmpty_nil, List.isEmpty_cons]
theorem all_kind : ∀ {t : Tr}, t.all tagOk = true → t.flat = true → t.all kindNode = t.all noAny
  | .leaf x, h, _ => by
    have h : tagOk x = true := h
    show kindNode x = !anyL x
    unfold tagOk at h
    split at h
    · rename_i w r
      rw [Bool.and_eq_true] at h
      exact beq_iff_eq.mp h.2
    · cases h
  | .un _, _, h => absurd (show false = true from h) (by decide)
  | .bin a b, h, h' => by
    have h : (a.all tagOk && b.all tagOk) = true := h
    have h' : (a.flat && b.flat) = true := h'
    rw [Bool.and_eq_true] at h h'
    show (a.all kindNode && b.all kindNode) = (a.all noAny && b.all noAny)
    rw [all_kind h.1 h'.1, all_kind h.2 h'.2]
theorem okK_is {t : Tr} (g : GoodK t) : okK t = (okL t && t.all noAny) := by
  unfold okK okL
  rw [all_kind g.2.1.2 g.2.2, g.2.1.1, Bool.true_and, Bool.and_comm]
theorem okL_fit {t : Tr} (g : GoodK t) : okL t = (decide (t.size ≤ 200) && decide (t.tall ≤ 20)) := by
  unfold okL
  rw [g.2.1.1, Bool.true_and]
theorem okL_bad {t : Tr} (h : t.all looseNode = false) : okL t = false := by unfold okL; rw [h]; rfl
def fbodyk : Ss := (.cons (.ite (.or (.cons (.not (.call 15 (.cons (.call 10 (.cons (.var 5) .nil)) (.cons (.var 6) .nil)))) (.cons (.not (.call 15 (.cons (.callk 1 10 [0] (.cons (.var 5) .nil)) (.cons (.var 6) .nil)))) .nil))) (.cons (.ret (.lit (.bool false)))
    .nil) .nil)
    (.cons (.ite (.not (.call 15 (.cons (.call 11 (.cons (.var 5) .nil)) (.cons (.and (.cons (.var 6) (.cons (.not (.call 30 (.cons (.var 5) .nil))) .nil))) .nil)))) (.cons (.ret (.lit (.bool false)))
    .nil) .nil)
    (.cons (.ite (.not (.call 15 (.cons (.call 10 (.cons (.call 18 (.cons (.var 0) (.cons (.var 5) (.cons (.call 29 (.cons (.var 0) (.cons (.var 1) .nil))) (.cons (.lit (.int 30)) .nil))))) .nil)) (.cons (.lit (.bool false)) .nil)))) (.cons (.ret (.lit (.bool false)))
    .nil) .nil)
    .nil)))
theorem kinds_it (n m : Nat) (a b c : Int) (pre rest : Sto) (x0 : PyData) (h0 : GLK x0) (t : Tr) (due : Bool) (o2 o3 o4 o5 o6 : Option W) (g : GoodK t) (hd : okL t = due) (ht : t.tall ≤ 80) (f : FdOk m a b c) (hm : m ≤ 800000) :
    ∃ a' b' c', forF (callF FT (n + 89)) (.many [5, 6]) fbodyk (.tuple [encK t, .bool due]) [some (.loc pre.length), some (.d x0), o2, o3, o4, o5, o6] (stq pre (fdc a b c) rest) =
      .nx [some (.loc pre.length), some (.d x0), o2, o3, o4, some (.d (encK t)), some (.d (.bool due))] (stq pre (fdc a' b' c') rest) ∧ FdOk (m + 200) a' b' c' := by
  have e1 : ∀ st, callF FT (n + 89) 10 [.d (encK t)] st = .ok (.d (.bool (okL t))) st := fun st => c_loose (n + 84) t st g.1 g.2.2
  have e5 : ∀ st, callF FT (n + 89) 11 [.d (encK t)] st = .ok (.d (.bool (okK t))) st := fun st => c_kind (n + 84) t st g.1 g.2.2
  have e6 : ∀ st, callF FT (n + 89) 30 [.d (encK t)] st = .ok (.d (.bool (!t.all noAny))) st := fun st => by
    have := c_hasany t (n + 88 - t.tall) st g
    rwa [show n + 88 - t.tall + t.tall + 1 = n + 89 by omega] at this
  obtain ⟨y, a1, b1, c1, e2, f1, hy⟩ := c_nokind (n + 86) m a b c pre rest x0 h0 f (by omega)
  have e2 : callF FT (n + 89) 29 [.loc pre.length, .d x0] (stq pre (fdc a b c) rest) = _ := e2
  obtain ⟨_, a2, b2, c2, e3, f2, t', rfl, g2, h2, l2⟩ := c_swapk y hy t (n + 87 - t.tall) (m + 1) 30 a1 b1 c1 pre rest g f1 (by omega) (by decide)
  rw [show n + 87 - t.tall + t.tall + 2 = n + 89 by omega] at e3
  have e3 : callF FT (n + 89) 18 [.loc pre.length, .d (encK t), .d y, .d (.int 30)] (stq pre (fdc a1 b1 c1) rest) = _ := e3
  have e4 : ∀ st, callF FT (n + 89) 10 [.d (encK t')] st = .ok (.d (.bool (okL t'))) st := fun st => c_loose (n + 84) t' st g2 l2
  refine ⟨a2, b2, c2, ?_, ⟨f2.a0, f2.b0, f2.b1, f2.c0, by have := f2.c1; omega⟩⟩
  rw [forF_many _ _ _ _ _ _ rfl]
  have ek := okK_is g
  rw [hd] at ek
  cases due
  · rw [Bool.false_and] at ek
    simp only [lineOk4, lineOk5, lineOk6, lineOk7, lineOk8, lineOk9, lineOk10, lineOk11, lineOk12, lineOk13, lineOk14, lineOk15, lineOk16, lineOk17, lineOk18, lineOk19, lineOk20, lineOk21, lineOk22, lineOk23, lineOk24, lineOk25, lineOk26, lineOk27, lineOk28, lineOk29, lineOk30, lineOk31, lineOk32, lineOk33, lineOk34, lineOk35, lineOk36, lineOk37, lineOk38, lineOk39, lineOk40, nc0, nc1, nc2, nc3, nc4, lineOk0, lineOk1, lineOk2, lineOk3, Nat.reduceAdd, Nat.reduceSub, Int.reduceLT, Int.reduceLE, Int.reduceBEq, Int.reduceEq, Int.reduceAdd, Int.reduceSub, Int.reduceNeg, atI_0, atI_1, atI_2, atI_3, cut_1, cut_to1, eq_self, Option.bind_some, rb_ok, rb_exc, rb_bad, ro_ok, ro_exc, ro_bad, sq_nx, sq_rt, sq_bk, sq_ct, q_vgo1, q_vgo2, q_vgo3, q_pfin1, q_pfin2, q_pgo1, q_pgo2, q_cellD1, q_cellD2, q_cons21, q_cons22, q_cons23, q_tfin1, q_tfin2, q_tgo1, q_tgo2, q_isCell1, q_isCell2, q_appGo1, q_appGo2, q_extGo1, q_extGo2, q_popFin1, q_popFin2, q_popGo1, q_popGo2, q_newGo1, q_newGo2, q_setFin1, q_setFin2, q_setGo1, q_setGo2, q_chn1, q_chn2, q_compGo1, q_compGo2, q_ckGo1, q_ckGo2, e_var, e_glob, e_lit, e_pr, e_new, e_act0, e_act1, e_and, e_or, e_not, e_ite, e_chain, e_call, e_callk, e_comp, es_nil, es_cons, an_one, an_more, or_one, or_more, e_T, prim_eq, argsD, holds, deref_d, deref_loc, derefs_nil, derefs_cons, dsOf_nil, dsOf_cons, tru_eq, q_truD1, q_truD2, q_truD3, q_truD4, q_truD5, q_truD6, q_truD7, isLst_loc, do_app, do_ext, do_pop, new_eq, set_eq, p_tup, p_lst, p_add, p_sub, p_mul, p_fdiv, p_mod, p_pow, p_lt, p_le, p_gt, p_ge, p_max, p_min, p_eq, p_ne, p_in, p_nin, p_ix, p_slTo, p_slFrom, p_slB, p_neg, p_len, p_int, p_sum, p_all, p_tupL, p_tupT, p_lstL, p_lstT, p_isi, p_isN, p_notN, isin_ch, isin_tup, isin_list, isTy, q_addD1, q_addD2, q_addD3, q_addD4, q_ixD1, q_ixD2, q_ixD3, q_slD1, q_slD2, q_lenD1, q_lenD2, q_lenD3, q_ugo1, q_ugo2, q_sgo1, q_sgo2, q_agoF1, q_agoF2, q_ago1, q_ago2, q_ago3, aug_add, aug_sub, q_fgo1, q_fgo2, s_asg', s_unp', s_par', s_par3', s_setix', s_aug', s_ex', s_ite', s_for', s_while', s_ret', ss_nil', ss_cons', asg_one, asg_many, setMany, pk_d, fin_rt, fin_nx, fin_ex, nx_ok, pick_nil, pick_cons, startR, get_top, set_top, take_top, take_own, take_fd, take_fd2, stq_get, stq_set, stq_len, stq_app, stq_top, stq_take, stq_take2, eqOk_str, eqv_str, eqOk_int, eqv_int, eqOk_bool, eqv_bool, it_seq, it_r1, it_r2, it_el, it_et, it_zip, it_rev, q_seqD1, q_seqD2, q_seqD3, List.map_cons, List.map_nil, List.length_cons, List.length_nil, List.replicate_succ, List.replicate_zero, List.append_nil, List.nil_append, List.cons_append, List.getElem?_cons_zero, List.getElem?_cons_succ, List.getElem?_nil, List.set_cons_zero, List.set_cons_succ, Option.map_some, Option.map_none, if_true, if_false, ite_true, ite_false, reduceIte, Bool.not_true, Bool.not_false, Bool.false_eq_true, decide_true, decide_false, Bool.and_true, Bool.true_and, Bool.and_false, Bool.false_and, fbodyk, e1, e2, e3, e4, e5, e6, okL_bad h2, hd, ek, c_is', beq_self_eq_true]
  · rw [Bool.true_and] at ek
    simp only [lineOk4, lineOk5, lineOk6, lineOk7, lineOk8, lineOk9, lineOk10, lineOk11, lineOk12, lineOk13, lineOk14, lineOk15, lineOk16, lineOk17, lineOk18, lineOk19, lineOk20, lineOk21, lineOk22, lineOk23, lineOk24, lineOk25, lineOk26, lineOk27, lineOk28, lineOk29, lineOk30, lineOk31, lineOk32, lineOk33, lineOk34, lineOk35, lineOk36, lineOk37, lineOk38, lineOk39, lineOk40, nc0, nc1, nc2, nc3, nc4, lineOk0, lineOk1, lineOk2, lineOk3, Nat.reduceAdd, Nat.reduceSub, Int.reduceLT, Int.reduceLE, Int.reduceBEq, Int.reduceEq, Int.reduceAdd, Int.reduceSub, Int.reduceNeg, atI_0, atI_1, atI_2, atI_3, cut_1, cut_to1, eq_self, Option.bind_some, rb_ok, rb_exc, rb_bad, ro_ok, ro_exc, ro_bad, sq_nx, sq_rt, sq_bk, sq_ct, q_vgo1, q_vgo2, q_vgo3, q_pfin1, q_pfin2, q_pgo1, q_pgo2, q_cellD1, q_cellD2, q_cons21, q_cons22, q_cons23, q_tfin1, q_tfin2, q_tgo1, q_tgo2, q_isCell1, q_isCell2, q_appGo1, q_appGo2, q_extGo1, q_extGo2, q_popFin1, q_popFin2, q_popGo1, q_popGo2, q_newGo1, q_newGo2, q_setFin1, q_setFin2, q_setGo1, q_setGo2, q_chn1, q_chn2, q_compGo1, q_compGo2, q_ckGo1, q_ckGo2, e_var, e_glob, e_lit, e_pr, e_new, e_act0, e_act1, e_and, e_or, e_not, e_ite, e_chain, e_call, e_callk, e_comp, es_nil, es_cons, an_one, an_more, or_one, or_more, e_T, prim_eq, argsD, holds, deref_d, deref_loc, derefs_nil, derefs_cons, dsOf_nil, dsOf_cons, tru_eq, q_truD1, q_truD2, q_truD3, q_truD4, q_truD5, q_truD6, q_truD7, isLst_loc, do_app, do_ext, do_pop, new_eq, set_eq, p_tup, p_lst, p_add, p_sub, p_mul, p_fdiv, p_mod, p_pow, p_lt, p_le, p_gt, p_ge, p_max, p_min, p_eq, p_ne, p_in, p_nin, p_ix, p_slTo, p_slFrom, p_slB, p_neg, p_len, p_int, p_sum, p_all, p_tupL, p_tupT, p_lstL, p_lstT, p_isi, p_isN, p_notN, isin_ch, isin_tup, isin_list, isTy, q_addD1, q_addD2, q_addD3, q_addD4, q_ixD1, q_ixD2, q_ixD3, q_slD1, q_slD2, q_lenD1, q_lenD2, q_lenD3, q_ugo1, q_ugo2, q_sgo1, q_sgo2, q_agoF1, q_agoF2, q_ago1, q_ago2, q_ago3, aug_add, aug_sub, q_fgo1, q_fgo2, s_asg', s_unp', s_par', s_par3', s_setix', s_aug', s_ex', s_ite', s_for', s_while', s_ret', ss_nil', ss_cons', asg_one, asg_many, setMany, pk_d, fin_rt, fin_nx, fin_ex, nx_ok, pick_nil, pick_cons, startR, get_top, set_top, take_top, take_own, take_fd, take_fd2, stq_get, stq_set, stq_len, stq_app, stq_top, stq_take, stq_take2, eqOk_str, eqv_str, eqOk_int, eqv_int, eqOk_bool, eqv_bool, it_seq, it_r1, it_r2, it_el, it_et, it_zip, it_rev, q_seqD1, q_seqD2, q_seqD3, List.map_cons, List.map_nil, List.length_cons, List.length_nil, List.replicate_succ, List.replicate_zero, List.append_nil, List.nil_append, List.cons_append, List.getElem?_cons_zero, List.getElem?_cons_succ, List.getElem?_nil, List.set_cons_zero, List.set_cons_succ, Option.map_some, Option.map_none, if_true, if_false, ite_true, ite_false, reduceIte, Bool.not_true, Bool.not_false, Bool.false_eq_true, decide_true, decide_false, Bool.and_true, Bool.true_and, Bool.and_false, Bool.false_and, fbodyk, e1, e2, e3, e4, e5, e6, okL_bad h2, hd, ek, c_is', beq_self_eq_true, Bool.not_not]
theorem c_kinds (n m : Nat) (a b c : Int) (pre rest : Sto) (f : FdOk m a b c) (hm : m ≤ 600000) :
    Draws (callF FT (n + 90) 31 [.loc pre.length] (stq pre (fdc a b c) rest)) (m + 2000) pre rest fun x => x = .bool true := by
  obtain ⟨x0, a1, b1, c1, e1, f1, h0⟩ := c_lleaf (n + 85) m a b c pre rest f (by omega)
  have e1 : callF FT (n + 89) 25 [.loc pre.length] (stq pre (fdc a b c) rest) = _ := e1
  obtain ⟨_, a2, b2, c2, e2, f2, r, rfl, hr⟩ := c_draw (n + 88) 2 (m + 15) a1 b1 c1 pre rest f1 (by omega) (by decide) (by decide)
  have e2 : callF FT (n + 89) 13 [.loc pre.length, .d (.int 2)] (stq pre (fdc a1 b1 c1) rest) = _ := e2
  obtain ⟨_, a3, b3, c3, e3, f3, q, rfl, hq⟩ := c_draw (n + 88) 3 (m + 15 + 1) a2 b2 c2 pre rest f2 (by omega) (by decide) (by decide)
  have e3 : callF FT (n + 89) 13 [.loc pre.length, .d (.int 3)] (stq pre (fdc a2 b2 c2) rest) = _ := e3
  obtain ⟨_, a4, b4, c4, e4, f4, p, rfl, hp⟩ := c_draw (n + 88) 6 (m + 15 + 1 + 1) a3 b3 c3 pre rest f3 (by omega) (by decide) (by decide)
  have e4 : callF FT (n + 89) 13 [.loc pre.length, .d (.int 6)] (stq pre (fdc a3 b3 c3) rest) = _ := e4
  have p6 : 2 ^ p ≤ 32 := Nat.pow_le_pow_right (n := 2) (j := 5) (by decide) (by omega)
  obtain ⟨_, a5, b5, c5, e5, f5, t1, rfl, g1, l1⟩ := c_smallk (n + 84 - p) pre rest p (m + 18) a4 b4 c4 f4 (by omega)
  rw [show n + 84 - p + p + 5 = n + 89 by omega] at e5
  have s1 : (100 : Int) + (r : Int) = ((100 + r : Nat) : Int) := by omega
  have s2 : (19 : Int) + (q : Int) = ((19 + q : Nat) : Int) := by omega
  obtain ⟨t2, e6, g2, z2, l2⟩ := c_flatk (n + 81) x0 h0 7 (100 + r) (stq pre (fdc a5 b5 c5) rest) (by omega) (by omega)
  have e6 : callF FT (n + 89) 27 [.d x0, .d (.int ((100 + r : Nat) : Int))] (stq pre (fdc a5 b5 c5) rest) = _ := e6
  obtain ⟨_, a7, b7, c7, e7, f7, t3, rfl, g3, l3, z3⟩ := c_think (n + 86) (m + 18 + (17 * 2 ^ p - 1)) (19 + q) a5 b5 c5 pre rest x0 h0 f5 (by omega) (by omega) (by omega)
  have e7 : callF FT (n + 89) 28 [.loc pre.length, .d x0, .d (.int ((19 + q : Nat) : Int))] (stq pre (fdc a5 b5 c5) rest) = _ := e7
  have d2 : decide (((100 + r : Nat) : Int) < 101) = decide (100 + r < 101) := decide_eq_decide.mpr (by omega)
  have d3 : decide (((19 + q : Nat) : Int) < 21) = decide (19 + q < 21) := decide_eq_decide.mpr (by omega)
  have k1 : okL t1 = true := by
    have := t1.size_lt
    have h64 : 2 ^ t1.tall ≤ 64 := Nat.pow_le_pow_right (n := 2) (j := 6) (by decide) (by omega)
    rw [okL_fit g1, decide_eq_true (by omega), decide_eq_true (by omega)]
    rfl
  have k2 : okL t2 = decide (100 + r < 101) := by
    rw [okL_fit g2, decide_eq_true (p := t2.tall ≤ 20) (by omega), Bool.and_true]
    exact decide_eq_decide.mpr (by omega)
  have k3 : okL t3 = decide (19 + q < 21) := by
    rw [okL_fit g3, decide_eq_true (p := t3.size ≤ 200) (by omega), l3, Bool.true_and]
    exact decide_eq_decide.mpr (by omega)
  obtain ⟨a8, b8, c8, i1, f8⟩ := kinds_it n (m + 18 + (17 * 2 ^ p - 1) + (19 + q)) a7 b7 c7 pre rest x0 h0 t1 true (some (.d (.int ((100 + r : Nat) : Int)))) (some (.d (.int ((19 + q : Nat) : Int))))
    (some (.d (.list [.tuple [encK t1, .bool true], .tuple [encK t2, .bool (decide (100 + r < 101))], .tuple [encK t3, .bool (decide (19 + q < 21))]]))) none none g1 k1 (by omega) f7 (by omega)
  obtain ⟨a9, b9, c9, i2, f9⟩ := kinds_it n _ a8 b8 c8 pre rest x0 h0 t2 _ (some (.d (.int ((100 + r : Nat) : Int)))) (some (.d (.int ((19 + q : Nat) : Int))))
    (some (.d (.list [.tuple [encK t1, .bool true], .tuple [encK t2, .bool (decide (100 + r < 101))], .tuple [encK t3, .bool (decide (19 + q < 21))]]))) (some (.d (encK t1))) (some (.d (.bool true))) g2 k2 (by omega) f8 (by omega)
  obtain ⟨a10, b10, c10, i3, f10⟩ := kinds_it n _ a9 b9 c9 pre rest x0 h0 t3 _ (some (.d (.int ((100 + r : Nat) : Int)))) (some (.d (.int ((19 + q : Nat) : Int))))
    (some (.d (.list [.tuple [encK t1, .bool true], .tuple [encK t2, .bool (decide (100 + r < 101))], .tuple [encK t3, .bool (decide (19 + q < 21))]]))) (some (.d (encK t2))) (some (.d (.bool (decide (100 + r < 101))))) g3 k3 (by omega) f9 (by omega)
  unfold fbodyk at i1 i2 i3
  rw [show n + 90 = n + 89 + 1 from rfl, cf ft31]
  simp only [lineOk4, lineOk5, lineOk6, lineOk7, lineOk8, lineOk9, lineOk10, lineOk11, lineOk12, lineOk13, lineOk14, lineOk15, lineOk16, lineOk17, lineOk18, lineOk19, lineOk20, lineOk21, lineOk22, lineOk23, lineOk24, lineOk25, lineOk26, lineOk27, lineOk28, lineOk29, lineOk30, lineOk31, lineOk32, lineOk33, lineOk34, lineOk35, lineOk36, lineOk37, lineOk38, lineOk39, lineOk40, nc0, nc1, nc2, nc3, nc4, lineOk0, lineOk1, lineOk2, lineOk3, Nat.reduceAdd, Nat.reduceSub, Int.reduceLT, Int.reduceLE, Int.reduceBEq, Int.reduceEq, Int.reduceAdd, Int.reduceSub, Int.reduceNeg, atI_0, atI_1, atI_2, atI_3, cut_1, cut_to1, eq_self, Option.bind_some, rb_ok, rb_exc, rb_bad, ro_ok, ro_exc, ro_bad, sq_nx, sq_rt, sq_bk, sq_ct, q_vgo1, q_vgo2, q_vgo3, q_pfin1, q_pfin2, q_pgo1, q_pgo2, q_cellD1, q_cellD2, q_cons21, q_cons22, q_cons23, q_tfin1, q_tfin2, q_tgo1, q_tgo2, q_isCell1, q_isCell2, q_appGo1, q_appGo2, q_extGo1, q_extGo2, q_popFin1, q_popFin2, q_popGo1, q_popGo2, q_newGo1, q_newGo2, q_setFin1, q_setFin2, q_setGo1, q_setGo2, q_chn1, q_chn2, q_compGo1, q_compGo2, q_ckGo1, q_ckGo2, e_var, e_glob, e_lit, e_pr, e_new, e_act0, e_act1, e_and, e_or, e_not, e_ite, e_chain, e_call, e_callk, e_comp, es_nil, es_cons, an_one, an_more, or_one, or_more, e_T, prim_eq, argsD, holds, deref_d, deref_loc, derefs_nil, derefs_cons, dsOf_nil, dsOf_cons, tru_eq, q_truD1, q_truD2, q_truD3, q_truD4, q_truD5, q_truD6, q_truD7, isLst_loc, do_app, do_ext, do_pop, new_eq, set_eq, p_tup, p_lst, p_add, p_sub, p_mul, p_fdiv, p_mod, p_pow, p_lt, p_le, p_gt, p_ge, p_max, p_min, p_eq, p_ne, p_in, p_nin, p_ix, p_slTo, p_slFrom, p_slB, p_neg, p_len, p_int, p_sum, p_all, p_tupL, p_tupT, p_lstL, p_lstT, p_isi, p_isN, p_notN, isin_ch, isin_tup, isin_list, isTy, q_addD1, q_addD2, q_addD3, q_addD4, q_ixD1, q_ixD2, q_ixD3, q_slD1, q_slD2, q_lenD1, q_lenD2, q_lenD3, q_ugo1, q_ugo2, q_sgo1, q_sgo2, q_agoF1, q_agoF2, q_ago1, q_ago2, q_ago3, aug_add, aug_sub, q_fgo1, q_fgo2, s_asg', s_unp', s_par', s_par3', s_setix', s_aug', s_ex', s_ite', s_for', s_while', s_ret', ss_nil', ss_cons', asg_one, asg_many, setMany, pk_d, fin_rt, fin_nx, fin_ex, nx_ok, pick_nil, pick_cons, startR, get_top, set_top, take_top, take_own, take_fd, take_fd2, stq_get, stq_set, stq_len, stq_app, stq_top, stq_take, stq_take2, eqOk_str, eqv_str, eqOk_int, eqv_int, eqOk_bool, eqv_bool, it_seq, it_r1, it_r2, it_el, it_et, it_zip, it_rev, q_seqD1, q_seqD2, q_seqD3, List.map_cons, List.map_nil, List.length_cons, List.length_nil, List.replicate_succ, List.replicate_zero, List.append_nil, List.nil_append, List.cons_append, List.getElem?_cons_zero, List.getElem?_cons_succ, List.getElem?_nil, List.set_cons_zero, List.set_cons_succ, Option.map_some, Option.map_none, if_true, if_false, ite_true, ite_false, reduceIte, Bool.not_true, Bool.not_false, Bool.false_eq_true, decide_true, decide_false, Bool.and_true, Bool.true_and, Bool.and_false, Bool.false_and, b31, e1, e2, e3, s1, s2, e4, e5, e6, e7, d2, d3, forL_cons, forL_nil, i1, i2, i3, q_fstep1]
  exact ⟨_, _, _, _, rfl, ⟨f10.a0, f10.b0, f10.b1, f10.c0, by have := f10.c1; omega⟩, rfl⟩
/-! ### the law -/
theorem sum_ints : ∀ l : List Int, sumD (l.map PyData.int) = some l.sum
  | [] => rfl
  | x :: l => by simp [sumD, sum_ints l]
theorem pk_new (st : Sto) (c : Cell) : packR true st.length (.loc st.length) (st ++ [c]) = .ok (.loc st.length) (st ++ [c]) := by
  unfold packR
  dsimp only
  rw [if_neg (Nat.lt_irrefl _), get_top]
  cases c
  simp
theorem c_feed (n k : Nat) (ns : List Int) (pre : Sto) : ∃ a b, callF FT (n + 1) 12 [.d (.list (ns.map PyData.int)), .d (.int k)] pre = .ok (.loc pre.length) (stq pre (fdc a b 0) []) ∧ FdOk 0 a b 0 := by
  have m1 : mulOk 1409 (k : Int) = true := mulOk_l (by decide) (by decide)
  have m2 : ∀ s, mulOk 5 s = true := fun s => mulOk_l (by decide) (by decide)
  have m3 : ∀ s, mulOk s 41 = true := fun s => mulOk_r (by decide) (by decide)
  have m4 : mulOk 23 (k : Int) = true := mulOk_l (by decide) (by decide)
  have ct := cut_to (ns.map PyData.int) 3
  rw [← List.map_take, nc3] at ct
  have fin : ∀ cell : Int, FdOk 0 (if cell - 1000000000000000000 > 0 then cell - 1000000000000000000 else 0) ((cell * 41 + 23 * (k : Int) + 3) % 10000000000000000000000000000000000000121) 0 := fun cell => by
    refine ⟨?_, Int.emod_nonneg _ (by decide), Int.lt_trans (Int.emod_lt_of_pos _ (by decide)) (by decide), Int.le_refl _, Int.le_refl _⟩
    split
    · omega
    · exact Int.le_refl _
  rw [cf ft12]
  by_cases h : k < ns.length
  · have dk : decide ((k : Int) < (ns.length : Int)) = true := decide_eq_true (by omega)
    have g : (ns.map PyData.int)[k]? = some (.int ns[k]) := by rw [List.getElem?_map, List.getElem?_eq_getElem h]; rfl
    simp only [lineOk4, lineOk5, lineOk6, lineOk7, lineOk8, lineOk9, lineOk10, lineOk11, lineOk12, lineOk13, lineOk14, lineOk15, lineOk16, lineOk17, lineOk18, lineOk19, lineOk20, lineOk21, lineOk22, lineOk23, lineOk24, lineOk25, lineOk26, lineOk27, lineOk28, lineOk29, lineOk30, lineOk31, lineOk32, lineOk33, lineOk34, lineOk35, lineOk36, lineOk37, lineOk38, lineOk39, lineOk40, nc0, nc1, nc2, nc3, nc4, lineOk0, lineOk1, lineOk2, lineOk3, Nat.reduceAdd, Nat.reduceSub, Int.reduceLT, Int.reduceLE, Int.reduceBEq, Int.reduceEq, Int.reduceAdd, Int.reduceSub, Int.reduceNeg, atI_0, atI_1, atI_2, atI_3, cut_1, cut_to1, eq_self, Option.bind_some, rb_ok, rb_exc, rb_bad, ro_ok, ro_exc, ro_bad, sq_nx, sq_rt, sq_bk, sq_ct, q_vgo1, q_vgo2, q_vgo3, q_pfin1, q_pfin2, q_pgo1, q_pgo2, q_cellD1, q_cellD2, q_cons21, q_cons22, q_cons23, q_tfin1, q_tfin2, q_tgo1, q_tgo2, q_isCell1, q_isCell2, q_appGo1, q_appGo2, q_extGo1, q_extGo2, q_popFin1, q_popFin2, q_popGo1, q_popGo2, q_newGo1, q_newGo2, q_setFin1, q_setFin2, q_setGo1, q_setGo2, q_chn1, q_chn2, q_compGo1, q_compGo2, q_ckGo1, q_ckGo2, e_var, e_glob, e_lit, e_pr, e_new, e_act0, e_act1, e_and, e_or, e_not, e_ite, e_chain, e_call, e_callk, e_comp, es_nil, es_cons, an_one, an_more, or_one, or_more, e_T, prim_eq, argsD, holds, deref_d, deref_loc, derefs_nil, derefs_cons, dsOf_nil, dsOf_cons, tru_eq, q_truD1, q_truD2, q_truD3, q_truD4, q_truD5, q_truD6, q_truD7, isLst_loc, do_app, do_ext, do_pop, new_eq, set_eq, p_tup, p_lst, p_add, p_sub, p_mul, p_fdiv, p_mod, p_pow, p_lt, p_le, p_gt, p_ge, p_max, p_min, p_eq, p_ne, p_in, p_nin, p_ix, p_slTo, p_slFrom, p_slB, p_neg, p_len, p_int, p_sum, p_all, p_tupL, p_tupT, p_lstL, p_lstT, p_isi, p_isN, p_notN, isin_ch, isin_tup, isin_list, isTy, q_addD1, q_addD2, q_addD3, q_addD4, q_ixD1, q_ixD2, q_ixD3, q_slD1, q_slD2, q_lenD1, q_lenD2, q_lenD3, q_ugo1, q_ugo2, q_sgo1, q_sgo2, q_agoF1, q_agoF2, q_ago1, q_ago2, q_ago3, aug_add, aug_sub, q_fgo1, q_fgo2, s_asg', s_unp', s_par', s_par3', s_setix', s_aug', s_ex', s_ite', s_for', s_while', s_ret', ss_nil', ss_cons', asg_one, asg_many, setMany, pk_d, fin_rt, fin_nx, fin_ex, nx_ok, pick_nil, pick_cons, startR, get_top, set_top, take_top, take_own, take_fd, take_fd2, stq_get, stq_set, stq_len, stq_app, stq_top, stq_take, stq_take2, eqOk_str, eqv_str, eqOk_int, eqv_int, eqOk_bool, eqv_bool, it_seq, it_r1, it_r2, it_el, it_et, it_zip, it_rev, q_seqD1, q_seqD2, q_seqD3, List.map_cons, List.map_nil, List.length_cons, List.length_nil, List.replicate_succ, List.replicate_zero, List.append_nil, List.nil_append, List.cons_append, List.getElem?_cons_zero, List.getElem?_cons_succ, List.getElem?_nil, List.set_cons_zero, List.set_cons_succ, Option.map_some, Option.map_none, if_true, if_false, ite_true, ite_false, reduceIte, Bool.not_true, Bool.not_false, Bool.false_eq_true, decide_true, decide_false, Bool.and_true, Bool.true_and, Bool.and_false, Bool.false_and, b12, m1, m2, m3, m4, ct, sum_ints, dk, List.length_map, atI_n, g, pow_18, pow_40, ten_18, ten_40, dpos_40, pk_new]
    exact ⟨_, _, rfl, fin _⟩
  · have dk : decide ((k : Int) < (ns.length : Int)) = false := decide_eq_false (by omega)
    simp only [lineOk4, lineOk5, lineOk6, lineOk7, lineOk8, lineOk9, lineOk10, lineOk11, lineOk12, lineOk13, lineOk14, lineOk15, lineOk16, lineOk17, lineOk18, lineOk19, lineOk20, lineOk21, lineOk22, lineOk23, lineOk24, lineOk25, lineOk26, lineOk27, lineOk28, lineOk29, lineOk30, lineOk31, lineOk32, lineOk33, lineOk34, lineOk35, lineOk36, lineOk37, lineOk38, lineOk39, lineOk40, nc0, nc1, nc2, nc3, nc4, lineOk0, lineOk1, lineOk2, lineOk3, Nat.reduceAdd, Nat.reduceSub, Int.reduceLT, Int.reduceLE, Int.reduceBEq, Int.reduceEq, Int.reduceAdd, Int.reduceSub, Int.reduceNeg, atI_0, atI_1, atI_2, atI_3, cut_1, cut_to1, eq_self, Option.bind_some, rb_ok, rb_exc, rb_bad, ro_ok, ro_exc, ro_bad, sq_nx, sq_rt, sq_bk, sq_ct, q_vgo1, q_vgo2, q_vgo3, q_pfin1, q_pfin2, q_pgo1, q_pgo2, q_cellD1, q_cellD2, q_cons21, q_cons22, q_cons23, q_tfin1, q_tfin2, q_tgo1, q_tgo2, q_isCell1, q_isCell2, q_appGo1, q_appGo2, q_extGo1, q_extGo2, q_popFin1, q_popFin2, q_popGo1, q_popGo2, q_newGo1, q_newGo2, q_setFin1, q_setFin2, q_setGo1, q_setGo2, q_chn1, q_chn2, q_compGo1, q_compGo2, q_ckGo1, q_ckGo2, e_var, e_glob, e_lit, e_pr, e_new, e_act0, e_act1, e_and, e_or, e_not, e_ite, e_chain, e_call, e_callk, e_comp, es_nil, es_cons, an_one, an_more, or_one, or_more, e_T, prim_eq, argsD, holds, deref_d, deref_loc, derefs_nil, derefs_cons, dsOf_nil, dsOf_cons, tru_eq, q_truD1, q_truD2, q_truD3, q_truD4, q_truD5, q_truD6, q_truD7, isLst_loc, do_app, do_ext, do_pop, new_eq, set_eq, p_tup, p_lst, p_add, p_sub, p_mul, p_fdiv, p_mod, p_pow, p_lt, p_le, p_gt, p_ge, p_max, p_min, p_eq, p_ne, p_in, p_nin, p_ix, p_slTo, p_slFrom, p_slB, p_neg, p_len, p_int, p_sum, p_all, p_tupL, p_tupT, p_lstL, p_lstT, p_isi, p_isN, p_notN, isin_ch, isin_tup, isin_list, isTy, q_addD1, q_addD2, q_addD3, q_addD4, q_ixD1, q_ixD2, q_ixD3, q_slD1, q_slD2, q_lenD1, q_lenD2, q_lenD3, q_ugo1, q_ugo2, q_sgo1, q_sgo2, q_agoF1, q_agoF2, q_ago1, q_ago2, q_ago3, aug_add, aug_sub, q_fgo1, q_fgo2, s_asg', s_unp', s_par', s_par3', s_setix', s_aug', s_ex', s_ite', s_for', s_while', s_ret', ss_nil', ss_cons', asg_one, asg_many, setMany, pk_d, fin_rt, fin_nx, fin_ex, nx_ok, pick_nil, pick_cons, startR, get_top, set_top, take_top, take_own, take_fd, take_fd2, stq_get, stq_set, stq_len, stq_app, stq_top, stq_take, stq_take2, eqOk_str, eqv_str, eqOk_int, eqv_int, eqOk_bool, eqv_bool, it_seq, it_r1, it_r2, it_el, it_et, it_zip, it_rev, q_seqD1, q_seqD2, q_seqD3, List.map_cons, List.map_nil, List.length_cons, List.length_nil, List.replicate_succ, List.replicate_zero, List.append_nil, List.nil_append, List.cons_append, List.getElem?_cons_zero, List.getElem?_cons_succ, List.getElem?_nil, List.set_cons_zero, List.set_cons_succ, Option.map_some, Option.map_none, if_true, if_false, ite_true, ite_false, reduceIte, Bool.not_true, Bool.not_false, Bool.false_eq_true, decide_true, decide_false, Bool.and_true, Bool.true_and, Bool.and_false, Bool.false_and, b12, m1, m2, m3, m4, ct, sum_ints, dk, List.length_map, pow_18, pow_40, ten_18, ten_40, dpos_40, pk_new]
    exact ⟨_, _, rfl, fin _⟩
def lbody : Ss := (.cons (.asg 2 (.call 12 (.cons (.var 0) (.cons (.var 1) .nil))))
    (.cons (.ite (.or (.cons (.not (.call 24 (.cons (.var 2) .nil))) (.cons (.not (.call 31 (.cons (.var 2) .nil))) .nil))) (.cons (.ret (.lit (.bool false)))
    .nil) .nil)
    .nil))
theorem law_loop (n : Nat) (ns : List Int) : ∀ (xs : List PyData), (∀ x ∈ xs, ∃ k : Nat, x = .int k) → ∀ (pre : Sto) (o1 o2 : Option W),
    ∃ ρ st, forL (forF (callF FT (n + 90)) (.one 1) lbody) xs [some (.d (.list (ns.map PyData.int))), o1, o2] pre = .nx ρ st
  | [], _, pre, o1, o2 => ⟨_, _, rfl⟩
  | x :: xs, hx, pre, o1, o2 => by
    obtain ⟨k, rfl⟩ := hx x (List.mem_cons_self)
    obtain ⟨a, b, e1, f1⟩ := c_feed (n + 89) k ns pre
    have e1 : callF FT (n + 90) 12 _ pre = _ := e1
    obtain ⟨_, a2, b2, c2, e2, f2, rfl⟩ := c_terms n 0 a b 0 pre [] f1 (by decide)
    obtain ⟨_, a3, b3, c3, e3, f3, rfl⟩ := c_kinds n (0 + 2000) a2 b2 c2 pre [] f2 (by decide)
    obtain ⟨ρ, st, e4⟩ := law_loop n ns xs (fun y hy => hx y (List.mem_cons_of_mem _ hy)) (stq pre (fdc a3 b3 c3) []) (some (.d (.int k))) (some (.loc pre.length))
    refine ⟨ρ, st, ?_⟩
    rw [forL_cons, forF_one]
    simp only [lineOk4, lineOk5, lineOk6, lineOk7, lineOk8, lineOk9, lineOk10, lineOk11, lineOk12, lineOk13, lineOk14, lineOk15, lineOk16, lineOk17, lineOk18, lineOk19, lineOk20, lineOk21, lineOk22, lineOk23, lineOk24, lineOk25, lineOk26, lineOk27, lineOk28, lineOk29, lineOk30, lineOk31, lineOk32, lineOk33, lineOk34, lineOk35, lineOk36, lineOk37, lineOk38, lineOk39, lineOk40, nc0, nc1, nc2, nc3, nc4, lineOk0, lineOk1, lineOk2, lineOk3, Nat.reduceAdd, Nat.reduceSub, Int.reduceLT, Int.reduceLE, Int.reduceBEq, Int.reduceEq, Int.reduceAdd, Int.reduceSub, Int.reduceNeg, atI_0, atI_1, atI_2, atI_3, cut_1, cut_to1, eq_self, Option.bind_some, rb_ok, rb_exc, rb_bad, ro_ok, ro_exc, ro_bad, sq_nx, sq_rt, sq_bk, sq_ct, q_vgo1, q_vgo2, q_vgo3, q_pfin1, q_pfin2, q_pgo1, q_pgo2, q_cellD1, q_cellD2, q_cons21, q_cons22, q_cons23, q_tfin1, q_tfin2, q_tgo1, q_tgo2, q_isCell1, q_isCell2, q_appGo1, q_appGo2, q_extGo1, q_extGo2, q_popFin1, q_popFin2, q_popGo1, q_popGo2, q_newGo1, q_newGo2, q_setFin1, q_setFin2, q_setGo1, q_setGo2, q_chn1, q_chn2, q_compGo1, q_compGo2, q_ckGo1, q_ckGo2, e_var, e_glob, e_lit, e_pr, e_new, e_act0, e_act1, e_and, e_or, e_not, e_ite, e_chain, e_call, e_callk, e_comp, es_nil, es_cons, an_one, an_more, or_one, or_more, e_T, prim_eq, argsD, holds, deref_d, deref_loc, derefs_nil, derefs_cons, dsOf_nil, dsOf_cons, tru_eq, q_truD1, q_truD2, q_truD3, q_truD4, q_truD5, q_truD6, q_truD7, isLst_loc, do_app, do_ext, do_pop, new_eq, set_eq, p_tup, p_lst, p_add, p_sub, p_mul, p_fdiv, p_mod, p_pow, p_lt, p_le, p_gt, p_ge, p_max, p_min, p_eq, p_ne, p_in, p_nin, p_ix, p_slTo, p_slFrom, p_slB, p_neg, p_len, p_int, p_sum, p_all, p_tupL, p_tupT, p_lstL, p_lstT, p_isi, p_isN, p_notN, isin_ch, isin_tup, isin_list, isTy, q_addD1, q_addD2, q_addD3, q_addD4, q_ixD1, q_ixD2, q_ixD3, q_slD1, q_slD2, q_lenD1, q_lenD2, q_lenD3, q_ugo1, q_ugo2, q_sgo1, q_sgo2, q_agoF1, q_agoF2, q_ago1, q_ago2, q_ago3, aug_add, aug_sub, q_fgo1, q_fgo2, s_asg', s_unp', s_par', s_par3', s_setix', s_aug', s_ex', s_ite', s_for', s_while', s_ret', ss_nil', ss_cons', asg_one, asg_many, setMany, pk_d, fin_rt, fin_nx, fin_ex, nx_ok, pick_nil, pick_cons, startR, get_top, set_top, take_top, take_own, take_fd, take_fd2, stq_get, stq_set, stq_len, stq_app, stq_top, stq_take, stq_take2, eqOk_str, eqv_str, eqOk_int, eqv_int, eqOk_bool, eqv_bool, it_seq, it_r1, it_r2, it_el, it_et, it_zip, it_rev, q_seqD1, q_seqD2, q_seqD3, List.map_cons, List.map_nil, List.length_cons, List.length_nil, List.replicate_succ, List.replicate_zero, List.append_nil, List.nil_append, List.cons_append, List.getElem?_cons_zero, List.getElem?_cons_succ, List.getElem?_nil, List.set_cons_zero, List.set_cons_succ, Option.map_some, Option.map_none, if_true, if_false, ite_true, ite_false, reduceIte, Bool.not_true, Bool.not_false, Bool.false_eq_true, decide_true, decide_false, Bool.and_true, Bool.true_and, Bool.and_false, Bool.false_and, lbody, e1, e2, e3, q_fstep1]
    exact e4
theorem law_ok (ns : List Int) (h : ns.length ≤ 63) : callF FT depth 32 [.d (.list (ns.map PyData.int))] [] = .ok (.d (.bool true)) [] := by
  rw [show depth = 99 + 1 from rfl, cf ft32]
  have rg : rngOk (if (if (3 : Int) < (ns.length : Int) then (3 : Int) else (ns.length : Int)) > 1 then (if (3 : Int) < (ns.length : Int) then (3 : Int) else (ns.length : Int)) else 1) = true := by
    unfold rngOk
    rw [decide_eq_true (by split <;> split <;> omega), decide_eq_true (by split <;> split <;> omega)]
    rfl
  obtain ⟨ρ, st, e⟩ := law_loop 9 ns (rangeD 0 (if (if (3 : Int) < (ns.length : Int) then (3 : Int) else (ns.length : Int)) > 1 then (if (3 : Int) < (ns.length : Int) then (3 : Int) else (ns.length : Int)) else 1).toNat) (fun x hx => by
    obtain ⟨i, _, rfl⟩ := List.mem_map.mp hx
    exact ⟨i, by rw [Int.zero_add]⟩) [] none none
  unfold lbody at e
  have e : forL (forF (callF FT 99) (.one 1) _) _ _ _ = _ := e
  simp only [lineOk4, lineOk5, lineOk6, lineOk7, lineOk8, lineOk9, lineOk10, lineOk11, lineOk12, lineOk13, lineOk14, lineOk15, lineOk16, lineOk17, lineOk18, lineOk19, lineOk20, lineOk21, lineOk22, lineOk23, lineOk24, lineOk25, lineOk26, lineOk27, lineOk28, lineOk29, lineOk30, lineOk31, lineOk32, lineOk33, lineOk34, lineOk35, lineOk36, lineOk37, lineOk38, lineOk39, lineOk40, nc0, nc1, nc2, nc3, nc4, lineOk0, lineOk1, lineOk2, lineOk3, Nat.reduceAdd, Nat.reduceSub, Int.reduceLT, Int.reduceLE, Int.reduceBEq, Int.reduceEq, Int.reduceAdd, Int.reduceSub, Int.reduceNeg, atI_0, atI_1, atI_2, atI_3, cut_1, cut_to1, eq_self, Option.bind_some, rb_ok, rb_exc, rb_bad, ro_ok, ro_exc, ro_bad, sq_nx, sq_rt, sq_bk, sq_ct, q_vgo1, q_vgo2, q_vgo3, q_pfin1, q_pfin2, q_pgo1, q_pgo2, q_cellD1, q_cellD2, q_cons21, q_cons22, q_cons23, q_tfin1, q_tfin2, q_tgo1, q_tgo2, q_isCell1, q_isCell2, q_appGo1, q_appGo2, q_extGo1, q_extGo2, q_popFin1, q_popFin2, q_popGo1, q_popGo2, q_newGo1, q_newGo2, q_setFin1, q_setFin2, q_setGo1, q_setGo2, q_chn1, q_chn2, q_compGo1, q_compGo2, q_ckGo1, q_ckGo2, e_var, e_glob, e_lit, e_pr, e_new, e_act0, e_act1, e_and, e_or, e_not, e_ite, e_chain, e_call, e_callk, e_comp, es_nil, es_cons, an_one, an_more, or_one, or_more, e_T, prim_eq, argsD, holds, deref_d, deref_loc, derefs_nil, derefs_cons, dsOf_nil, dsOf_cons, tru_eq, q_truD1, q_truD2, q_truD3, q_truD4, q_truD5, q_truD6, q_truD7, isLst_loc, do_app, do_ext, do_pop, new_eq, set_eq, p_tup, p_lst, p_add, p_sub, p_mul, p_fdiv, p_mod, p_pow, p_lt, p_le, p_gt, p_ge, p_max, p_min, p_eq, p_ne, p_in, p_nin, p_ix, p_slTo, p_slFrom, p_slB, p_neg, p_len, p_int, p_sum, p_all, p_tupL, p_tupT, p_lstL, p_lstT, p_isi, p_isN, p_notN, isin_ch, isin_tup, isin_list, isTy, q_addD1, q_addD2, q_addD3, q_addD4, q_ixD1, q_ixD2, q_ixD3, q_slD1, q_slD2, q_lenD1, q_lenD2, q_lenD3, q_ugo1, q_ugo2, q_sgo1, q_sgo2, q_agoF1, q_agoF2, q_ago1, q_ago2, q_ago3, aug_add, aug_sub, q_fgo1, q_fgo2, s_asg', s_unp', s_par', s_par3', s_setix', s_aug', s_ex', s_ite', s_for', s_while', s_ret', ss_nil', ss_cons', asg_one, asg_many, setMany, pk_d, fin_rt, fin_nx, fin_ex, nx_ok, pick_nil, pick_cons, startR, get_top, set_top, take_top, take_own, take_fd, take_fd2, stq_get, stq_set, stq_len, stq_app, stq_top, stq_take, stq_take2, eqOk_str, eqv_str, eqOk_int, eqv_int, eqOk_bool, eqv_bool, it_seq, it_r1, it_r2, it_el, it_et, it_zip, it_rev, q_seqD1, q_seqD2, q_seqD3, List.map_cons, List.map_nil, List.length_cons, List.length_nil, List.replicate_succ, List.replicate_zero, List.append_nil, List.nil_append, List.cons_append, List.getElem?_cons_zero, List.getElem?_cons_succ, List.getElem?_nil, List.set_cons_zero, List.set_cons_succ, Option.map_some, Option.map_none, if_true, if_false, ite_true, ite_false, reduceIte, Bool.not_true, Bool.not_false, Bool.false_eq_true, decide_true, decide_false, Bool.and_true, Bool.true_and, Bool.and_false, Bool.false_and, b32, List.length_map, rg, e, List.take_zero]
end K60

set_option Elab.async false
set_option linter.all false
set_option maxRecDepth 100000
open PySem PySem.W PyProof.Rows
set_option maxHeartbeats 0 in
theorem PySem.Challenge.cw_seekunder_k60_whole_raw_terms_and_loose_holds : PySem.Challenge.rw_seekunder_k60_whole_raw_terms_and_loose.Holds := by
  w_on; o_law; k_head; (case hw => w_witness2)
  k_fill
  refine L2.walk_of (l := PySem.Challenge.rw_seekunder_k60_whole_raw_terms_and_loose) (n := 63) (k := K60.depth) (x := "script") (CX := fun w => L2.CX (PySem.Challenge.rw_seekunder_k60_whole_raw_terms_and_loose).prog w) (sp := fun w => Mp.spF (K60.G _) K60.depth 32) rfl (by decide) rfl ⟨rfl, by decide, by decide⟩ (fun w h Y => PySem.W.kIn_of Y) ?F (fun _ _ a ns hl hO hS => Mp.sp_law hS (K60.law_ok ns hl)) (fun _ _ _ _ _ h => Mp.cx_none h)
  case F =>
    intro w mg fa h KX G hmg
    refine' K60.law_at hmg (K60.top_mk KX G ?a0 ?l0 ?c0 ?k0 ?a1 ?l1 ?c1 ?k1 ?a2 ?l2 ?c2 ?k2 ?a3 ?l3 ?c3 ?k3 ?a4 ?l4 ?c4 ?k4 ?a5 ?l5 ?c5 ?k5 ?a6 ?l6 ?c6 ?k6 ?a7 ?l7 ?c7 ?k7 ?a8 ?l8 ?c8 ?k8 ?a9 ?l9 ?c9 ?k9 ?a10 ?l10 ?c10 ?k10 ?a11 ?l11 ?c11 ?k11 ?a12 ?l12 ?c12 ?k12 ?a13 ?l13 ?c13 ?k13 ?a14 ?l14 ?c14 ?k14 ?a15 ?l15 ?c15 ?k15 ?a16 ?l16 ?c16 ?k16 ?a17 ?l17 ?c17 ?k17 ?a18 ?l18 ?c18 ?k18 ?a19 ?l19 ?c19 ?k19 ?a20 ?l20 ?c20 ?k20 ?a21 ?l21 ?c21 ?k21 ?a22 ?l22 ?c22 ?k22 ?a23 ?l23 ?c23 ?k23 ?a24 ?l24 ?c24 ?k24 ?a25 ?l25 ?c25 ?k25 ?a26 ?l26 ?c26 ?k26 ?a27 ?l27 ?c27 ?k27 ?a28 ?l28 ?c28 ?k28 ?a29 ?l29 ?c29 ?k29 ?a30 ?l30 ?c30 ?k30 ?a31 ?l31 ?c31 ?k31 ?a32 ?l32 ?c32 ?k32 ?g_LETTERS ?g_FIGURES ?g_MOST_SIGNS ?g_MOST_KIND_NODES ?g_MOST_KIND_DEEP ?g_MOST_NODES ?g_MOST_DEEP ?g_MOST_VARIABLE ?g_LAST_ANY ?z_len ?z_int ?z_max ?z_min ?z_sum ?z_all ?z_tuple ?z_list ?z_isinstance ?z_range ?z_enumerate ?z_zip ?z_reversed ?z_bool ?z_str)
    (case a0 => k_is); (case l0 => k_is); (case c0 => k_is); (case k0 => k_is); (case a1 => k_is); (case l1 => k_is); (case c1 => k_is); (case k1 => k_is); (case a2 => k_is); (case l2 => k_is); (case c2 => k_is); (case k2 => k_is); (case a3 => k_is); (case l3 => k_is); (case c3 => k_is); (case k3 => k_is); (case a4 => k_is); (case l4 => k_is); (case c4 => k_is); (case k4 => k_is); (case a5 => k_is); (case l5 => k_is); (case c5 => k_is); (case k5 => k_is); (case a6 => k_is); (case l6 => k_is); (case c6 => k_is); (case k6 => k_is); (case a7 => k_is); (case l7 => k_is); (case c7 => k_is); (case k7 => k_is); (case a8 => k_is); (case l8 => k_is); (case c8 => k_is); (case k8 => k_is); (case a9 => k_is); (case l9 => k_is); (case c9 => k_is); (case k9 => k_is); (case a10 => k_is); (case l10 => k_is); (case c10 => k_is); (case k10 => k_is); (case a11 => k_is); (case l11 => k_is); (case c11 => k_is); (case k11 => k_is); (case a12 => k_is); (case l12 => k_is); (case c12 => k_is); (case k12 => k_is); (case a13 => k_is); (case l13 => k_is); (case c13 => k_is); (case k13 => k_is); (case a14 => k_is); (case l14 => k_is); (case c14 => k_is); (case k14 => k_is); (case a15 => k_is); (case l15 => k_is); (case c15 => k_is); (case k15 => k_is); (case a16 => k_is); (case l16 => k_is); (case c16 => k_is); (case k16 => k_is); (case a17 => k_is); (case l17 => k_is); (case c17 => k_is); (case k17 => k_is); (case a18 => k_is); (case l18 => k_is); (case c18 => k_is); (case k18 => k_is); (case a19 => k_is); (case l19 => k_is); (case c19 => k_is); (case k19 => k_is); (case a20 => k_is); (case l20 => k_is); (case c20 => k_is); (case k20 => k_is); (case a21 => k_is); (case l21 => k_is); (case c21 => k_is); (case k21 => k_is); (case a22 => k_is); (case l22 => k_is); (case c22 => k_is); (case k22 => k_is); (case a23 => k_is); (case l23 => k_is); (case c23 => k_is); (case k23 => k_is); (case a24 => k_is); (case l24 => k_is); (case c24 => k_is); (case k24 => k_is); (case a25 => k_is); (case l25 => k_is); (case c25 => k_is); (case k25 => k_is); (case a26 => k_is); (case l26 => k_is); (case c26 => k_is); (case k26 => k_is); (case a27 => k_is); (case l27 => k_is); (case c27 => k_is); (case k27 => k_is); (case a28 => k_is); (case l28 => k_is); (case c28 => k_is); (case k28 => k_is); (case a29 => k_is); (case l29 => k_is); (case c29 => k_is); (case k29 => k_is); (case a30 => k_is); (case l30 => k_is); (case c30 => k_is); (case k30 => k_is); (case a31 => k_is); (case l31 => k_is); (case c31 => k_is); (case k31 => k_is); (case a32 => k_is); (case l32 => k_is); (case c32 => k_is); (case k32 => k_is); (case g_LETTERS => k_is); (case g_FIGURES => k_is); (case g_MOST_SIGNS => k_is); (case g_MOST_KIND_NODES => k_is); (case g_MOST_KIND_DEEP => k_is); (case g_MOST_NODES => k_is); (case g_MOST_DEEP => k_is); (case g_MOST_VARIABLE => k_is); (case g_LAST_ANY => k_is); (case z_len => k_is); (case z_int => k_is); (case z_max => k_is); (case z_min => k_is); (case z_sum => k_is); (case z_all => k_is); (case z_tuple => k_is); (case z_list => k_is); (case z_isinstance => k_is); (case z_range => k_is); (case z_enumerate => k_is); (case z_zip => k_is); (case z_reversed => k_is); (case z_bool => k_is); (case z_str => k_is)

