import PyProof.Rows.All
import Wide.All
import OpenK.AllK
import Wide.FinOn
import HandS.ForMost
import KE.SortData
import HandS.Nested
import HandS.Deep
import HandS.Wide
import HandS.TupAny
import HandS.TupMul
import HandS.Style
import HandS.TupLe
import HandS.Text
import KE.LtData
import HandS.Conv
import HandS.IsInst
import HandS.RaiseMore
import HandS.CallSlots
import HandS.TryMany
import HandS.ExcOwn
import HandS.Zip
import KE.GoesEnum
import HandS.Comp
import HandS.Lambda
import HandS.Defaults
import KE.SortKeyHeap
import HandS.HeadHook2
import HandS.HeadHook4
import PyProof.ExcBaseAll.ValueError
import HandS.HeadWalk
import HandS.HeadEnd
import HandS.Codes
import HandS.Head0
import HandS.Head1
import HandS.Head2
import PySem.Challenge.RW_kitchenhall_k62_whole_washes_between_foo
set_option Elab.async false
section
set_option Elab.async false
set_option linter.all false
namespace Ev
open PySem
abbrev D := PyData

/-! ### the small language -/
inductive BOp where | add | sub | mul | fdiv | mod | pow
  deriving DecidableEq
inductive COp where | eq | ne | lt | le | gt | ge | isin | notin | is | isnot
  deriving DecidableEq
inductive Bi where | len | abs | sum | min | max | min2 | max2 | all | any | sorted | list | tuple | int | repr
  deriving DecidableEq
inductive Me where | count | index | get2
  deriving DecidableEq
inductive Ty where | int | bool | str | tuple | list
  deriving DecidableEq
inductive MM where | append | extend | remove
  deriving DecidableEq
inductive Tg where
  | nm (i : Nat) | nl | cn (g r : Tg)
  deriving DecidableEq
mutual
inductive E where
  | var (i : Nat) | pk (i : Nat) | glb (g : Nat) | cst (d : D)
  | tup (es : Es) | lst (es : Es) | dic
  | bin (o : BOp) (a b : E) | neg (a : E) | notV (a : E)
  | cmp (o : COp) (a b : E) | chain (o p : COp) (a b c : E)
  | and (a b : E) | or (a b : E) | tst (t : T)
  | ite (t : T) (a b : E)
  | idx (a i : E) | slc (a lo hi : E)
  | call (f : Nat) (es : Es) | callM (f : Nat) (i : Nat) (es : Es) | callL (f : Nat) (b : E) | callC (i : Nat)
  | bi (b : Bi) (es : Es) | lrg (a b : E) | lrg1 (a : E) | isi (a : E) (ty : Ty)
  | mth (m : Me) (a : E) (es : Es)
  | pop (i : Nat) (es : Es)
  | comp (own : List Nat) (g : Tg) (it : It) (c : T) (e : E)
  | sortL (a : E)
  | exi (i : Nat) (c : Nat)
inductive T where
  | tt | val (e : E) | cmp (o : COp) (a b : E) | chain (o p : COp) (a b c : E) | and (a b : T) | or (a b : T) | not (a : T)
inductive Es where
  | nil | cons (e : E) (r : Es)
inductive It where
  | seq (e : E) | rng1 (a : E) | rng2 (a b : E) | pks (i : Nat) | enum (e : E) | zip (a b : E)
end
inductive S where
  | skip | seq (a b : S)
  | asg (g : Tg) (own : Bool) (e : E)
  | keepIf (i : Nat) (own : Bool) (t : T) (e : E)
  | par (g h : Tg) (o p : Bool) (a b : E)
  | setI (i : Nat) (ix e : E) | aug (i : Nat) (o : BOp) (e : E) | augI (i : Nat) (ix : E) (o : BOp) (e : E)
  | ex (e : E) | mut (m : MM) (i : Nat) (e : E) | ins (i : Nat) (a b : E)
  | ite (t : T) (a b : S) | fori (g : Tg) (it : It) (b : S) | whl (t : T) (b : S)
  | brk | ret (fz : Bool) (e : E) | retN | raise (c : Nat) | raise1 (c : Nat) (e : E)
  | tryS (b : S) (hs : S) | hnil | hcons (c : Nat) (v : Option Nat) (b r : S)
  | forget (l : List Nat)

/-! ### values of a run -/
structure Exn where
  cls : Nat
  arg : Option D := none
inductive Sl where
  | no | v (d : D) | ol (xs : List D) | ex (x : Exn)
inductive Rs where
  | v (d : D) | l (xs : List D) | pl (i : Nat)
structure Fr where
  sl : List Sl
  io : Bool := false
  up : Option (List Sl × E) := none
inductive Out (α : Type) where
  | ok (a : α) (ρ : Fr) | ex (x : Exn) (ρ : Fr) | stk
def Out.bind {α β : Type} (o : Out α) (f : α → Fr → Out β) : Out β :=
  match o with | .ok a ρ => f a ρ | .ex x ρ => .ex x ρ | .stk => .stk
inductive OutS where
  | nx (ρ : Fr) | bk (ρ : Fr) | rt (r : Rs) (ρ : Fr) | ex (x : Exn) (ρ : Fr) | stk
def OutS.bind (o : OutS) (f : Fr → OutS) : OutS :=
  match o with | .nx ρ => f ρ | o => o
def Out.toS {α : Type} (o : Out α) (f : α → Fr → OutS) : OutS :=
  match o with | .ok a ρ => f a ρ | .ex x ρ => .ex x ρ | .stk => .stk
/-- a call's end: the result, the first parameter's slot (io), the upper frame's slots -/
inductive OutC where
  | ok (r : Rs) (io : Sl) (up : List Sl) | ex (x : Exn) (io : Sl) (up : List Sl) | stk
structure Orc where
  call : Nat → List Sl → Option (List Sl × E) → OutC
  clo : E → Fr → Out Rs
  exi : Nat → Nat → Bool      -- is a class the other's or below it
  glb : Nat → Option D
  fuel : Nat

def Fr.get (ρ : Fr) (i : Nat) : Sl := (ρ.sl[i]?).getD .no
def Fr.set (ρ : Fr) (i : Nat) (s : Sl) : Fr := { ρ with sl := ρ.sl.set i s }
/-- the first parameter's slot of a def that changes it stays its own -/
def Fr.put (ρ : Fr) (i : Nat) (s : Sl) : Option Fr := if ρ.io && i == 0 then none else some (ρ.set i s)
def Rs.get (ρ : Fr) : Rs → Option D
  | .v d => some d
  | .l xs => some (.list xs)
  | .pl i => match ρ.get i with | .ol xs => some (.list xs) | .v d => some d | _ => none
def Rs.fz : Rs → Option D
  | .v d => some d
  | .l xs => some (.list xs)
  | .pl _ => none
def opt {α : Type} (o : Option α) (ρ : Fr) : Out α := match o with | some a => .ok a ρ | none => .stk

/-! ### operations on data -/
def big : Nat := 2 ^ 24
def itemsOf : D → Option (List D)
  | .list xs => some xs
  | .tuple xs => some xs
  | _ => none
def mulOk (i j : Int) : Bool := decide (i.natAbs.log2 + j.natAbs.log2 < 100000000)
def divOk (j : Int) : Bool := decide (0 < j) && decide (j.natAbs.log2 < 9000)
def binop : BOp → D → D → Option Rs
  | .add, .int i, .int j => some (.v (.int (i + j)))
  | .add, .tuple x, .tuple y => if x.length + y.length ≤ big then some (.v (.tuple (x ++ y))) else none
  | .add, .list x, .list y => if x.length + y.length ≤ big then some (.l (x ++ y)) else none
  | .sub, .int i, .int j => some (.v (.int (i - j)))
  | .mul, .int i, .int j => if mulOk i j then some (.v (.int (i * j))) else none
  | .mul, .tuple x, .int j => if x.isEmpty = false ∧ 2 ≤ j ∧ j ≤ 1000 ∧ x.length ≤ 1000 then some (.v (.tuple (List.replicate j.toNat x).flatten)) else none
  | .mul, .list x, .int j => if x.length * j.toNat ≤ big ∧ j < 1000000 ∧ -1000000 < j then some (.l (List.replicate j.toNat x).flatten) else none
  | .fdiv, .int i, .int j => if divOk j then some (.v (.int (i / j))) else none
  | .mod, .int i, .int j => if 0 < j then some (.v (.int (i % j))) else none
  | .pow, .int i, .int j => if 0 ≤ j ∧ j ≤ 1000 ∧ i.natAbs < 2 ^ 64 then some (.v (.int (i ^ j.toNat))) else none
  | _, _, _ => none
def ltD (a b : D) : Option Bool :=
  match a, b with
  | .int i, .int j => some (decide (i < j))
  | .str x, .str y => some (decide (x.cps.toList < y.cps.toList))
  | .tuple x, .tuple y => if PySem.W.alikeAll x y && SeqAt.shaped (.tuple x) && SeqAt.shaped (.tuple y) then some (PySem.W.dataLt (.tuple x) (.tuple y)) else none
  | _, _ => none
def isNone : D → Bool
  | .none => true
  | _ => false
def isSame (a b : D) : Option Bool :=
  match b with
  | .none => some (isNone a)
  | .bool c => (match a with | .bool d => some (decide (d = c)) | _ => none)
  | _ => none
def cmpop : COp → D → D → Option Bool
  | .eq, a, b => if SeqAt.shaped a && SeqAt.shaped b then some (PyData.eqv a b) else none
  | .ne, a, b => if SeqAt.shaped a && SeqAt.shaped b then some (!PyData.eqv a b) else none
  | .lt, a, b => ltD a b
  | .gt, .int i, .int j => some (decide (j < i))
  | .gt, .str x, .str y => some (decide (y.cps.toList < x.cps.toList))
  | .le, .int i, .int j => some (decide (i ≤ j))
  | .ge, .int i, .int j => some (decide (j ≤ i))
  | .le, .str x, .str y => some (!decide (y.cps.toList < x.cps.toList))
  | .ge, .str x, .str y => some (!decide (x.cps.toList < y.cps.toList))
  | .isin, a, b => match itemsOf b with
    | some ds => if SeqAt.shaped a && SeqAt.shaped (.list ds) then some (ds.any fun z => PyData.eqv z a) else none
    | none => none
  | .notin, a, b => match itemsOf b with
    | some ds => if SeqAt.shaped a && SeqAt.shaped (.list ds) then some (!ds.any fun z => PyData.eqv z a) else none
    | none => none
  | .is, a, b => isSame a b
  | .isnot, a, b => (isSame a b).map not
  | _, _, _ => none
def cmpR (o : COp) (d e : D) : Option Rs := (cmpop o d e).map fun c => .v (.bool c)
def truthy : D → Option Bool
  | .none => some false
  | .bool b => some b
  | .int i => some (i != 0)
  | .list xs => some (!xs.isEmpty)
  | .tuple xs => some (!xs.isEmpty)
  | _ => none
def ixOf (n : Nat) (i : Int) : Option Nat := L2.ixN n i
def getIx (a i : D) : Option Rs :=
  match itemsOf a, i with
  | some xs, .int k => (L2.atI xs k).map .v
  | _, _ => none
/-- a slice's bound -/
def sBound (n : Nat) (dflt : Nat) : Option Int → Nat
  | none => dflt
  | some i => if i < 0 then (i + n).toNat else min i.toNat n
def cutD (xs : List D) (lo hi : Option Int) : List D := (xs.drop (sBound xs.length 0 lo)).take (sBound xs.length xs.length hi - sBound xs.length 0 lo)
def slice (a : D) (lo hi : Option Int) : Option Rs :=
  match a with
  | .dict [(.none, .list xs)] => some (.l (cutD xs lo hi))
  | .tuple xs => some (.v (.tuple (cutD xs lo hi)))
  | .list xs => some (.l (cutD xs lo hi))
  | _ => none
def intsOf : List D → Option (List Int)
  | [] => some []
  | .int i :: r => (intsOf r).map (i :: ·)
  | _ => none
def boolsOf : List D → Option (List Bool)
  | [] => some []
  | .bool i :: r => (boolsOf r).map (i :: ·)
  | _ => none
def allAlike (ds : List D) : Bool := ds.all fun a => ds.all fun b => PySem.W.alike a b
def sortable (ds : List D) : Bool := (ds.all fun d => match d with | .tuple (_ :: _) => true | _ => false) || (ds.all fun d => match d with | .none => false | .tuple _ => false | _ => true)
def sortD (ds : List D) : Option (List D) :=
  if allAlike ds && sortable ds && SeqAt.shaped (.list ds) && decide (ds.length ≤ big) then some (ds.mergeSort (PySem.W.dataLe false id)) else none
mutual
def noLst : D → Bool
  | .list _ => false
  | .dict _ => false
  | .tuple xs => noLsts xs
  | _ => true
def noLsts : List D → Bool
  | [] => true
  | x :: xs => noLst x && noLsts xs
end
def lstOf : D → Option (List D)
  | .list xs => some xs
  | _ => none
def isTup : D → Bool
  | .tuple _ => true
  | _ => false
def lenKey : D → D
  | .tuple xs => .tuple [.int xs.length, .tuple xs]
  | d => d
/-- by length, then by value -/
def sortL (ds : List D) : Option (List D) :=
  if ds.all isTup && allAlike (ds.map lenKey) && SeqAt.shaped (.list (ds.map lenKey)) && noLsts ds && decide (ds.length ≤ big) then some (ds.mergeSort (PySem.W.dataLe false lenKey)) else none
def reprBool (b : Bool) : Str := if b then Str.ofString "True" else Str.ofString "False"
def rangeD (lo hi : Int) : List D := (List.range (hi - lo).toNat).map fun (i : Nat) => .int (lo + i)
def rngOk (i : Int) : Bool := decide (-1000000 ≤ i) && decide (i ≤ 1000000)
def blt1 : Bi → D → Option Rs
  | .len, d => (itemsOf d).map fun xs => .v (.int xs.length)
  | .abs, .int i => some (.v (.int (if i < 0 then -i else i)))
  | .sum, .list xs => (intsOf xs).map fun l => .v (.int l.sum)
  | .min, .list xs => (intsOf xs).bind fun l => match l with | i :: r => some (.v (.int (r.foldl min i))) | [] => none
  | .max, .list xs => (intsOf xs).bind fun l => match l with | i :: r => some (.v (.int (r.foldl max i))) | [] => none
  | .all, .list xs => (boolsOf xs).map fun l => .v (.bool (l.all id))
  | .any, .list xs => (boolsOf xs).map fun l => .v (.bool (l.any id))
  | .sorted, d => (itemsOf d).bind fun xs => (sortD xs).map .l
  | .list, d => (itemsOf d).map .l
  | .tuple, d => (itemsOf d).map fun xs => .v (.tuple xs)
  | .int, .int i => some (.v (.int i))
  | .repr, .bool b => some (.v (.str (reprBool b)))
  | _, _ => none
def blt2 : Bi → D → D → Option Rs
  | .min2, .int i, .int j => some (.v (.int (if j < i then j else i)))
  | .max2, .int i, .int j => some (.v (.int (if j > i then j else i)))
  | _, _, _ => none
def bltf (b : Bi) : List D → Option Rs
  | [d] => blt1 b d
  | [d, e] => blt2 b d e
  | _ => none
def isiD (ty : Ty) : D → Option Bool
  | .none => some false
  | .bool _ => some (decide (ty = .int ∨ ty = .bool))
  | .int _ => some (decide (ty = .int))
  | .str _ => some (decide (ty = .str))
  | .tuple _ => some (decide (ty = .tuple))
  | .list _ => some (decide (ty = .list))
  | .dict [] => some false
  | .dict _ => none
def firstIx (d : D) : List D → Option Nat
  | [] => none
  | x :: r => if PyData.eqv x d then some 0 else (firstIx d r).map (· + 1)
def methf : Me → D → List D → Option D
  | .count, a, [d] => match itemsOf a with
    | some xs => if SeqAt.shaped (.list xs) && SeqAt.shaped d then some (.int (xs.countP fun z => PyData.eqv z d)) else none
    | none => none
  | .index, a, [d] => match itemsOf a with
    | some xs => if SeqAt.shaped (.list xs) && SeqAt.shaped d then (firstIx d xs).map fun j => .int j else none
    | none => none
  | _, _, _ => none
def popf (xs : List D) : List D → Option (D × List D)
  | [] => match xs.getLast? with | some d => some (d, xs.dropLast) | none => none
  | [.int i] => match ixOf xs.length i with
    | some j => match xs[j]? with | some d => some (d, xs.eraseIdx j) | none => none
    | none => none
  | _ => none

/-! ### targets -/
def tuplesTo : Tg → Option (List Tg)
  | .nl => some []
  | .cn g r => (tuplesTo r).map (g :: ·)
  | .nm _ => none
/-- the names of a target, the items of the value -/
def asgT : Tg → D → Fr → Option Fr
  | .nm i, d, ρ => ρ.put i (.v d)
  | .nl, .tuple [], ρ => some ρ
  | .cn g r, .tuple (x :: xs), ρ => match asgT g x ρ with | some ρ1 => asgT r (.tuple xs) ρ1 | none => none
  | _, _, _ => none
def asgR (g : Tg) (own : Bool) (r : Rs) (ρ : Fr) : Option Fr :=
  match own, g, r with
  | true, .nm i, .l xs => ρ.put i (.ol xs)
  | _, _, r => match r.fz with | some d => asgT g d ρ | none => none
def Fr.rest (ρ ρ0 : Fr) : List Nat → Fr
  | [] => { ρ with io := ρ0.io }
  | i :: r => (ρ.set i (ρ0.get i)).rest ρ0 r
def Fr.wipe (ρ : Fr) : List Nat → Fr
  | [] => ρ
  | i :: r => (ρ.set i .no).wipe r
def noOwn (ρ : Fr) (own : List Nat) : Bool := !(ρ.io && own.contains 0) && own.all fun i => match ρ.get i with | .ol _ => false | _ => true

/-! ### loops -/
def forL (b : D → Fr → OutS) : List D → Fr → OutS
  | [], ρ => .nx ρ
  | d :: r, ρ => match b d ρ with
    | .nx ρ1 => forL b r ρ1
    | .bk ρ1 => .nx ρ1
    | o => o
def whileL (t : Fr → Out Bool) (b : Fr → OutS) : Nat → Fr → OutS
  | 0, _ => .stk
  | n + 1, ρ => (t ρ).toS fun c ρ1 => if c then (match b ρ1 with | .nx ρ2 => whileL t b n ρ2 | .bk ρ2 => .nx ρ2 | o => o) else .nx ρ1
/-- a comprehension's turns: some d: an item; none: left out -/
def compL (b : D → Fr → Out (Option D)) : List D → Fr → Out (List D)
  | [], ρ => .ok [] ρ
  | d :: r, ρ => (b d ρ).bind fun o ρ1 => (compL b r ρ1).bind fun ds ρ2 => .ok (match o with | some x => x :: ds | none => ds) ρ2
def noEx {α : Type} : Out α → Out α
  | .ex _ _ => .stk
  | o => o

/-! ### running: one function for each form, over what the parts do -/
abbrev Ev1 := Fr → Out Rs
def varF (i : Nat) : Ev1 := fun ρ => match ρ.get i with
  | .v d => .ok (.v d) ρ
  | .ol xs => .ok (.v (.list xs)) (ρ.set i (.v (.list xs)))
  | _ => .stk
def pkF (i : Nat) : Ev1 := fun ρ => match ρ.get i with
  | .v _ => .ok (.pl i) ρ
  | .ol _ => .ok (.pl i) ρ
  | _ => .stk
def tupF (es : Fr → Out (List D)) : Ev1 := fun ρ => (es ρ).bind fun ds ρ1 => if ds.length ≤ big then .ok (.v (.tuple ds)) ρ1 else .stk
def lstF (es : Fr → Out (List D)) : Ev1 := fun ρ => (es ρ).bind fun ds ρ1 => if ds.length ≤ big then .ok (.l ds) ρ1 else .stk
def binF (f : D → D → Option Rs) (a b : Ev1) : Ev1 := fun ρ => (a ρ).bind fun x ρ1 => (b ρ1).bind fun y ρ2 => match x.get ρ2, y.get ρ2 with
  | some d, some e => opt (f d e) ρ2 | _, _ => .stk
def negF (a : Ev1) : Ev1 := fun ρ => (a ρ).bind fun x ρ1 => match x with | .v (.int i) => .ok (.v (.int (-i))) ρ1 | _ => .stk
def boolF (a : Ev1) : Fr → Out Bool := fun ρ => (a ρ).bind fun x ρ1 => match x with | .v (.bool c) => .ok c ρ1 | _ => .stk
/-- a op b op' c: b asked once -/
def chainF (o p : COp) (a b c : Ev1) : Ev1 := fun ρ => (a ρ).bind fun x ρ1 => (b ρ1).bind fun y ρ2 => match y with
  | .v e => (match x.get ρ2 with
    | some d => (match cmpop o d e with
      | some true => (c ρ2).bind fun z ρ3 => (match z.get ρ3 with | some f => opt (cmpR p e f) ρ3 | none => .stk)
      | some false => .ok (.v (.bool false)) ρ2
      | none => .stk)
    | none => .stk)
  | _ => .stk
def andF (a b : Ev1) : Ev1 := fun ρ => (boolF a ρ).bind fun c ρ1 => if c then b ρ1 else .ok (.v (.bool false)) ρ1
def orF (a b : Ev1) : Ev1 := fun ρ => (boolF a ρ).bind fun c ρ1 => if c then .ok (.v (.bool true)) ρ1 else b ρ1
def tstF (t : Fr → Out Bool) : Ev1 := fun ρ => (t ρ).bind fun c ρ1 => .ok (.v (.bool c)) ρ1
def iteF {α : Type} (t : Fr → Out Bool) (a b : Fr → Out α) : Fr → Out α := fun ρ => (t ρ).bind fun c ρ1 => if c then a ρ1 else b ρ1
/-- a slice's bound: left out, or an int -/
def isAbs : E → Bool
  | .cst .none => true
  | _ => false
def partF (ab : Bool) (a : Ev1) : Fr → Out (Option Int) := fun ρ =>
  if ab then .ok none ρ else (a ρ).bind fun r ρ1 => match r with | .v (.int i) => .ok (some i) ρ1 | _ => .stk
def slcF (a : Ev1) (lo hi : Fr → Out (Option Int)) : Ev1 := fun ρ => (a ρ).bind fun x ρ1 => (lo ρ1).bind fun l ρ2 => (hi ρ2).bind fun h ρ3 => match x.get ρ3 with
  | some d => opt (slice d l h) ρ3 | none => .stk
def callF (O : Orc) (f : Nat) (es : Fr → Out (List D)) : Ev1 := fun ρ => (es ρ).bind fun ds ρ1 => match O.call f (ds.map .v) none with
  | .ok r _ _ => .ok r ρ1 | .ex x _ _ => .ex x ρ1 | .stk => .stk
def isOl : Sl → Bool
  | .ol _ => true
  | _ => false
def callMF (O : Orc) (f i : Nat) (es : Fr → Out (List D)) : Ev1 := fun ρ => if isOl (ρ.get i) then (es ρ).bind fun ds ρ1 => (match ρ1.get i with
    | .ol xs => (match O.call f (.ol xs :: ds.map .v) none with
      | .ok r s _ => .ok r (ρ1.set i s) | .ex x s _ => .ex x (ρ1.set i s) | .stk => .stk)
    | _ => .stk)
  else .stk
def callLF (O : Orc) (f : Nat) (b : E) : Ev1 := fun ρ => if ρ.up.isSome then .stk else match O.call f [] (some (ρ.sl, b)) with
  | .ok (.pl _) _ _ => .stk | .ok r _ u => .ok r { ρ with sl := u } | _ => .stk
/-- the parameter that holds the lambda is kept like a list that the def changes: its slot is never written -/
def callCF (O : Orc) : Ev1 := fun ρ => if ρ.io then (match ρ.up with
  | some (u, b) => (match O.clo b { sl := u } with
    | .ok (.pl _) _ => .stk
    | .ok r ρ1 => .ok r { ρ with up := some (ρ1.sl, b) } | .ex x ρ1 => .ex x { ρ with up := some (ρ1.sl, b) } | .stk => .stk)
  | none => .stk) else .stk
def getAll (ρ : Fr) : List Rs → Option (List D)
  | [] => some []
  | r :: rs => match r.get ρ, getAll ρ rs with | some d, some ds => some (d :: ds) | _, _ => none
def biF (b : Bi) (es : Fr → Out (List Rs)) : Ev1 := fun ρ => (es ρ).bind fun rs ρ1 => match getAll ρ1 rs with | some ds => opt (bltf b ds) ρ1 | none => .stk
def isiF (a : Ev1) (ty : Ty) : Ev1 := fun ρ => (a ρ).bind fun x ρ1 => match x.get ρ1 with | some d => opt ((isiD ty d).map fun b => .v (.bool b)) ρ1 | none => .stk
def mthF (m : Me) (a : Ev1) (es : Fr → Out (List D)) : Ev1 := fun ρ => (a ρ).bind fun x ρ1 => (es ρ1).bind fun ds ρ2 => match x.get ρ2 with
  | some d => opt ((methf m d ds).map .v) ρ2 | none => .stk
def popF (i : Nat) (es : Fr → Out (List D)) : Ev1 := fun ρ => if isOl (ρ.get i) then (es ρ).bind fun ds ρ1 => (match ρ1.get i with
  | .ol xs => (match popf xs ds with | some (d, ys) => .ok (.v d) (ρ1.set i (.ol ys)) | none => .stk)
  | _ => .stk) else .stk
def hid : It → List Nat
  | .pks i => [i]
  | _ => []
/-- one turn of a comprehension -/
def turnF (own : List Nat) (g : Tg) (c : Fr → Out Bool) (e : Ev1) (ρ0 : Fr) : D → Fr → Out (Option D) := fun d ρ =>
  match asgT g d (ρ.wipe own) with
  | some ρ1 => (c ρ1).bind fun k ρ2 => if k then (e ρ2).bind fun r ρ3 => (match r.fz with | some x => .ok (some x) (ρ3.rest ρ0 own) | none => .stk) else .ok none (ρ2.rest ρ0 own)
  | none => .stk
def compF (own hd : List Nat) (g : Tg) (it : Fr → Out (List D)) (c : Fr → Out Bool) (e : Ev1) : Ev1 := fun ρ => (it ρ).bind fun ds ρ0 =>
  if noOwn ρ0 own && ds.length ≤ big then
    (noEx (compL (turnF own g c e (ρ0.wipe hd)) ds (ρ0.wipe hd))).bind fun xs ρ1 => .ok (.l xs) (ρ1.rest ρ0 hd)
  else .stk
/-- sorted(a, key=lambda x: (len(x), x)) -/
def sortLF (a : Ev1) : Ev1 := fun ρ => (a ρ).bind fun x ρ1 => match (x.get ρ1).bind lstOf with
  | some ds => opt ((sortL ds).map .l) ρ1
  | none => .stk
def exiF (O : Orc) (i c : Nat) : Ev1 := fun ρ => match ρ.get i with | .ex x => .ok (.v (.bool (O.exi x.cls c))) ρ | _ => .stk
def valF (a : Ev1) : Fr → Out Bool := fun ρ => (a ρ).bind fun x ρ1 => match x.get ρ1 with | some d => opt (truthy d) ρ1 | none => .stk
def consF (e : Ev1) (r : Fr → Out (List D)) : Fr → Out (List D) := fun ρ => (e ρ).bind fun x ρ1 => match x.fz with
  | some d => (r ρ1).bind fun ds ρ2 => .ok (d :: ds) ρ2 | none => .stk
def consR (e : Ev1) (r : Fr → Out (List Rs)) : Fr → Out (List Rs) := fun ρ => (e ρ).bind fun x ρ1 => (r ρ1).bind fun ds ρ2 => .ok (x :: ds) ρ2
/-- list(range(a)), list(range(a, b)) -/
def lrgF (a b : Ev1) : Ev1 := fun ρ => (a ρ).bind fun x ρ1 => (b ρ1).bind fun y ρ2 => match x, y with
  | .v (.int m), .v (.int n) => if rngOk m && rngOk n then .ok (.l (rangeD m n)) ρ2 else .stk | _, _ => .stk
def lrg1F (b : Ev1) : Ev1 := fun ρ => (b ρ).bind fun y ρ2 => match y with
  | .v (.int n) => if rngOk n then .ok (.l (rangeD 0 n)) ρ2 else .stk | _ => .stk
def iSeq (a : Ev1) : Fr → Out (List D) := fun ρ => (a ρ).bind fun x ρ1 => match x.fz with | some d => opt (itemsOf d) ρ1 | none => .stk
def iRng1 (a : Ev1) : Fr → Out (List D) := fun ρ => (a ρ).bind fun x ρ1 => match x with | .v (.int n) => if rngOk n then .ok (rangeD 0 n) ρ1 else .stk | _ => .stk
def iRng2 (a b : Ev1) : Fr → Out (List D) := fun ρ => (a ρ).bind fun x ρ1 => (b ρ1).bind fun y ρ2 => match x, y with
  | .v (.int m), .v (.int n) => if rngOk m && rngOk n then .ok (rangeD m n) ρ2 else .stk | _, _ => .stk
def iPks (i : Nat) : Fr → Out (List D) := fun ρ => match ρ.get i with | .ol xs => .ok xs ρ | .v d => opt (itemsOf d) ρ | _ => .stk
def iEnum (a : Ev1) : Fr → Out (List D) := fun ρ => (a ρ).bind fun x ρ1 => match x.fz with
  | some d => (match itemsOf d with | some xs => .ok (xs.zipIdx.map fun p => .tuple [.int p.2, p.1]) ρ1 | none => .stk)
  | none => .stk
def zipD : D → D → Option (List D)
  | .list xs, .list ys => some ((xs.zip ys).map fun p => .tuple [p.1, p.2])
  | .tuple xs, .tuple ys => some ((xs.zip ys).map fun p => .tuple [p.1, p.2])
  | _, _ => none
def iZip (a b : Ev1) : Fr → Out (List D) := fun ρ => (a ρ).bind fun x ρ1 => match x.fz with
  | some d => (b ρ1).bind fun y ρ2 => (match y.fz with
    | some e => opt (zipD d e) ρ2
    | none => .stk)
  | none => .stk
mutual
def evE (O : Orc) : E → Ev1
  | .var i => varF i
  | .pk i => pkF i
  | .glb g => fun ρ => match O.glb g with | some d => .ok (.v d) ρ | none => .stk
  | .cst d => fun ρ => .ok (.v d) ρ
  | .tup es => tupF (evEs O es)
  | .lst es => lstF (evEs O es)
  | .dic => fun ρ => .ok (.v (.dict [])) ρ
  | .bin o a b => binF (binop o) (evE O a) (evE O b)
  | .neg a => negF (evE O a)
  | .notV a => tstF fun ρ => (boolF (evE O a) ρ).bind fun c ρ1 => .ok (!c) ρ1
  | .cmp o a b => binF (cmpR o) (evE O a) (evE O b)
  | .chain o p a b c => chainF o p (evE O a) (evE O b) (evE O c)
  | .and a b => andF (evE O a) (evE O b)
  | .or a b => orF (evE O a) (evE O b)
  | .tst t => tstF (evT O t)
  | .ite t a b => iteF (evT O t) (evE O a) (evE O b)
  | .idx a i => binF getIx (evE O a) (evE O i)
  | .slc a lo hi => slcF (evE O a) (partF (isAbs lo) (evE O lo)) (partF (isAbs hi) (evE O hi))
  | .call f es => callF O f (evEs O es)
  | .callM f i es => callMF O f i (evEs O es)
  | .callL f b => callLF O f b
  | .callC _ => callCF O
  | .bi b es => biF b (evEr O es)
  | .lrg a b => lrgF (evE O a) (evE O b)
  | .lrg1 a => lrg1F (evE O a)
  | .isi a ty => isiF (evE O a) ty
  | .mth m a es => mthF m (evE O a) (evEs O es)
  | .pop i es => popF i (evEs O es)
  | .comp own g it c e => compF own (hid it) g (evI O it) (evT O c) (evE O e)
  | .sortL a => sortLF (evE O a)
  | .exi i c => exiF O i c
def evT (O : Orc) : T → Fr → Out Bool
  | .tt => fun ρ => .ok true ρ
  | .val e => valF (evE O e)
  | .cmp o a b => boolF (binF (cmpR o) (evE O a) (evE O b))
  | .chain o p a b c => boolF (chainF o p (evE O a) (evE O b) (evE O c))
  | .and a b => iteF (evT O a) (evT O b) (fun ρ => .ok false ρ)
  | .or a b => iteF (evT O a) (fun ρ => .ok true ρ) (evT O b)
  | .not a => fun ρ => (evT O a ρ).bind fun c ρ1 => .ok (!c) ρ1
def evEs (O : Orc) : Es → Fr → Out (List D)
  | .nil => fun ρ => .ok [] ρ
  | .cons e r => consF (evE O e) (evEs O r)
def evEr (O : Orc) : Es → Fr → Out (List Rs)
  | .nil => fun ρ => .ok [] ρ
  | .cons e r => consR (evE O e) (evEr O r)
def evI (O : Orc) : It → Fr → Out (List D)
  | .seq e => iSeq (evE O e)
  | .rng1 a => iRng1 (evE O a)
  | .rng2 a b => iRng2 (evE O a) (evE O b)
  | .pks i => iPks i
  | .enum e => iEnum (evE O e)
  | .zip a b => iZip (evE O a) (evE O b)
end
def mutf : MM → List D → Rs → Option (List D)
  | .append, xs, r => match r.fz with | some d => if xs.length < big then some (xs ++ [d]) else none | none => none
  | .extend, xs, .l ys => if xs.length + ys.length ≤ big then some (xs ++ ys) else none
  | _, _, _ => none
abbrev EvS := Fr → OutS
def putO (o : Option Fr) : OutS := match o with | some ρ => .nx ρ | none => .stk
def asgS (g : Tg) (o : Bool) (e : Ev1) : EvS := fun ρ => (e ρ).toS fun r ρ1 => putO (asgR g o r ρ1)
def keepS (i : Nat) (o : Bool) (t : Fr → Out Bool) (e : Ev1) : EvS := fun ρ => (t ρ).toS fun c ρ1 =>
  if c then (e ρ1).toS fun r ρ2 => putO (asgR (.nm i) o r ρ2) else (match ρ1.get i with | .ol _ => .nx ρ1 | .v _ => .nx ρ1 | _ => .stk)
def parS (g h : Tg) (o p : Bool) (a b : Ev1) : EvS := fun ρ => (a ρ).toS fun x ρ1 => match x with
  | .pl _ => .stk
  | _ => (b ρ1).toS fun y ρ2 => match asgR g o x ρ2 with
    | some ρ3 => putO (asgR h p y ρ3)
    | none => .stk
def setIS (i : Nat) (ix e : Ev1) : EvS := fun ρ => (e ρ).toS fun r ρ1 => match r with
  | .v d => if isOl (ρ1.get i) then ((ix ρ1).toS fun k ρ2 => match k, ρ2.get i with
    | .v (.int n), .ol xs => (match ixOf xs.length n with | some j => .nx (ρ2.set i (.ol (xs.set j d))) | none => .stk)
    | _, _ => .stk) else .stk
  | _ => .stk
def isV : Sl → Bool
  | .v _ => true
  | _ => false
def augF : BOp → D → D → Option D
  | .add, .int c, .int d => some (.int (c + d))
  | .sub, .int c, .int d => some (.int (c - d))
  | _, _, _ => none
def augS (i : Nat) (o : BOp) (e : Ev1) : EvS := fun ρ => if isV (ρ.get i) then (e ρ).toS fun r ρ1 => (match r, ρ1.get i with
  | .v d, .v c => (match augF o c d with | some z => putO (ρ1.put i (.v z)) | none => .stk)
  | _, _ => .stk) else .stk
def exS (e : Ev1) : EvS := fun ρ => (e ρ).toS fun _ ρ1 => .nx ρ1
def mutS (m : MM) (i : Nat) (e : Ev1) : EvS := fun ρ => if isOl (ρ.get i) then (e ρ).toS fun r ρ1 => (match ρ1.get i with
  | .ol xs => (match mutf m xs r with | some ys => .nx (ρ1.set i (.ol ys)) | none => .stk)
  | _ => .stk) else .stk
def iteS (t : Fr → Out Bool) (a b : EvS) : EvS := fun ρ => (t ρ).toS fun c ρ1 => if c then a ρ1 else b ρ1
def bodyF (g : Tg) (b : EvS) : D → EvS := fun d ρ => match asgT g d ρ with | some ρ1 => b ρ1 | none => .stk
def forS (g : Tg) (it : Fr → Out (List D)) (b : EvS) : EvS := fun ρ => (it ρ).toS fun ds ρ1 => forL (bodyF g b) ds ρ1
def retS (fz : Bool) (e : Ev1) : EvS := fun ρ => (e ρ).toS fun r ρ1 =>
  if fz then (match r.fz with | some d => .rt (.v d) ρ1 | none => .stk) else (match r with | .pl _ => .stk | _ => .rt r ρ1)
def raise1S (c : Nat) (e : Ev1) : EvS := fun ρ => (e ρ).toS fun r ρ1 => match r with | .v (.int d) => .ex ⟨c, some (.int d)⟩ ρ1 | _ => .stk
mutual
def evS (O : Orc) : S → EvS
  | .skip => fun ρ => .nx ρ
  | .seq a b => fun ρ => (evS O a ρ).bind (evS O b)
  | .asg g o e => asgS g o (evE O e)
  | .keepIf i o t e => keepS i o (evT O t) (evE O e)
  | .par g h o p a b => parS g h o p (evE O a) (evE O b)
  | .setI i ix e => setIS i (evE O ix) (evE O e)
  | .aug i o e => augS i o (evE O e)
  | .augI _ _ _ _ => fun _ => .stk
  | .ex e => exS (evE O e)
  | .mut m i e => mutS m i (evE O e)
  | .ins _ _ _ => fun _ => .stk
  | .ite t a b => iteS (evT O t) (evS O a) (evS O b)
  | .fori g it b => forS g (evI O it) (evS O b)
  | .whl t b => whileL (evT O t) (evS O b) O.fuel
  | .brk => fun ρ => .bk ρ
  | .ret fz e => retS fz (evE O e)
  | .retN => fun ρ => .rt (.v .none) ρ
  | .raise c => fun ρ => .ex ⟨c, none⟩ ρ
  | .raise1 c e => raise1S c (evE O e)
  | .tryS b hs => fun ρ => match evS O b ρ with
    | .ex x ρ1 => evH O hs x ρ1
    | o => o
  | .hnil => fun _ => .stk
  | .hcons _ _ _ _ => fun _ => .stk
  | .forget l => fun ρ => .nx (ρ.wipe l)
/-- the handlers of a try, the exception at hand -/
def evH (O : Orc) : S → Exn → EvS
  | .hnil, x => fun ρ => .ex x ρ
  | .hcons c v b r, x => fun ρ => if O.exi x.cls c then
      (match v with
      | some i => (match ρ.put i (.ex x) with
        | some ρ1 => (match evS O b ρ1 with | .nx ρ2 => .nx (ρ2.set i .no) | .rt q ρ2 => .rt q (ρ2.set i .no) | _ => .stk)
        | none => .stk)
      | none => (match evS O b ρ with | .nx ρ2 => .nx ρ2 | .rt q ρ2 => .rt q ρ2 | _ => .stk))
    else evH O r x ρ
  | _, _ => fun _ => .stk
end

/-! ### the program -/
structure Def where
  name : String
  np : Nat          -- parameters
  ns : Nat          -- slots
  io : Bool
  clo : Bool
  body : S
structure Prog where
  defs : List Def
  glb : List D
  exi : Nat → Nat → Bool
/-- an own list is handed over as the first argument alone -/
def argsOk (io : Bool) : List Sl → Bool
  | [] => !io
  | .ol _ :: r => io && r.all fun s => match s with | .v _ => true | _ => false
  | r => !io && r.all fun s => match s with | .v _ => true | _ => false
def endC (o : OutS) : OutC :=
  let fin (ρ : Fr) := (if ρ.io then ρ.get 0 else .no, match ρ.up with | some (u, _) => u | none => [])
  match o with
  | .nx ρ => .ok (.v .none) (fin ρ).1 (fin ρ).2
  | .rt (.pl _) _ => .stk
  | .rt r ρ => .ok r (fin ρ).1 (fin ρ).2
  | .ex x ρ => .ex x (fin ρ).1 (fin ρ).2
  | _ => .stk
def frame0 (d : Def) (as : List Sl) (up : Option (List Sl × E)) : Fr := ⟨as ++ List.replicate (d.ns - as.length) .no, d.io || up.isSome, up⟩
def orc (P : Prog) (fuel : Nat) : Nat → Orc
  | 0 => { call := fun _ _ _ => .stk, clo := fun _ _ => .stk, exi := P.exi, glb := fun g => P.glb[g]?, fuel := fuel }
  | n + 1 => { call := fun f as up => match P.defs[f]? with
                | some d => if as.length + (if d.clo then 1 else 0) = d.np && (up.isSome == d.clo) && argsOk d.io as then
                    (match up with
                    | none => endC (evS (orc P fuel n) d.body (frame0 d as none))
                    | some (u, b) => endC (evS { orc P fuel n with clo := fun _ ρ => (orc P fuel n).clo b ρ } d.body (frame0 d as (some (u, b)))))
                  else .stk
                | none => .stk
               clo := fun e ρ => evE (orc P fuel n) e ρ
               exi := P.exi, glb := fun g => P.glb[g]?, fuel := fuel }
end Ev
end
section
set_option Elab.async false
set_option linter.all false
set_option maxRecDepth 100000
set_option autoImplicit false
namespace Ev
open PySem L2 PySem.Spec PyProof.Rows

/-! ### data read off a part of the abstract heap -/
abbrev Fg := PySem.W.Frag
mutual
inductive Rp (K : Fg) (F : Hp) : V → D → Prop
  | non : Rp K F .non .none
  | bl (b : Bool) : Rp K F (.bl b) (.bool b)
  | int (i : Int) : Rp K F (.int i) (.int i)
  | str (x : Str) : Rp K F (.str x) (.str x)
  | lst {a : Addr} {xs : List V} {ds : List D} : F a = some (.lst xs) → Rps K F xs ds → Rp K F (.ref a) (.list ds)
  | scr {a : Addr} {xs : List V} {ds : List D} : SqL K F a xs → Rps K F xs ds → Rp K F (.ref a) (.dict [(.none, .list ds)])
  | tup {a : Addr} {xs : List V} {ds : List D} : SqT K F a xs → Rps K F xs ds → Rp K F (.ref a) (.tuple ds)
  | dic {a : Addr} : F a = some (.dK []) → Rp K F (.ref a) (.dict [])
inductive Rps (K : Fg) (F : Hp) : List V → List D → Prop
  | nil : Rps K F [] []
  | cons {v : V} {vs : List V} {d : D} {ds : List D} : Rp K F v d → Rps K F vs ds → Rps K F (v :: vs) (d :: ds)
end
abbrev Sub (F H : Hp) : Prop := Same F H
theorem Same.seqT {K : Fg} {H H' : Hp} {a : Addr} {xs : List V} (e : Same H H') (h : SqT K H a xs) : SqT K H' a xs := by
  rcases h with (h | ⟨o, h⟩) | h
  · exact .inl (.inl (e _ _ h))
  · exact .inl (.inr ⟨o, e _ _ h⟩)
  · exact .inr h
mutual
theorem Rp.mono {K : Fg} {F F' : Hp} (e : Sub F F') : ∀ {d : D} {v : V}, Rp K F v d → Rp K F' v d
  | _, _, .non => .non
  | _, _, .bl b => .bl b
  | _, _, .int i => .int i
  | _, _, .str x => .str x
  | _, _, .lst h r => .lst (e _ _ h) (Rps.mono e r)
  | _, _, .scr h r => .scr (e.seq h) (Rps.mono e r)
  | _, _, .tup h r => .tup (Same.seqT e h) (Rps.mono e r)
  | _, _, .dic h => .dic (e _ _ h)
theorem Rps.mono {K : Fg} {F F' : Hp} (e : Sub F F') : ∀ {ds : List D} {vs : List V}, Rps K F vs ds → Rps K F' vs ds
  | _, _, .nil => .nil
  | _, _, .cons h t => .cons (Rp.mono e h) (Rps.mono e t)
end
mutual
theorem Rp.dp {K : Fg} {F : Hp} : ∀ {d : D} {v : V}, Rp K F v d → d.canLay0 = true → Dp K F v d
  | _, _, .non, _ => .non
  | _, _, .bl b, _ => .bl b
  | _, _, .int i, _ => .int i
  | _, _, .str x, _ => .str x
  | .list ds, _, .lst h r, q => .lst (SqL.of h) (Rps.dp r (by simpa [PyData.canLay0] using q))
  | .tuple ds, _, .tup h r, q => .tup h (Rps.dp r (by simpa [PyData.canLay0] using q))
  | _, _, .dic _, q => by simp [PyData.canLay0] at q
  | _, _, .scr _ _, q => by simp [PyData.canLay0] at q
theorem Rps.dp {K : Fg} {F : Hp} : ∀ {ds : List D} {vs : List V}, Rps K F vs ds → PyData.canLayAll0 ds = true → DpAll K F vs ds
  | _, _, .nil, _ => .nil
  | d :: ds, _, .cons h t, q => by
    have q' : d.canLay0 = true ∧ PyData.canLayAll0 ds = true := by simpa [PyData.canLayAll0] using q
    exact .cons (Rp.dp h q'.1) (Rps.dp t q'.2)
end
theorem Rps.len {K : Fg} {F : Hp} : ∀ {ds : List D} {vs : List V}, Rps K F vs ds → vs.length = ds.length
  | _, _, .nil => rfl
  | _, _, .cons _ t => by simp [Rps.len t]
theorem Rps.app {K : Fg} {F : Hp} : ∀ {ds es : List D} {vs us : List V}, Rps K F vs ds → Rps K F us es → Rps K F (vs ++ us) (ds ++ es)
  | _, _, _, _, .nil, s => s
  | _, _, _, _, .cons h t, s => .cons h (Rps.app t s)
theorem Rps.get {K : Fg} {F : Hp} : ∀ {ds : List D} {vs : List V} {i : Nat} {d : D}, Rps K F vs ds → ds[i]? = some d → ∃ v, vs[i]? = some v ∧ Rp K F v d
  | _, _, _, _, .nil, e => by simp at e
  | _, _, 0, _, .cons h _, e => ⟨_, rfl, by simp at e; exact e ▸ h⟩
  | _, _, i + 1, d, .cons _ t, e => by
    obtain ⟨v, h1, h2⟩ := Rps.get (i := i) (d := d) t (by simpa using e)
    exact ⟨v, by simpa using h1, h2⟩
theorem Rps.getV {K : Fg} {F : Hp} : ∀ {ds : List D} {vs : List V} {i : Nat} {v : V}, Rps K F vs ds → vs[i]? = some v → ∃ d, ds[i]? = some d ∧ Rp K F v d
  | _, _, _, _, .nil, e => by simp at e
  | _, _, 0, _, .cons h _, e => ⟨_, rfl, by simp at e; exact e ▸ h⟩
  | _, _, i + 1, d, .cons _ t, e => by
    obtain ⟨v, h1, h2⟩ := Rps.getV (i := i) (v := d) t (by simpa using e)
    exact ⟨v, by simpa using h1, h2⟩
theorem Rps.set {K : Fg} {F : Hp} {v : V} {d : D} (h : Rp K F v d) : ∀ {ds : List D} {vs : List V} (i : Nat), Rps K F vs ds → Rps K F (vs.set i v) (ds.set i d)
  | _, _, _, .nil => .nil
  | _, _, 0, .cons _ t => .cons h t
  | _, _, i + 1, .cons q t => .cons q (Rps.set h i t)
theorem Rps.erase {K : Fg} {F : Hp} : ∀ {ds : List D} {vs : List V} (i : Nat), Rps K F vs ds → Rps K F (vs.eraseIdx i) (ds.eraseIdx i)
  | _, _, _, .nil => .nil
  | _, _, 0, .cons _ t => t
  | _, _, i + 1, .cons q t => .cons q (Rps.erase i t)
theorem Rps.take {K : Fg} {F : Hp} : ∀ {ds : List D} {vs : List V} (i : Nat), Rps K F vs ds → Rps K F (vs.take i) (ds.take i)
  | _, _, _, .nil => by simpa using .nil
  | _, _, 0, .cons _ t => .nil
  | _, _, i + 1, .cons q t => .cons q (Rps.take i t)
theorem Rps.drop {K : Fg} {F : Hp} : ∀ {ds : List D} {vs : List V} (i : Nat), Rps K F vs ds → Rps K F (vs.drop i) (ds.drop i)
  | _, _, _, .nil => by simpa using .nil
  | _, _, 0, .cons q t => .cons q t
  | _, _, i + 1, .cons q t => Rps.drop i t
theorem Rps.dropLast {K : Fg} {F : Hp} {ds : List D} {vs : List V} (h : Rps K F vs ds) : Rps K F vs.dropLast ds.dropLast := by
  rw [List.dropLast_eq_take, List.dropLast_eq_take, h.len]
  exact h.take _

/-! ### frames -/
/-- an exception's own dict -/
def XOk (C : Nat → Value) (x : Exn) (cls : Value) (d : Option Addr) (H : Hp) : Prop :=
  cls = C x.cls ∧ match x.arg with
    | none => d = none
    | some (.int i) => ∃ (p : Addr) (f : Str), d = some p ∧ H p = some (.xd [(f, .int i)])
    | some _ => False
/-- what hangs on the context alone: the written part, tables of code, the classes, the caught exception, the closure -/
structure Gx where
  K : Fg
  T : List NdefX.NTab
  C : Nat → Value
  e : Option (Addr × Value × Option Addr) := none
  u : Option (Addr × L2.St) := none
  io : Option Addr := none
  cd : List (Addr × HO) := []
def SlOk (G : Gx) (R F H : Hp) : Sl → Option (Option V) → Prop
  | .no, _ => True
  | .v d, w => ∃ v, w = some (some v) ∧ Rp G.K F v d
  | .ol xs, w => ∃ a vs, w = some (some (.ref a)) ∧ F a = none ∧ R a = none ∧ H a = some (.lst vs) ∧ Rps G.K F vs xs
  | .ex x, w => ∃ a cls d, G.e = some (a, cls, d) ∧ w = some (some (.ref a)) ∧ XOk G.C x cls d H
def ownAt (sl : List Sl) (σ : L2.St) (i : Nat) (a : Addr) : Prop := ∃ xs, sl[i]? = some (.ol xs) ∧ σ[i]? = some (some (.ref a))
structure Ms (G : Gx) (R F : Hp) (sl : List Sl) (σ : L2.St) (H : Hp) : Prop where
  len : sl.length = σ.length
  at_ : ∀ (i : Nat) (s : Sl), sl[i]? = some s → SlOk G R F H s σ[i]?
  dj : ∀ i j a, ownAt sl σ i a → ownAt sl σ j a → i = j
abbrev NoT (F : Hp) : Prop := ∀ a ps, F a ≠ some (.tbl ps)
def UpOk (P : List Sl → L2.St → Prop) : Option (List Sl × E) → Option (Addr × L2.St) → Prop
  | none, none => True
  | some (sc, _), some (_, σc) => P sc σc
  | _, _ => False
structure Mt (G : Gx) (R F : Hp) (ρ : Fr) (σ : L2.St) (H : Hp) : Prop where
  r : Sub R H
  f : Sub F H
  nr : NoT R
  nf : NoT F
  tab : NdefX.TabsN G.T H
  kn : ∀ p ∈ G.cd, R p.1 = some p.2
  me : Ms G R F ρ.sl σ H
  io : ρ.io = true → ∃ a, G.io = some a ∧ σ[0]? = some (some (.ref a))
  up : UpOk (fun sc σc => Ms G R F sc σc H ∧ ∀ i j a, ownAt ρ.sl σ i a → ¬ ownAt sc σc j a) ρ.up G.u
/-- a step of knowledge: more is frozen, nothing of the rest -/
structure Ef (R F F' : Hp) : Prop where
  ff : Sub F F'
  nw : ∀ a, R a ≠ none → F' a ≠ none → F a ≠ none
theorem Ef.refl {R F : Hp} : Ef R F F := ⟨Same.refl _, fun _ _ h => h⟩
theorem Ef.trans {R F F' F'' : Hp} (a : Ef R F F') (b : Ef R F' F'') : Ef R F F'' := ⟨a.ff.trans b.ff, fun x h1 h2 => a.nw x h1 (b.nw x h1 h2)⟩
/-- fresh frozen objects alone -/
structure Nu (F H F' H' : Hp) : Prop where
  hh : Sub H H'
  ff : Sub F F'
  fh : Sub F' H'
  nw : ∀ a, F' a ≠ none → F a ≠ none ∨ H a = none
  nf : NoT F'
theorem Nu.refl {F H : Hp} (f : Sub F H) (n : NoT F) : Nu F H F H := ⟨Same.refl _, Same.refl _, f, fun _ h => .inl h, n⟩
theorem Nu.ef {R F H F' H' : Hp} (n : Nu F H F' H') (r : Sub R H) : Ef R F F' := ⟨n.ff, fun a h1 h2 => (n.nw a h2).elim id fun z => absurd (r a) (by
  cases q : R a with
  | none => exact fun _ => h1 q
  | some o => exact fun z2 => by have := z2 o rfl; rw [z] at this; cases this)⟩
theorem Nu.trans {F H F' H' F'' H'' : Hp} (a : Nu F H F' H') (b : Nu F' H' F'' H'') : Nu F H F'' H'' :=
  ⟨a.hh.trans b.hh, a.ff.trans b.ff, b.fh, fun x h => (b.nw x h).elim (a.nw x) fun z => .inr (a.hh.free z), b.nf⟩
theorem same_new {H : Hp} {p : Addr} {o : HO} (h : H p = none) : Sub H (upd H p o) := fun b x e => by
  rw [upd_ne (ne_of_none e h)]
  exact e
/-- a new frozen object -/
theorem Nu.new {F H : Hp} {p : Addr} {o : HO} (f : Sub F H) (n : NoT F) (h : H p = none) (ho : ∀ ps, o ≠ .tbl ps) : Nu F H (upd F p o) (upd H p o) := by
  have hf : F p = none := f.free h
  refine ⟨same_new h, same_new hf, fun b x e => ?_, fun a ha => ?_, fun a ps e => ?_⟩
  · by_cases hb : b = p
    · subst hb
      rw [upd_same] at e ⊢
      exact e
    · rw [upd_ne hb] at e ⊢
      exact f _ _ e
  · by_cases hb : a = p
    · exact .inr (hb ▸ h)
    · rw [upd_ne hb] at ha
      exact .inl ha
  · by_cases hb : a = p
    · subst hb
      rw [upd_same] at e
      exact ho ps (Option.some.inj e)
    · rw [upd_ne hb] at e
      exact n _ _ e
/-- a new object that stays one's own -/
theorem Nu.own {F H : Hp} {p : Addr} {o : HO} (f : Sub F H) (n : NoT F) (h : H p = none) : Nu F H F (upd H p o) :=
  ⟨same_new h, Same.refl _, f.trans (same_new h), fun _ z => .inl z, n⟩
theorem NoT.upd {F : Hp} {p : Addr} {o : HO} (n : NoT F) (ho : ∀ ps, o ≠ .tbl ps) : NoT (upd F p o) := fun a ps e => by
  by_cases hb : a = p
  · subst hb
    rw [upd_same] at e
    exact ho ps (Option.some.inj e)
  · rw [upd_ne hb] at e
    exact n _ _ e

section
variable {G : Gx} {R F H F' H' : Hp} {ρ : Fr} {σ : L2.St} {sl : List Sl}
theorem XOk.mono {C : Nat → Value} {x : Exn} {cls : Value} {d : Option Addr} (e : Sub H H') (h : XOk C x cls d H) : XOk C x cls d H' := by
  obtain ⟨h1, h2⟩ := h
  refine ⟨h1, ?_⟩
  revert h2
  split
  · exact id
  · rintro ⟨p, f, a, b⟩
    exact ⟨p, f, a, e _ _ b⟩
  · exact id
theorem Ms.ext (m : Ms G R F sl σ H) (n : Nu F H F' H') : Ms G R F' sl σ H' := by
  refine ⟨m.len, fun i s e => ?_, m.dj⟩
  have q := m.at_ i s e
  cases s with
  | no => trivial
  | v d =>
    obtain ⟨v, h1, h2⟩ := q
    exact ⟨v, h1, h2.mono n.ff⟩
  | ol xs =>
    obtain ⟨a, vs, h1, h2, h3, h4, h5⟩ := q
    refine ⟨a, vs, h1, ?_, h3, n.hh _ _ h4, h5.mono n.ff⟩
    cases q : F' a with
    | none => rfl
    | some o =>
      rcases n.nw a (by rw [q]; simp) with z | z
      · exact absurd h2 z
      · rw [h4] at z
        cases z
  | ex x =>
    obtain ⟨a, cls, d, h1, h2, h3⟩ := q
    exact ⟨a, cls, d, h1, h2, h3.mono n.hh⟩
theorem up_sub {P P' : List Sl → L2.St → Prop} : ∀ {o : Option (List Sl × E)} {u : Option (Addr × L2.St)}, UpOk P o u →
    (∀ sc b p σc, o = some (sc, b) → u = some (p, σc) → P sc σc → P' sc σc) → UpOk P' o u
  | none, none, _, _ => trivial
  | some (sc, b), some (p, σc), h, k => k sc b p σc rfl rfl h
theorem Mt.ext (m : Mt G R F ρ σ H) (n : Nu F H F' H') : Mt G R F' ρ σ H' := by
  refine ⟨m.r.trans n.hh, n.fh, m.nr, n.nf, m.tab.ext fun b o e => n.hh b o e, m.kn, m.me.ext n, m.io, ?_⟩
  exact up_sub m.up fun _ _ _ _ _ _ ⟨a, b⟩ => ⟨a.ext n, b⟩

/-! #### slots stored -/
theorem set_at {α : Type} {l : List α} {i j : Nat} {x y : α} (h : (l.set i x)[j]? = some y) : (j = i ∧ y = x) ∨ (j ≠ i ∧ l[j]? = some y) := by
  by_cases e : i = j
  · subst e
    by_cases hl : i < l.length
    · rw [List.getElem?_set_self hl] at h
      exact .inl ⟨rfl, (Option.some.inj h).symm⟩
    · rw [List.getElem?_eq_none (by simpa using hl)] at h
      cases h
  · rw [List.getElem?_set_ne e] at h
    exact .inr ⟨fun z => e z.symm, h⟩
theorem ownAt_set {sl : List Sl} {σ : L2.St} {i j : Nat} {a : Addr} {s : Sl} {w : Option V} (h : ownAt (sl.set i s) (σ.set i w) j a) : (j = i ∧ (∃ xs, s = .ol xs) ∧ w = some (.ref a)) ∨ (j ≠ i ∧ ownAt sl σ j a) := by
  obtain ⟨xs, h1, h2⟩ := h
  rcases set_at h1 with ⟨e, e1⟩ | ⟨e, e1⟩
  · rcases set_at h2 with ⟨_, e2⟩ | ⟨z, _⟩
    · exact .inl ⟨e, ⟨xs, e1.symm⟩, e2.symm⟩
    · exact absurd e z
  · rcases set_at h2 with ⟨z, _⟩ | ⟨_, e2⟩
    · exact absurd z e
    · exact .inr ⟨e, xs, e1, e2⟩
theorem ownAt_set1 {sl : List Sl} {σ : L2.St} {i j : Nat} {a : Addr} {s : Sl} (h : ownAt (sl.set i s) σ j a) : (j = i ∧ (∃ xs, s = .ol xs) ∧ σ[i]? = some (some (.ref a))) ∨ (j ≠ i ∧ ownAt sl σ j a) := by
  obtain ⟨xs, h1, h2⟩ := h
  rcases set_at h1 with ⟨e, e1⟩ | ⟨e, e1⟩
  · exact .inl ⟨e, ⟨xs, e1.symm⟩, e ▸ h2⟩
  · exact .inr ⟨e, xs, e1, h2⟩
theorem Ms.set {i : Nat} {s : Sl} {w : Option V} (m : Ms G R F sl σ H) (h : SlOk G R F H s (some w)) (hd : ∀ xs a, s = .ol xs → w = some (.ref a) → ∀ j, j ≠ i → ¬ ownAt sl σ j a) : Ms G R F (sl.set i s) (σ.set i w) H := by
  refine ⟨by simp [m.len], fun j u e => ?_, fun j k a h1 h2 => ?_⟩
  · rcases set_at e with ⟨rfl, rfl⟩ | ⟨hj, e⟩
    · have hl : j < sl.length := by
        have := (List.getElem?_eq_some_iff.mp e).1
        simpa using this
      rw [List.getElem?_set_self (m.len ▸ hl)]
      exact h
    · rw [List.getElem?_set_ne (Ne.symm hj)]
      exact m.at_ j u e
  · rcases ownAt_set h1 with ⟨e1, ⟨xs, es⟩, ew⟩ | ⟨n1, o1⟩
    · rcases ownAt_set h2 with ⟨e2, _⟩ | ⟨n2, o2⟩
      · rw [e1, e2]
      · exact absurd o2 (hd xs a es ew k n2)
    · rcases ownAt_set h2 with ⟨e2, ⟨xs, es⟩, ew⟩ | ⟨n2, o2⟩
      · exact absurd o1 (hd xs a es ew j n1)
      · exact m.dj j k a o1 o2
/-- the slot's view alone changes -/
theorem Ms.set1 {i : Nat} {s : Sl} (m : Ms G R F sl σ H) (h : i < sl.length → SlOk G R F H s σ[i]?) (hd : ∀ xs a, s = .ol xs → σ[i]? = some (some (.ref a)) → ∀ j, j ≠ i → ¬ ownAt sl σ j a) : Ms G R F (sl.set i s) σ H := by
  refine ⟨by simp [m.len], fun j u e => ?_, fun j k a h1 h2 => ?_⟩
  · rcases set_at e with ⟨rfl, rfl⟩ | ⟨hj, e⟩
    · have hl : j < sl.length := by
        have := (List.getElem?_eq_some_iff.mp e).1
        simpa using this
      exact h hl
    · exact m.at_ j u e
  · rcases ownAt_set1 h1 with ⟨e1, ⟨xs, es⟩, ew⟩ | ⟨n1, o1⟩
    · rcases ownAt_set1 h2 with ⟨e2, _⟩ | ⟨n2, o2⟩
      · rw [e1, e2]
      · exact absurd o2 (hd xs a es ew k n2)
    · rcases ownAt_set1 h2 with ⟨e2, ⟨xs, es⟩, ew⟩ | ⟨n2, o2⟩
      · exact absurd o1 (hd xs a es ew j n1)
      · exact m.dj j k a o1 o2
/-- a is no own address of the frame or of the one above -/
def Fresh (G : Gx) (ρ : Fr) (σ : L2.St) (a : Addr) : Prop := (∀ j, ¬ ownAt ρ.sl σ j a) ∧ ∀ sc b p σc, ρ.up = some (sc, b) → G.u = some (p, σc) → ∀ j, ¬ ownAt sc σc j a
theorem io_set {i : Nat} {w : Option V} (m : Mt G R F ρ σ H) (hp : (ρ.io && i == 0) = false) : ρ.io = true → ∃ a, G.io = some a ∧ (σ.set i w)[0]? = some (some (.ref a)) := fun h => by
  obtain ⟨a, h1, h2⟩ := m.io h
  refine ⟨a, h1, ?_⟩
  have hi : i ≠ 0 := by
    rintro rfl
    rw [h] at hp
    cases hp
  rw [List.getElem?_set_ne hi]
  exact h2
theorem put_of {i : Nat} {s : Sl} {ρ1 : Fr} (h : ρ.put i s = some ρ1) : (ρ.io && i == 0) = false ∧ ρ1 = ρ.set i s := by
  unfold Fr.put at h
  split at h
  · cases h
  · rename_i hn
    exact ⟨by simpa using hn, (Option.some.inj h).symm⟩
/-- data stored -/
theorem Mt.setv {i : Nat} {d : D} {v : V} (m : Mt G R F ρ σ H) (hp : (ρ.io && i == 0) = false) (h : Rp G.K F v d) : Mt G R F (ρ.set i (.v d)) (σ.set i (some v)) H := by
  refine ⟨m.r, m.f, m.nr, m.nf, m.tab, m.kn, m.me.set ⟨v, rfl, h⟩ (fun xs a e => by cases e), io_set (G := G) (ρ := ρ) m hp, ?_⟩
  refine up_sub (P' := fun sc σc => Ms G R F sc σc H ∧ ∀ j k a, ownAt (ρ.sl.set i (.v d)) (σ.set i (some v)) j a → ¬ ownAt sc σc k a) m.up fun sc b p σc _ _ ⟨h1, h2⟩ => ⟨h1, fun j k a o => ?_⟩
  rcases ownAt_set o with ⟨_, ⟨xs, z⟩, _⟩ | ⟨_, o⟩
  · cases z
  · exact h2 j k a o
/-- a fresh list stored as one's own -/
theorem Mt.setol {i : Nat} {xs : List D} {vs : List V} {a : Addr} (m : Mt G R F ρ σ H) (hp : (ρ.io && i == 0) = false) (hF : F a = none) (hR : R a = none) (hH : H a = some (.lst vs)) (h : Rps G.K F vs xs) (fr : Fresh G ρ σ a) :
    Mt G R F (ρ.set i (.ol xs)) (σ.set i (some (.ref a))) H := by
  refine ⟨m.r, m.f, m.nr, m.nf, m.tab, m.kn, m.me.set ⟨a, vs, rfl, hF, hR, hH, h⟩ (fun ys b e1 e2 j _ => ?_), io_set (G := G) (ρ := ρ) m hp, ?_⟩
  · cases e2
    exact fr.1 j
  · refine up_sub (P' := fun sc σc => Ms G R F sc σc H ∧ ∀ j k b, ownAt (ρ.sl.set i (.ol xs)) (σ.set i (some (.ref a))) j b → ¬ ownAt sc σc k b) m.up fun sc b p σc e1 e2 ⟨h1, h2⟩ => ⟨h1, fun j k c o => ?_⟩
    rcases ownAt_set o with ⟨_, _, z⟩ | ⟨_, o⟩
    · cases z
      exact fr.2 sc b p σc e1 e2 k
    · exact h2 j k c o
/-- a slot forgotten -/
theorem Mt.drop {i : Nat} (m : Mt G R F ρ σ H) : Mt G R F (ρ.set i .no) σ H := by
  refine ⟨m.r, m.f, m.nr, m.nf, m.tab, m.kn, m.me.set1 (fun _ => trivial) (fun xs a e => by cases e), m.io, ?_⟩
  refine up_sub (P' := fun sc σc => Ms G R F sc σc H ∧ ∀ j k a, ownAt (ρ.sl.set i .no) σ j a → ¬ ownAt sc σc k a) m.up fun sc b p σc _ _ ⟨h1, h2⟩ => ⟨h1, fun j k a o => ?_⟩
  rcases ownAt_set1 o with ⟨_, ⟨xs, z⟩, _⟩ | ⟨_, o⟩
  · cases z
  · exact h2 j k a o
theorem Mt.wipe : ∀ {l : List Nat} {ρ : Fr}, Mt G R F ρ σ H → Mt G R F (ρ.wipe l) σ H
  | [], _, m => m
  | i :: l, ρ, m => Mt.wipe (l := l) (ρ := ρ.set i .no) (Mt.drop (i := i) m)
theorem get_ol {i : Nat} {xs : List D} (h : ρ.get i = .ol xs) : ρ.sl[i]? = some (.ol xs) := by
  unfold Fr.get at h
  cases q : ρ.sl[i]? with
  | none => rw [q] at h; cases h
  | some s => rw [q] at h; exact congrArg some h
theorem get_v {i : Nat} {d : D} (h : ρ.get i = .v d) : ρ.sl[i]? = some (.v d) := by
  unfold Fr.get at h
  cases q : ρ.sl[i]? with
  | none => rw [q] at h; cases h
  | some s => rw [q] at h; exact congrArg some h
theorem get_ex {i : Nat} {x : Exn} (h : ρ.get i = .ex x) : ρ.sl[i]? = some (.ex x) := by
  unfold Fr.get at h
  cases q : ρ.sl[i]? with
  | none => rw [q] at h; cases h
  | some s => rw [q] at h; exact congrArg some h
/-- all but one own object stay -/
theorem Ms.but {a : Addr} {o : HO} (m : Ms G R F sl σ H) (ha : ∀ j, ¬ ownAt sl σ j a) (hxd : ∀ fs, H a ≠ some (.xd fs)) : Ms G R F sl σ (upd H a o) := by
  refine ⟨m.len, fun j s e => ?_, m.dj⟩
  have q := m.at_ j s e
  cases s with
  | no => trivial
  | v d => exact q
  | ol xs =>
    obtain ⟨b, vs, h1, h2, h3, h4, h5⟩ := q
    exact ⟨b, vs, h1, h2, h3, by rw [upd_ne fun z => ha j ⟨xs, e, by rw [h1, z]⟩]; exact h4, h5⟩
  | ex x =>
    obtain ⟨b, cls, d, h1, h2, h3, h4⟩ := q
    refine ⟨b, cls, d, h1, h2, h3, ?_⟩
    revert h4
    split
    · exact id
    · rintro ⟨p, f, e1, e2⟩
      exact ⟨p, f, e1, by rw [upd_ne fun z => hxd _ (z ▸ e2)]; exact e2⟩
    · exact id
/-- an own list written -/
theorem Mt.write {i : Nat} {xs ys : List D} {vs us : List V} {a : Addr} (m : Mt G R F ρ σ H) (hi : ρ.get i = .ol xs) (hσ : σ[i]? = some (some (.ref a))) (h : Rps G.K F us ys) : Mt G R F (ρ.set i (.ol ys)) σ (upd H a (.lst us)) := by
  have hi' := get_ol hi
  obtain ⟨b, ws, h1, h2, h3, h4, h5⟩ := m.me.at_ i _ hi'
  rw [hσ] at h1
  cases h1
  have own : ownAt ρ.sl σ i a := ⟨xs, hi', hσ⟩
  have sub : ∀ {B : Hp}, B a = none → Sub B H → Sub B (upd H a (.lst us)) := fun {B} n s b o e => by
    rw [upd_ne fun z => by rw [z, n] at e; cases e]
    exact s b o e
  refine ⟨sub h3 m.r, sub h2 m.f, m.nr, m.nf, ?_, m.kn, ?_, m.io, ?_⟩
  · intro p hp
    obtain ⟨ps, q1, q2, q3⟩ := m.tab p hp
    refine ⟨ps, by rw [upd_ne fun z => by rw [z, h4] at q1; cases q1]; exact q1, q2, fun pos cv hc => ?_⟩
    obtain ⟨c, e1, e2⟩ := q3 pos cv hc
    exact ⟨c, e1, by rw [upd_ne fun z => by rw [z, h4] at e2; cases e2]; exact e2⟩
  · refine ⟨(List.length_set ..).trans m.me.len, fun j u e => ?_, fun j k b h1 h2 => ?_⟩
    · rcases set_at e with ⟨rfl, rfl⟩ | ⟨hj, e⟩
      · exact ⟨a, us, hσ, h2, h3, upd_same, h⟩
      · have q := m.me.at_ j u e
        cases u with
        | no => trivial
        | v d => exact q
        | ol zs =>
          obtain ⟨b, vs', g1, g2, g3, g4, g5⟩ := q
          refine ⟨b, vs', g1, g2, g3, ?_, g5⟩
          rw [upd_ne fun z => hj (m.me.dj j i a ⟨zs, e, by rw [g1, z]⟩ own)]
          exact g4
        | ex x =>
          obtain ⟨b, cls, d, g1, g2, g3, g4⟩ := q
          refine ⟨b, cls, d, g1, g2, g3, ?_⟩
          revert g4
          split
          · exact id
          · rintro ⟨p, f, e1, e2⟩
            exact ⟨p, f, e1, by rw [upd_ne fun z => by rw [z, h4] at e2; cases e2]; exact e2⟩
          · exact id
    · have back : ∀ {j b}, ownAt (ρ.sl.set i (.ol ys)) σ j b → ownAt ρ.sl σ j b := fun {j b} o => by
        rcases ownAt_set1 o with ⟨e, _, z⟩ | ⟨_, o⟩
        · exact ⟨xs, e ▸ hi', e ▸ z⟩
        · exact o
      exact m.me.dj j k b (back h1) (back h2)
  · refine up_sub (P' := fun sc σc => Ms G R F sc σc (upd H a (.lst us)) ∧ ∀ j k c, ownAt (ρ.sl.set i (.ol ys)) σ j c → ¬ ownAt sc σc k c) m.up fun sc b p σc _ _ ⟨g1, g2⟩ => ⟨g1.but (fun j => g2 i j a own) (fun fs z => by rw [h4] at z; cases z), fun j k c o => ?_⟩
    rcases ownAt_set1 o with ⟨e, _, z⟩ | ⟨_, o⟩
    · exact g2 j k c ⟨xs, e ▸ hi', e ▸ z⟩
    · exact g2 j k c o
theorem Ms.frz {a : Addr} {o : HO} (m : Ms G R F sl σ H) (ha : ∀ j, ¬ ownAt sl σ j a) (n : F a = none) : Ms G R (upd F a o) sl σ H := by
  refine ⟨m.len, fun j s e => ?_, m.dj⟩
  have q := m.at_ j s e
  cases s with
  | no => trivial
  | v d =>
    obtain ⟨v, h1, h2⟩ := q
    exact ⟨v, h1, h2.mono (same_new n)⟩
  | ol xs =>
    obtain ⟨b, vs, h1, h2, h3, h4, h5⟩ := q
    exact ⟨b, vs, h1, by rw [upd_ne fun z => ha j ⟨xs, e, by rw [h1, z]⟩]; exact h2, h3, h4, h5.mono (same_new n)⟩
  | ex x => exact q
/-- a known object of one's own is frozen -/
theorem ef_frz {a : Addr} {o : HO} (hF : F a = none) (hR : R a = none) : Ef R F (upd F a o) := by
  refine ⟨same_new hF, fun b h1 h2 => ?_⟩
  by_cases hb : b = a
  · exact absurd hR (hb ▸ h1)
  · rw [upd_ne hb] at h2
    exact h2
theorem sub_frz {a : Addr} {o : HO} (f : Sub F H) (hH : H a = some o) : Sub (upd F a o) H := fun b u e => by
  by_cases hb : b = a
  · subst hb
    rw [upd_same] at e
    rw [hH]
    exact e
  · rw [upd_ne hb] at e
    exact f b u e
/-- an own list frozen -/
theorem Mt.freeze {i : Nat} {xs : List D} (m : Mt G R F ρ σ H) (hi : ρ.get i = .ol xs) : ∃ a F', σ[i]? = some (some (.ref a)) ∧ Ef R F F' ∧ Mt G R F' (ρ.set i (.v (.list xs))) σ H ∧ Rp G.K F' (.ref a) (.list xs) := by
  have hi' := get_ol hi
  obtain ⟨a, vs, h1, h2, h3, h4, h5⟩ := m.me.at_ i _ hi'
  have own : ownAt ρ.sl σ i a := ⟨xs, hi', h1⟩
  have rp : Rp G.K (upd F a (.lst vs)) (.ref a) (.list xs) := .lst upd_same (h5.mono (same_new h2))
  refine ⟨a, upd F a (.lst vs), h1, ef_frz h2 h3, ⟨m.r, sub_frz m.f h4, m.nr, m.nf.upd (fun _ z => by cases z), m.tab, m.kn, ?_, m.io, ?_⟩, rp⟩
  · have base : Ms G R F (ρ.sl.set i .no) σ H := m.me.set1 (fun _ => trivial) (fun xs a e => by cases e)
    have fr : ∀ j, ¬ ownAt (ρ.sl.set i .no) σ j a := fun j o => by
      rcases ownAt_set1 o with ⟨_, ⟨_, z⟩, _⟩ | ⟨n, o⟩
      · cases z
      · exact n (m.me.dj j i a o own)
    have q := (base.frz (o := .lst vs) fr h2).set1 (i := i) (s := .v (.list xs)) (fun _ => ⟨_, h1, rp⟩) (fun ys b e => by cases e)
    rw [List.set_set] at q
    exact q
  · refine up_sub (P' := fun sc σc => Ms G R (upd F a (.lst vs)) sc σc H ∧ ∀ j k c, ownAt (ρ.sl.set i (.v (.list xs))) σ j c → ¬ ownAt sc σc k c) m.up fun sc b p σc _ _ ⟨g1, g2⟩ => ⟨g1.frz (fun j => g2 i j a own) h2, fun j k c o => ?_⟩
    rcases ownAt_set1 o with ⟨_, ⟨_, z⟩, _⟩ | ⟨_, o⟩
    · cases z
    · exact g2 j k c o
/-- a fresh list that no slot holds is frozen -/
theorem Mt.frz {a : Addr} {vs : List V} (m : Mt G R F ρ σ H) (hF : F a = none) (hR : R a = none) (hH : H a = some (.lst vs)) (fr : Fresh G ρ σ a) : Mt G R (upd F a (.lst vs)) ρ σ H :=
  ⟨m.r, sub_frz m.f hH, m.nr, m.nf.upd (fun _ z => by cases z), m.tab, m.kn, m.me.frz fr.1 hF, m.io,
    up_sub (P' := fun sc σc => Ms G R (upd F a (.lst vs)) sc σc H ∧ ∀ j k c, ownAt ρ.sl σ j c → ¬ ownAt sc σc k c) m.up fun sc b p σc e1 e2 ⟨g1, g2⟩ => ⟨g1.frz (fun j => fr.2 sc b p σc e1 e2 j) hF, g2⟩⟩
end
end Ev
end
section
set_option Elab.async false
set_option linter.all false
set_option maxRecDepth 100000
set_option autoImplicit false
namespace Ev
open PySem L2 PySem.Spec PyProof.Rows
section
variable {G : Gx} {R F H F' H' : Hp} {ρ : Fr} {σ : L2.St} {sl : List Sl}
/-! #### objects held back -/
theorem sub_upd {a : Addr} {o : HO} (s : Sub R H) (h : H a = some o) : Sub (upd R a o) H := sub_frz s h
theorem Ms.hold {a : Addr} {o : HO} (m : Ms G R F sl σ H) (ha : ∀ j, ¬ ownAt sl σ j a) : Ms G (upd R a o) F sl σ H := by
  refine ⟨m.len, fun j s e => ?_, m.dj⟩
  have q := m.at_ j s e
  cases s with
  | no => trivial
  | v d => exact q
  | ol xs =>
    obtain ⟨b, vs, h1, h2, h3, h4, h5⟩ := q
    exact ⟨b, vs, h1, h2, by rw [upd_ne fun z => ha j ⟨xs, e, by rw [h1, z]⟩]; exact h3, h4, h5⟩
  | ex x => exact q
theorem Mt.kn_upd {a : Addr} {o : HO} (m : Mt G R F ρ σ H) (h : H a = some o) : ∀ p ∈ G.cd, (upd R a o) p.1 = some p.2 := fun p hp => by
  have q := m.kn p hp
  by_cases e : p.1 = a
  · rw [e, upd_same]
    have z := m.r _ _ q
    rw [e, h] at z
    exact z
  · rw [upd_ne e]
    exact q
theorem Mt.hold {a : Addr} {o : HO} (m : Mt G R F ρ σ H) (h : H a = some o) (ht : ∀ ps, o ≠ .tbl ps) (fr : Fresh G ρ σ a) : Mt G (upd R a o) F ρ σ H :=
  ⟨sub_upd m.r h, m.f, m.nr.upd ht, m.nf, m.tab, m.kn_upd h, m.me.hold fr.1, m.io,
    up_sub (P' := fun sc σc => Ms G (upd R a o) F sc σc H ∧ ∀ j k c, ownAt ρ.sl σ j c → ¬ ownAt sc σc k c) m.up fun sc b p σc e1 e2 ⟨g1, g2⟩ => ⟨g1.hold fun j => fr.2 sc b p σc e1 e2 j, g2⟩⟩
theorem Ms.unhold {a : Addr} {o : HO} (m : Ms G (upd R a o) F sl σ H) (hR : R a = none) : Ms G R F sl σ H ∧ ∀ j, ¬ ownAt sl σ j a := by
  have key : ∀ j, ¬ ownAt sl σ j a := fun j ⟨xs, h1, h2⟩ => by
    obtain ⟨b, vs, g1, g2, g3, g4, g5⟩ := m.at_ j _ h1
    rw [h2] at g1
    cases g1
    rw [upd_same] at g3
    cases g3
  refine ⟨⟨m.len, fun j s e => ?_, m.dj⟩, key⟩
  have q := m.at_ j s e
  cases s with
  | no => trivial
  | v d => exact q
  | ol xs =>
    obtain ⟨b, vs, h1, h2, h3, h4, h5⟩ := q
    refine ⟨b, vs, h1, h2, ?_, h4, h5⟩
    by_cases hb : b = a
    · rw [hb]
      exact hR
    · rw [upd_ne hb] at h3
      exact h3
  | ex x => exact q
theorem Mt.unhold {a : Addr} {o : HO} (m : Mt G (upd R a o) F ρ σ H) (hR : R a = none) (hcd : ∀ p ∈ G.cd, R p.1 = some p.2) : Mt G R F ρ σ H ∧ H a = some o ∧ Fresh G ρ σ a := by
  have k := m.me.unhold hR
  have sR : Sub R H := fun b u e => m.r b u (by rw [upd_ne fun z => by rw [z, hR] at e; cases e]; exact e)
  have nR : NoT R := fun b ps e => m.nr b ps (by rw [upd_ne fun z => by rw [z, hR] at e; cases e]; exact e)
  refine ⟨⟨sR, m.f, nR, m.nf, m.tab, hcd, k.1, m.io, ?_⟩, m.r _ _ upd_same, k.2, ?_⟩
  · exact up_sub (P' := fun sc σc => Ms G R F sc σc H ∧ ∀ j k c, ownAt ρ.sl σ j c → ¬ ownAt sc σc k c) m.up fun sc b p σc e1 e2 ⟨g1, g2⟩ => ⟨(g1.unhold hR).1, g2⟩
  · intro sc b p σc e1 e2 j
    have q := m.up
    rw [e1, e2] at q
    exact (q.1.unhold hR).2 j
theorem Ef.unhold {a : Addr} {o : HO} (e : Ef (upd R a o) F F') (hR : R a = none) : Ef R F F' := ⟨e.ff, fun b h1 h2 => e.nw b (by
  by_cases hb : b = a
  · rw [hb, upd_same]
    simp
  · rw [upd_ne hb]
    exact h1) h2⟩
theorem Ef.held {a : Addr} {o : HO} (e : Ef (upd R a o) F F') (hF : F a = none) : F' a = none := by
  cases q : F' a with
  | none => rfl
  | some u => exact absurd hF (e.nw a (by rw [upd_same]; simp) (by rw [q]; simp))

/-! #### calls: what is one's own is held back -/
/-- a is an own address of the frame (slot i excepted) or of the frame above -/
def OwnX (G : Gx) (ρ : Fr) (σ : L2.St) (i : Option Nat) (a : Addr) : Prop := (∃ j, some j ≠ i ∧ ownAt ρ.sl σ j a) ∨ ∃ sc b p σc, ρ.up = some (sc, b) ∧ G.u = some (p, σc) ∧ ∃ j, ownAt sc σc j a
open Classical in
noncomputable def Rw (R : Hp) (p : Addr → Prop) (H : Hp) : Hp := fun a => if p a then H a else R a
theorem Rw.pos {R : Hp} {p : Addr → Prop} {H : Hp} {a : Addr} (h : p a) : Rw R p H a = H a := by
  unfold Rw
  exact if_pos h
theorem Rw.neg {R : Hp} {p : Addr → Prop} {H : Hp} {a : Addr} (h : ¬ p a) : Rw R p H a = R a := by
  unfold Rw
  exact if_neg h
theorem OwnX.is (m : Mt G R F ρ σ H) {i : Option Nat} {a : Addr} (h : OwnX G ρ σ i a) : F a = none ∧ R a = none ∧ ∃ vs, H a = some (.lst vs) := by
  rcases h with ⟨j, _, xs, h1, h2⟩ | ⟨sc, b, p, σc, e1, e2, j, xs, h1, h2⟩
  · obtain ⟨c, vs, g1, g2, g3, g4, _⟩ := m.me.at_ j _ h1
    rw [h2] at g1
    cases g1
    exact ⟨g2, g3, vs, g4⟩
  · have q := m.up
    rw [e1, e2] at q
    obtain ⟨c, vs, g1, g2, g3, g4, _⟩ := q.1.at_ j _ h1
    rw [h2] at g1
    cases g1
    exact ⟨g2, g3, vs, g4⟩
theorem Mt.rw (m : Mt G R F ρ σ H) (i : Option Nat) : Sub (Rw R (OwnX G ρ σ i) H) H ∧ NoT (Rw R (OwnX G ρ σ i) H) := by
  refine ⟨fun a o e => ?_, fun a ps e => ?_⟩
  · by_cases h : OwnX G ρ σ i a
    · rw [Rw.pos h] at e
      exact e
    · rw [Rw.neg h] at e
      exact m.r _ _ e
  · by_cases h : OwnX G ρ σ i a
    · rw [Rw.pos h] at e
      obtain ⟨_, _, vs, z⟩ := h.is m
      rw [z] at e
      cases e
    · rw [Rw.neg h] at e
      exact m.nr _ _ e
theorem Sub.ofRw {p : Addr → Prop} (s : Sub (Rw R p H) H') (h : ∀ a, p a → R a = none) : Sub R H' := fun a o e => s a o (by
  by_cases q : p a
  · rw [h a q] at e
    cases e
  · rw [Rw.neg q]
    exact e)
theorem Ef.ofRw {p : Addr → Prop} (s : Ef (Rw R p H) F F') (h : ∀ a, p a → R a = none) : Ef R F F' := ⟨s.ff, fun a h1 h2 => s.nw a (by
  by_cases q : p a
  · exact absurd (h a q) h1
  · rw [Rw.neg q]
    exact h1) h2⟩
theorem Ms.called {p : Addr → Prop} (m : Ms G R F sl σ H) (hp : ∀ j a, ownAt sl σ j a → p a) (s : Sub (Rw R p H) H') (e : Ef (Rw R p H) F F') (he : G.e = none) : Ms G R F' sl σ H' := by
  refine ⟨m.len, fun j u q => ?_, m.dj⟩
  have z := m.at_ j u q
  cases u with
  | no => trivial
  | v d =>
    obtain ⟨v, h1, h2⟩ := z
    exact ⟨v, h1, h2.mono e.ff⟩
  | ol xs =>
    obtain ⟨b, vs, h1, h2, h3, h4, h5⟩ := z
    have pb := hp j b ⟨xs, q, h1⟩
    have rb : Rw R p H b = some (.lst vs) := (Rw.pos pb).trans h4
    refine ⟨b, vs, h1, ?_, h3, s _ _ rb, h5.mono e.ff⟩
    cases q2 : F' b with
    | none => rfl
    | some u => exact absurd h2 (e.nw b (by rw [rb]; simp) (by rw [q2]; simp))
  | ex x =>
    obtain ⟨a, cls, d, h1, _⟩ := z
    rw [he] at h1
    cases h1
theorem Mt.called (m : Mt G R F ρ σ H) (he : G.e = none) (s : Sub (Rw R (OwnX G ρ σ none) H) H') (f : Sub F' H') (e : Ef (Rw R (OwnX G ρ σ none) H) F F') (nf : NoT F') (tab : NdefX.TabsN G.T H') : Mt G R F' ρ σ H' := by
  have hR : ∀ a, OwnX G ρ σ none a → R a = none := fun a h => (h.is m).2.1
  refine ⟨s.ofRw hR, f, m.nr, nf, tab, m.kn, m.me.called (fun j a o => .inl ⟨j, by simp, o⟩) s e he, m.io, ?_⟩
  exact up_sub (P' := fun sc σc => Ms G R F' sc σc H' ∧ ∀ j k c, ownAt ρ.sl σ j c → ¬ ownAt sc σc k c) m.up fun sc b p σc e1 e2 ⟨g1, g2⟩ => ⟨g1.called (fun j a o => .inr ⟨sc, b, p, σc, e1, e2, j, o⟩) s e he, g2⟩
/-- one own slot was handed over -/
theorem Mt.calledM {i : Nat} {xs : List D} {t : Sl} {a : Addr} (m : Mt G R F ρ σ H) (he : G.e = none) (hi : ρ.get i = .ol xs) (hσ : σ[i]? = some (some (.ref a))) (s : Sub (Rw R (OwnX G ρ σ (some i)) H) H') (f : Sub F' H') (e : Ef (Rw R (OwnX G ρ σ (some i)) H) F F') (nf : NoT F') (tab : NdefX.TabsN G.T H')
    (ht : SlOk G (Rw R (OwnX G ρ σ (some i)) H) F' H' t (some (some (.ref a)))) (hio : (ρ.io && i == 0) = false ∨ ρ.io = true) : Mt G R F' (ρ.set i t) σ H' := by
  have hR : ∀ a, OwnX G ρ σ (some i) a → R a = none := fun a h => (h.is m).2.1
  have own : ownAt ρ.sl σ i a := ⟨xs, get_ol hi, hσ⟩
  have base : Mt G R F (ρ.set i .no) σ H := m.drop
  have sl' : SlOk G R F' H' t (some (some (.ref a))) := by
    cases t with
    | no => trivial
    | v d => exact ht
    | ol ys =>
      obtain ⟨b, vs, h1, h2, h3, h4, h5⟩ := ht
      cases h1
      refine ⟨a, vs, rfl, h2, ?_, h4, h5⟩
      by_cases q : OwnX G ρ σ (some i) a
      · exact hR _ q
      · rw [Rw.neg q] at h3
        exact h3
    | ex x => exact ht
  have me : Ms G R F' (ρ.sl.set i .no) σ H' := base.me.called (fun j b o => by
    rcases ownAt_set1 o with ⟨_, ⟨_, z⟩, _⟩ | ⟨n, o⟩
    · cases z
    · exact .inl ⟨j, by simpa using n, o⟩) s e he
  have me2 := me.set1 (i := i) (s := t) (fun _ => by rw [hσ]; exact sl') (fun ys b e1 e2 j hj o => by
    rw [hσ] at e2
    cases e2
    rcases ownAt_set1 o with ⟨_, ⟨_, z⟩, _⟩ | ⟨n, o⟩
    · cases z
    · exact n (m.me.dj j i a o own))
  rw [List.set_set] at me2
  refine ⟨s.ofRw hR, f, m.nr, nf, tab, m.kn, me2, m.io, ?_⟩
  refine up_sub (P' := fun sc σc => Ms G R F' sc σc H' ∧ ∀ j k c, ownAt (ρ.sl.set i t) σ j c → ¬ ownAt sc σc k c) m.up fun sc b p σc e1 e2 ⟨g1, g2⟩ => ⟨g1.called (fun j a o => .inr ⟨sc, b, p, σc, e1, e2, j, o⟩) s e he, fun j k c o => ?_⟩
  rcases ownAt_set1 o with ⟨e3, _, z⟩ | ⟨_, o⟩
  · rw [hσ] at z
    cases z
    exact g2 i k a own
  · exact g2 j k c o

/-! #### a block's own names -/
theorem noOwn_at {l : List Nat} (h : noOwn ρ l = true) {i : Nat} (hi : i ∈ l) : ∀ xs, ρ.sl[i]? ≠ some (.ol xs) := by
  intro xs e
  unfold noOwn at h
  rw [Bool.and_eq_true] at h
  have q := (List.all_eq_true.mp h.2) i hi
  have : ρ.get i = .ol xs := by unfold Fr.get; rw [e]; rfl
  rw [this] at q
  cases q
theorem rest_sl (ρ0 : Fr) : ∀ (l : List Nat) (ρ : Fr), (ρ.rest ρ0 l).io = ρ0.io ∧ (ρ.rest ρ0 l).up = ρ.up ∧ (ρ.rest ρ0 l).sl.length = ρ.sl.length ∧ ∀ i, (ρ.rest ρ0 l).sl[i]? = if i ∈ l ∧ i < ρ.sl.length then some (ρ0.get i) else ρ.sl[i]?
  | [], ρ => ⟨rfl, rfl, rfl, fun i => by simp [Fr.rest]⟩
  | k :: l, ρ => by
    obtain ⟨h1, h2, h3, h4⟩ := rest_sl ρ0 l (ρ.set k (ρ0.get k))
    refine ⟨h1, h2, h3.trans (by simp [Fr.set]), fun i => ?_⟩
    have e := h4 i
    have e2 : (ρ.rest ρ0 (k :: l)).sl[i]? = ((ρ.set k (ρ0.get k)).rest ρ0 l).sl[i]? := rfl
    rw [e2, e]
    have el : (ρ.set k (ρ0.get k)).sl.length = ρ.sl.length := by simp [Fr.set]
    rw [el]
    by_cases hl : i < ρ.sl.length
    · by_cases hm : i ∈ l
      · simp [hm, hl]
      · by_cases hk : i = k
        · subst hk
          simp [hm, hl, Fr.set]
        · simp [hm, hl, hk, Fr.set, List.getElem_set_ne (Ne.symm hk)]
    · simp [hl, Fr.set]
theorem wipe_sl : ∀ (l : List Nat) (ρ : Fr), (ρ.wipe l).io = ρ.io ∧ (ρ.wipe l).up = ρ.up ∧ (ρ.wipe l).sl.length = ρ.sl.length ∧ ∀ i, (ρ.wipe l).sl[i]? = if i ∈ l ∧ i < ρ.sl.length then some .no else ρ.sl[i]?
  | [], ρ => ⟨rfl, rfl, rfl, fun i => by simp [Fr.wipe]⟩
  | k :: l, ρ => by
    obtain ⟨h1, h2, h3, h4⟩ := wipe_sl l (ρ.set k .no)
    refine ⟨h1, h2, h3.trans (by simp [Fr.set]), fun i => ?_⟩
    have e := h4 i
    have e2 : (ρ.wipe (k :: l)).sl[i]? = ((ρ.set k .no).wipe l).sl[i]? := rfl
    rw [e2, e]
    have el : (ρ.set k .no).sl.length = ρ.sl.length := by simp [Fr.set]
    rw [el]
    by_cases hl : i < ρ.sl.length
    · by_cases hm : i ∈ l
      · simp [hm, hl]
      · by_cases hk : i = k
        · subst hk
          simp [hm, hl, Fr.set]
        · simp [hm, hl, hk, Fr.set, List.getElem_set_ne (Ne.symm hk)]
    · simp [hl, Fr.set]
/-- behind a block: its own names are what they were -/
theorem Mt.restS {l : List Nat} {ρ0 : Fr} {σ' : L2.St} {R0 : Hp} (m : Mt G R F' ρ σ' H') (m0 : Mt G R0 F ρ0 σ H) (ef : Sub F F') (he : G.e = none) (hn : noOwn ρ0 l = true) (hl : σ'.length = σ.length) (ho : ∀ i, i ∉ l → σ'[i]? = σ[i]?) : Mt G R F' (ρ.rest ρ0 l) σ H' := by
  obtain ⟨q1, q2, q3, q4⟩ := rest_sl ρ0 l ρ
  have hlen : ρ.sl.length = ρ0.sl.length := by rw [m.me.len, hl, m0.me.len]
  have own : ∀ {j a}, ownAt (ρ.rest ρ0 l).sl σ j a → ownAt ρ.sl σ' j a := fun {j a} ⟨xs, h1, h2⟩ => by
    rw [q4 j] at h1
    by_cases hj : j ∈ l ∧ j < ρ.sl.length
    · rw [if_pos hj] at h1
      have : ρ0.sl[j]? = some (.ol xs) := get_ol (Option.some.inj h1)
      exact absurd this (noOwn_at hn hj.1 xs)
    · rw [if_neg hj] at h1
      have hj2 : j ∉ l := fun z => hj ⟨z, (List.getElem?_eq_some_iff.mp h1).1⟩
      exact ⟨xs, h1, by rw [ho j hj2]; exact h2⟩
  refine ⟨m.r, m.f, m.nr, m.nf, m.tab, m.kn, ⟨by rw [q3, m.me.len, hl], fun j s e => ?_, fun i j a h1 h2 => m.me.dj i j a (own h1) (own h2)⟩, fun h => ?_, ?_⟩
  · rw [q4 j] at e
    by_cases hj : j ∈ l ∧ j < ρ.sl.length
    · rw [if_pos hj] at e
      have hj0 : j < ρ0.sl.length := hlen ▸ hj.2
      have e0 : ρ0.sl[j]? = some (ρ0.get j) := by
        unfold Fr.get
        rw [List.getElem?_eq_getElem hj0]
        rfl
      have z := m0.me.at_ j _ e0
      cases e
      cases hs : ρ0.get j with
      | no => trivial
      | v d =>
        rw [hs] at z
        obtain ⟨v, h1, h2⟩ := z
        exact ⟨v, h1, h2.mono ef⟩
      | ol xs =>
        rw [hs] at e0
        exact absurd e0 (noOwn_at hn hj.1 xs)
      | ex x =>
        rw [hs] at z
        obtain ⟨a, cls, d, h1, _⟩ := z
        rw [he] at h1
        cases h1
    · rw [if_neg hj] at e
      have hj2 : j ∉ l := fun z => hj ⟨z, (List.getElem?_eq_some_iff.mp e).1⟩
      rw [← ho j hj2]
      exact m.me.at_ j s e
  · rw [q1] at h
    exact m0.io h
  · rw [q2]
    exact up_sub (P' := fun sc σc => Ms G R F' sc σc H' ∧ ∀ j k c, ownAt (ρ.rest ρ0 l).sl σ j c → ¬ ownAt sc σc k c) m.up fun sc b p σc e1 e2 ⟨g1, g2⟩ => ⟨g1, fun j k c o => g2 j k c (own o)⟩
end
end Ev
end
section
set_option Elab.async false
set_option linter.all false
set_option maxRecDepth 100000
set_option autoImplicit false
namespace Ev
open PySem L2 PySem.Spec PyProof.Rows
/-! ### readings -/
section
variable (G : Gx) (W : WX)
def RsOk (σ : L2.St) (R F H : Hp) (ρ : Fr) : Rs → V → Prop
  | .v d, v => Rp G.K F v d
  | .l xs, v => ∃ a vs, v = .ref a ∧ R a = none ∧ F a = none ∧ H a = some (.lst vs) ∧ Rps G.K F vs xs ∧ Fresh G ρ σ a
  | .pl i, v => σ[i]? = some (some v)
def Af {α β : Type} (σ : L2.St) (R F : Hp) (ok : Hp → Hp → Hp → Fr → α → β → Prop) (o : Out α) (Q : β → Hp → Prop) : Prop :=
  match o with
  | .ok a ρ' => ∀ F' H' b, Ef R F F' → Mt G R F' ρ' σ H' → ok R F' H' ρ' a b → Q b H'
  | .ex x ρ' => ∀ F' H' cls d, Ef R F F' → Mt G R F' ρ' σ H' → XOk G.C x cls d H' → W cls d σ H'
  | .stk => False
def tX {α β : Type} (ok : L2.St → Hp → Hp → Hp → Fr → α → β → Prop) (ev : Fr → Out α) : L2.St → Hp → (β → Hp → Prop) → Prop :=
  fun σ H Q => ∃ R F ρ, Mt G R F ρ σ H ∧ Af G W σ R F (ok σ) (ev ρ) Q
abbrev tE (ev : Fr → Out Rs) : TE := tX G W (RsOk G) ev
abbrev tT (ev : Fr → Out Bool) : TT := tX G W (fun _ _ _ _ _ (a b : Bool) => a = b) ev
abbrev tAs (ev : Fr → Out (List D)) : TA := tX G W (fun _ _ F _ _ ds vs => Rps G.K F vs ds) ev
/-- a fresh list held back -/
def hl (R H : Hp) : Rs → V → Hp
  | .l _, .ref a => (match H a with | some o => upd R a o | none => R)
  | _, _ => R
def Pend (σ : L2.St) (F H : Hp) (ρ : Fr) : Hp → List Rs → List V → Prop
  | _, [], [] => True
  | R, r :: rs, v :: vs => RsOk G σ R F H ρ r v ∧ Pend σ F H ρ (hl R H r v) rs vs
  | _, _, _ => False
abbrev tAr (ev : Fr → Out (List Rs)) : TA := tX G W (fun σ R F H ρ rs vs => Pend G σ F H ρ R rs vs) ev
end
section
variable {G : Gx} {W : WX} {R F H F' H' : Hp} {ρ ρ' : Fr} {σ : L2.St} {X : Cx}
theorem _root_.L2.PE.weak {e : Expr} {t t' : TE} (h : PE X e t) (k : ∀ σ H Q, t' σ H Q → t σ H Q) : PE X e t' := ⟨fun pins s σ H Q I q => h.run pins s σ H Q I (k σ H Q q)⟩
theorem _root_.L2.PT.weak {e : Expr} {t t' : TT} (h : PT X e t) (k : ∀ σ H Q, t' σ H Q → t σ H Q) : PT X e t' := ⟨fun pins s σ H Q I q => h.run pins s σ H Q I (k σ H Q q)⟩
theorem _root_.L2.PW.weak {e : Expr} {t t' : TT} (h : PW X e t) (k : ∀ σ H Q, t' σ H Q → t σ H Q) : PW X e t' := ⟨fun wh pins s σ H Q I q => h.run wh pins s σ H Q I (k σ H Q q)⟩
theorem _root_.L2.PA.weak {e : List Expr} {t t' : TA} (h : PA X e t) (k : ∀ σ H Q, t' σ H Q → t σ H Q) : PA X e t' := ⟨fun p pins s σ H Q I q => h.run p pins s σ H Q I (k σ H Q q)⟩
theorem _root_.L2.PS.weak {e : Stmt} {t t' : TS} (h : PS X e t) (k : ∀ D σ H, t' D σ H → t D σ H) : PS X e t' := ⟨fun pins s σ H D I q => h.run pins s σ H D I (k D σ H q)⟩
theorem _root_.L2.PSs.weak {e : List Stmt} {t t' : TS} (h : PSs X e t) (k : ∀ D σ H, t' D σ H → t D σ H) : PSs X e t' := ⟨fun pins s σ H D I q => h.run pins s σ H D I (k D σ H q)⟩
/-- one result held while more is reckoned -/
theorem hold1 {r : Rs} {v : V} (m : Mt G R F ρ σ H) (ok : RsOk G σ R F H ρ r v) : Mt G (hl R H r v) F ρ σ H ∧ ∀ F' ρ' H', Ef (hl R H r v) F F' → Mt G (hl R H r v) F' ρ' σ H' →
    Ef R F F' ∧ Mt G R F' ρ' σ H' ∧ RsOk G σ R F' H' ρ' r v ∧ hl R H' r v = hl R H r v := by
  cases r with
  | v d => exact ⟨m, fun F' ρ' H' e m' => ⟨e, m', Rp.mono e.ff ok, rfl⟩⟩
  | pl i => exact ⟨m, fun F' ρ' H' e m' => ⟨e, m', ok, rfl⟩⟩
  | l xs =>
    obtain ⟨a, vs, rfl, hR, hF, hH, hx, fr⟩ := ok
    have e1 : hl R H (.l xs) (.ref a) = upd R a (.lst vs) := by
      simp only [hl, hH]
    rw [e1]
    refine ⟨m.hold hH (fun ps z => by cases z) fr, fun F' ρ' H' e m' => ?_⟩
    obtain ⟨m2, hH2, fr2⟩ := m'.unhold hR m.kn
    refine ⟨e.unhold hR, m2, ⟨a, vs, rfl, hR, e.held hF, hH2, hx.mono e.ff, fr2⟩, ?_⟩
    simp only [hl, hH2]
/-- a result frozen -/
theorem fz1 {r : Rs} {v : V} {d : D} (m : Mt G R F ρ σ H) (ok : RsOk G σ R F H ρ r v) (h : r.fz = some d) : ∃ F', Ef R F F' ∧ Mt G R F' ρ σ H ∧ Rp G.K F' v d := by
  cases r with
  | v e =>
    cases h
    exact ⟨F, .refl, m, ok⟩
  | pl i => cases h
  | l xs =>
    cases h
    obtain ⟨a, vs, rfl, hR, hF, hH, hx, fr⟩ := ok
    exact ⟨upd F a (.lst vs), ef_frz hF hR, m.frz hF hR hH fr, .lst upd_same (hx.mono (same_new hF))⟩
/-- an operand: frozen, or a list of frozen items -/
def Opn (K : Fg) (F H : Hp) (v : V) (d : D) : Prop := Rp K F v d ∨ ∃ a vs xs, v = .ref a ∧ d = .list xs ∧ H a = some (.lst vs) ∧ Rps K F vs xs
theorem RsOk.opn {R' : Hp} {r : Rs} {v : V} {d : D} (m : Mt G R F ρ σ H) (ok : RsOk G σ R' F H ρ r v) (h : r.get ρ = some d) : Opn G.K F H v d := by
  cases r with
  | v e =>
    cases h
    exact .inl ok
  | l xs =>
    cases h
    obtain ⟨a, vs, rfl, hR, hF, hH, hx, fr⟩ := ok
    exact .inr ⟨a, vs, xs, rfl, rfl, hH, hx⟩
  | pl i =>
    have ok' : σ[i]? = some (some v) := ok
    unfold Rs.get at h
    cases q : ρ.get i with
    | no => simp only [q] at h; cases h
    | ex x => simp only [q] at h; cases h
    | v e =>
      simp only [q] at h
      cases h
      obtain ⟨w, h1, h2⟩ := m.me.at_ i _ (get_v q)
      rw [ok'] at h1
      cases h1
      exact .inl h2
    | ol xs =>
      simp only [q] at h
      cases h
      obtain ⟨a, vs, h1, h2, h3, h4, h5⟩ := m.me.at_ i _ (get_ol q)
      rw [ok'] at h1
      cases h1
      exact .inr ⟨a, vs, xs, rfl, rfl, h4, h5⟩
theorem Opn.mono {K : Fg} {v : V} {d : D} (h : Opn K F H v d) (f : Sub F F') (e : Sub H H') : Opn K F' H' v d := by
  rcases h with h | ⟨a, vs, xs, h1, h2, h3, h4⟩
  · exact .inl (h.mono f)
  · exact .inr ⟨a, vs, xs, h1, h2, e _ _ h3, h4.mono f⟩
/-- its data in the whole heap -/
theorem Opn.rp {K : Fg} {v : V} {d : D} (h : Opn K F H v d) (f : Sub F H) : Rp K H v d := by
  rcases h with h | ⟨a, vs, xs, rfl, rfl, h3, h4⟩
  · exact h.mono f
  · exact .lst h3 (h4.mono f)
/-- a sequence: items, each frozen -/
theorem Opn.items {K : Fg} {v : V} {d : D} {xs : List D} (h : Opn K F H v d) (f : Sub F H) (q : itemsOf d = some xs) : ∃ a vs, v = .ref a ∧ Rps K F vs xs ∧ ((d = .list xs ∧ H a = some (.lst vs)) ∨ (d = .tuple xs ∧ SqT K H a vs)) := by
  rcases h with h | ⟨a, vs, ys, rfl, rfl, h3, h4⟩
  · cases h with
    | lst h1 h2 =>
      cases q
      exact ⟨_, _, rfl, h2, .inl ⟨rfl, f _ _ h1⟩⟩
    | tup h1 h2 =>
      cases q
      exact ⟨_, _, rfl, h2, .inr ⟨rfl, Same.seqT f h1⟩⟩
    | _ => cases q
  · cases q
    exact ⟨a, vs, rfl, h4, .inl ⟨rfl, h3⟩⟩
/-- what a pure operation gives -/
def Gv (K : Fg) (F H : Hp) (o : Option Rs) (Q : VK) : Prop :=
  match o with
  | some (.v z) => ∀ F' H' v, Nu F H F' H' → Rp K F' v z → Q v H'
  | some (.l zs) => ∀ F' H' a vs, Nu F H F' H' → H a = none → F' a = none → H' a = some (.lst vs) → Rps K F' vs zs → Q (.ref a) H'
  | some (.pl _) => True
  | none => False
theorem fresh_new {a : Addr} (m : Mt G R F ρ σ H) (h : H a = none) : Fresh G ρ σ a := by
  refine ⟨fun j ⟨xs, h1, h2⟩ => ?_, fun sc b p σc e1 e2 j ⟨xs, h1, h2⟩ => ?_⟩
  · obtain ⟨c, vs, g1, g2, g3, g4, _⟩ := m.me.at_ j _ h1
    rw [h2] at g1
    cases g1
    rw [h] at g4
    cases g4
  · have q := m.up
    rw [e1, e2] at q
    obtain ⟨c, vs, g1, g2, g3, g4, _⟩ := q.1.at_ j _ h1
    rw [h2] at g1
    cases g1
    rw [h] at g4
    cases g4
/-- from the state: what the operation gives goes on -/
theorem gv_of {o : Option Rs} {Q : VK} (m : Mt G R F ρ σ H) (h : Af G W σ R F (RsOk G σ) (opt o ρ) Q) : Gv G.K F H o Q := by
  cases o with
  | none => exact h
  | some r =>
    have h' : ∀ F' H' b, Ef R F F' → Mt G R F' ρ σ H' → RsOk G σ R F' H' ρ r b → Q b H' := h
    cases r with
    | v z => exact fun F' H' v n hz => h' F' H' v (n.ef m.r) (m.ext n) hz
    | l zs => exact fun F' H' a vs n h1 h2 h3 h4 => h' F' H' (.ref a) (n.ef m.r) (m.ext n) ⟨a, vs, rfl, m.r.free h1, h2, h3, h4, fresh_new (m.ext n |> fun _ => m) h1⟩
    | pl i => trivial
/-! #### two operands -/
def K2 (G : Gx) (W : WX) (k : Rs → Rs → Fr → Out Rs) (σ : L2.St) (x y : V) (H : Hp) (Q : VK) : Prop :=
  ∃ R F ρ r q, Mt G R F ρ σ H ∧ RsOk G σ R F H ρ r x ∧ RsOk G σ (hl R H r x) F H ρ q y ∧ Af G W σ R F (RsOk G σ) (k r q ρ) Q
theorem RsOk.low {r : Rs} {v : V} {q : Rs} {u : V} (h : RsOk G σ (hl R H r v) F H ρ q u) (ok : RsOk G σ R F H ρ r v) : RsOk G σ R F H ρ q u := by
  cases q with
  | v d => exact h
  | pl i => exact h
  | l xs =>
    obtain ⟨a, vs, h1, h2, h3⟩ := h
    refine ⟨a, vs, h1, ?_, h3⟩
    cases r with
    | v d => exact h2
    | pl i => exact h2
    | l ys =>
      obtain ⟨b, us, rfl, hR, hF, hH, _⟩ := ok
      simp only [hl, hH] at h2
      by_cases e : a = b
      · rw [e]
        exact hR
      · rw [upd_ne e] at h2
        exact h2
theorem Af.ef {α β : Type} {ok : Hp → Hp → Hp → Fr → α → β → Prop} {o : Out α} {Q : β → Hp → Prop} (h : Af G W σ R F ok o Q) (e : Ef R F F') : Af G W σ R F' ok o Q := by
  cases o with
  | ok a ρ' => exact fun F'' H' b e' m k => h F'' H' b (e.trans e') m k
  | ex x ρ' => exact fun F'' H' c d e' m k => h F'' H' c d (e.trans e') m k
  | stk => exact h
theorem tX.mono {α β : Type} {ok : L2.St → Hp → Hp → Hp → Fr → α → β → Prop} {ev : Fr → Out α} {Q Q' : β → Hp → Prop} (h : tX G W ok ev σ H Q) (k : ∀ b H, Q b H → Q' b H) : tX G W ok ev σ H Q' := by
  obtain ⟨R, F, ρ, m, h⟩ := h
  refine ⟨R, F, ρ, m, ?_⟩
  revert h
  cases ev ρ with
  | stk => exact id
  | ex x ρ' => exact id
  | ok a ρ' => exact fun h F' H' b e m' o => k _ _ (h F' H' b e m' o)
/-- first this, then with its result the rest -/
theorem tX.bind {α β γ δ : Type} {ok : L2.St → Hp → Hp → Hp → Fr → α → β → Prop} {ok' : L2.St → Hp → Hp → Hp → Fr → γ → δ → Prop} {ev : Fr → Out α} {k : α → Fr → Out γ} {Q : δ → Hp → Prop}
    (h : tX G W ok' (fun ρ => (ev ρ).bind k) σ H Q) : tX G W ok ev σ H (fun b H1 => ∃ R F ρ a, Mt G R F ρ σ H1 ∧ ok σ R F H1 ρ a b ∧ Af G W σ R F (ok' σ) (k a ρ) Q) := by
  obtain ⟨R, F, ρ, m, h⟩ := h
  refine ⟨R, F, ρ, m, ?_⟩
  have h : Af G W σ R F (ok' σ) ((ev ρ).bind k) Q := h
  cases e : ev ρ with
  | stk =>
    rw [e] at h
    exact h
  | ex x ρ' =>
    rw [e] at h
    exact h
  | ok a ρ' =>
    rw [e] at h
    exact fun F' H' b ef m' hk => ⟨R, F', ρ', a, m', hk, Af.ef h ef⟩
/-- an operand held, then the next one -/
theorem tX.next {α β : Type} {ok : L2.St → Hp → Hp → Hp → Fr → α → β → Prop} {r : Rs} {v : V} {ev : Fr → Out α} {k : α → Fr → Out Rs} {Q : VK} (m : Mt G R F ρ σ H) (okr : RsOk G σ R F H ρ r v)
    (h : Af G W σ R F (RsOk G σ) ((ev ρ).bind k) Q) (P : β → Hp → Prop)
    (hP : ∀ F' H' ρ' a b, Mt G R F' ρ' σ H' → RsOk G σ R F' H' ρ' r v → ok σ (hl R H' r v) F' H' ρ' a b → Af G W σ R F' (RsOk G σ) (k a ρ') Q → P b H') : tX G W ok ev σ H P := by
  obtain ⟨m1, back⟩ := hold1 m okr
  refine ⟨_, F, ρ, m1, ?_⟩
  cases e : ev ρ with
  | stk =>
    rw [e] at h
    exact h
  | ex x ρ' =>
    rw [e] at h
    intro F' H' c d ef m' hx
    obtain ⟨e1, m2, _⟩ := back F' ρ' H' ef m'
    exact h F' H' c d e1 m2 hx
  | ok a ρ' =>
    rw [e] at h
    intro F' H' b ef m' hk
    obtain ⟨e1, m2, o2, e2⟩ := back F' ρ' H' ef m'
    exact hP F' H' ρ' a b m2 o2 (by rw [e2]; exact hk) (Af.ef h e1)
theorem tE.two {ea eb : Fr → Out Rs} {k : Rs → Rs → Fr → Out Rs} {Q : VK} (h : tE G W (fun ρ => (ea ρ).bind fun x ρ1 => (eb ρ1).bind fun y ρ2 => k x y ρ2) σ H Q) :
    tE G W ea σ H fun x H1 => tE G W eb σ H1 fun y H2 => K2 G W k σ x y H2 Q := by
  obtain ⟨R, F, ρ, m, h⟩ := tX.bind (ok := RsOk G) h
  refine ⟨R, F, ρ, m, ?_⟩
  revert h
  cases ea ρ with
  | stk => exact id
  | ex x ρ' => exact id
  | ok a ρ' =>
    intro h F' H' b ef m' hk
    obtain ⟨R1, F1, ρ1, a1, m1, k1, h1⟩ := h F' H' b ef m' hk
    exact tX.next m1 k1 h1 _ fun F2 H2 ρ2 a2 b2 m2 o2 o3 h2 => ⟨R1, F2, ρ2, a1, a2, m2, o2, o3, h2⟩
/-- two operands of a pure operation -/
def rOp (K : Fg) (f : D → D → Option Rs) : R2 := fun x y H Q => ∃ F d e, Sub F H ∧ NoT F ∧ Opn K F H x d ∧ Opn K F H y e ∧ Gv K F H (f d e) Q
theorem K2.op {f : D → D → Option Rs} {x y : V} {Q : VK} (h : K2 G W (fun x y ρ2 => match x.get ρ2, y.get ρ2 with | some d, some e => opt (f d e) ρ2 | _, _ => .stk) σ x y H Q) : rOp G.K f x y H Q := by
  obtain ⟨R, F, ρ, r, q, m, o1, o2, h⟩ := h
  cases e1 : r.get ρ with
  | none =>
    simp only [e1] at h
    exact h.elim
  | some d =>
    cases e2 : q.get ρ with
    | none =>
      simp only [e1, e2] at h
      exact h.elim
    | some e =>
      simp only [e1, e2] at h
      exact ⟨F, d, e, m.f, m.nf, o1.opn m e1, (o2.low o1).opn m e2, gv_of m h⟩
variable {a b : Expr} {pos : Pos} {ea eb : Fr → Out Rs}
theorem snd_bin {op : Operator} {f : D → D → Option Rs} (ho : OpR X (binaryOp op) (rOp G.K f)) (ha : PE X a (tE G W ea)) (hb : PE X b (tE G W eb)) :
    PE X (.BinOp a op b pos) (tE G W fun ρ => (ea ρ).bind fun x ρ1 => (eb ρ1).bind fun y ρ2 => match x.get ρ2, y.get ρ2 with | some d, some e => opt (f d e) ρ2 | _, _ => .stk) :=
  (pe_op ho ha hb).weak fun σ H Q h => tX.mono (tE.two h) fun x H1 h1 => tX.mono h1 fun y H2 h2 => h2.op
end
end Ev
end
section
set_option Elab.async false
set_option linter.all false
set_option maxRecDepth 100000
set_option autoImplicit false
namespace Ev
open PySem L2 PySem.Spec PyProof.Rows
section
variable {K : Fg} {F H : Hp} {v : V}
theorem Opn.int {i : Int} (h : Opn K F H v (.int i)) : v = .int i := by
  rcases h with h | ⟨_, _, _, _, e, _⟩
  · cases h
    rfl
  · cases e
theorem Opn.bool {i : Bool} (h : Opn K F H v (.bool i)) : v = .bl i := by
  rcases h with h | ⟨_, _, _, _, e, _⟩
  · cases h
    rfl
  · cases e
theorem Opn.str {i : Str} (h : Opn K F H v (.str i)) : v = .str i := by
  rcases h with h | ⟨_, _, _, _, e, _⟩
  · cases h
    rfl
  · cases e
theorem Opn.non (h : Opn K F H v .none) : v = .non := by
  rcases h with h | ⟨_, _, _, _, e, _⟩
  · cases h
    rfl
  · cases e
theorem Opn.lst {xs : List D} (h : Opn K F H v (.list xs)) (f : Sub F H) : ∃ a vs, v = .ref a ∧ H a = some (.lst vs) ∧ Rps K F vs xs := by
  rcases h with h | ⟨a, vs, ys, rfl, e, h1, h2⟩
  · cases h with
    | lst h1 h2 => exact ⟨_, _, rfl, f _ _ h1, h2⟩
  · cases e
    exact ⟨a, vs, rfl, h1, h2⟩
theorem Opn.tup {xs : List D} (h : Opn K F H v (.tuple xs)) : ∃ a vs, v = .ref a ∧ SqT K F a vs ∧ Rps K F vs xs := by
  rcases h with h | ⟨_, _, _, _, e, _⟩
  · cases h with
    | tup h1 h2 => exact ⟨_, _, rfl, h1, h2⟩
  · cases e
theorem Rps.rep {vs : List V} {xs : List D} (h : Rps K F vs xs) : ∀ n : Nat, Rps K F (List.replicate n vs).flatten (List.replicate n xs).flatten
  | 0 => .nil
  | n + 1 => by
    rw [List.replicate_succ, List.replicate_succ, List.flatten_cons, List.flatten_cons]
    exact h.app (Rps.rep h n)
theorem Rps.nil_iff {vs : List V} {xs : List D} (h : Rps K F vs xs) : vs = [] ↔ xs = [] := by
  cases h with
  | nil => simp
  | cons _ _ => simp
theorem big_eq : big = sizeLine := rfl
theorem mulOk_ok {i j : Int} (h : mulOk i j = true) : IntMulOk i j := by
  have h2 : i.natAbs.log2 + j.natAbs.log2 < 100000000 := of_decide_eq_true h
  have b : ∀ x : Int, Builtin.Int.intBits x ≤ x.natAbs.log2 + 1 := fun x => by
    unfold Builtin.Int.intBits
    split <;> omega
  have h1 := b i
  have h3 := b j
  intro z
  rw [Bool.and_eq_true] at z
  have z1 := z.2
  unfold Builtin.Int.intTooBig at z1
  have z2 := of_decide_eq_true z1
  have e : bitsLine = 134217728 := by decide
  rw [e] at z2
  omega
variable {Q : VK}
/-- gives of the shapes -/
theorem Gv.tup {zs : List D} {vs : List V} {p : Addr} (g : Gv K F H (some (.v (.tuple zs))) Q) (f : Sub F H) (n : NoT F) (hp : H p = none) (h : Rps K F vs zs) : Q (.ref p) (upd H p (.tup vs)) := by
  have nu := Nu.new (o := .tup vs) f n hp (fun ps z => by cases z)
  exact g _ _ _ nu (.tup (SqT.of upd_same) (h.mono nu.ff))
theorem Gv.lst {zs : List D} {vs : List V} {p : Addr} (g : Gv K F H (some (.l zs)) Q) (f : Sub F H) (n : NoT F) (hp : H p = none) (h : Rps K F vs zs) : Q (.ref p) (upd H p (.lst vs)) :=
  g _ _ p vs (Nu.own f n hp) hp (f.free hp) upd_same h
theorem Gv.same {z : D} (g : Gv K F H (some (.v z)) Q) (f : Sub F H) (n : NoT F) {v : V} (h : Rp K F v z) : Q v H := g _ _ _ (Nu.refl f n) h
end
section
variable {X : Cx} {G : Gx}
theorem op_add' (hK : X.K = G.K) : OpR X (binaryOp .Add) (rOp G.K (binop .add)) := by
  intro pins s σ H x y v u Q I rx ry h
  obtain ⟨F, d, e, f, n, o1, o2, g⟩ := h
  rw [← hK] at o1 o2 g
  cases d with
  | int i =>
    cases e with
    | int j =>
      cases o1.int
      cases o2.int
      exact op_add pins s σ H _ _ v u Q I rx ry ⟨i, j, rfl, rfl, g.same f n (.int _)⟩
    | _ => exact g.elim
  | tuple xs =>
    cases e with
    | tuple ys =>
      have g' : Gv X.K F H (if xs.length + ys.length ≤ big then some (.v (.tuple (xs ++ ys))) else none) Q := g
      by_cases hz : xs.length + ys.length ≤ big
      · rw [if_pos hz] at g'
        obtain ⟨a, vs, rfl, s1, r1⟩ := o1.tup
        obtain ⟨b, us, rfl, s2, r2⟩ := o2.tup
        refine op_catA pins s σ H _ _ v u Q I rx ry ⟨a, b, vs, us, rfl, rfl, Same.seqT f s1, Same.seqT f s2, ?_, fun e1 => ?_, fun e1 e2 => ?_, fun e1 e2 p hp => g'.tup f n hp (r1.app r2)⟩
        · rw [r1.len, r2.len]
          exact hz
        · have : xs = [] := r1.nil_iff.mp e1
          subst this
          exact g'.same f n (.tup s2 r2)
        · have : ys = [] := r2.nil_iff.mp e2
          subst this
          rw [List.append_nil] at g'
          exact g'.same f n (.tup s1 r1)
      · rw [if_neg hz] at g'
        exact g'.elim
    | _ => exact g.elim
  | list xs =>
    cases e with
    | list ys =>
      have g' : Gv X.K F H (if xs.length + ys.length ≤ big then some (.l (xs ++ ys)) else none) Q := g
      by_cases hz : xs.length + ys.length ≤ big
      · rw [if_pos hz] at g'
        obtain ⟨a, vs, rfl, s1, r1⟩ := o1.lst f
        obtain ⟨b, us, rfl, s2, r2⟩ := o2.lst f
        exact op_cat pins s σ H _ _ v u Q I rx ry ⟨a, b, vs, us, rfl, rfl, s1, s2, by rw [r1.len, r2.len]; exact hz, fun p hp => g'.lst f n hp (r1.app r2)⟩
      · rw [if_neg hz] at g'
        exact g'.elim
    | _ => exact g.elim
  | _ => exact g.elim
theorem op_sub' (hK : X.K = G.K) : OpR X (binaryOp .Sub) (rOp G.K (binop .sub)) := by
  intro pins s σ H x y v u Q I rx ry h
  obtain ⟨F, d, e, f, n, o1, o2, g⟩ := h
  cases d with
  | int i =>
    cases e with
    | int j =>
      cases o1.int
      cases o2.int
      exact op_sub pins s σ H _ _ v u Q I rx ry ⟨i, j, rfl, rfl, g.same f n (.int _)⟩
    | _ => exact g.elim
  | _ => exact g.elim
theorem op_mul' (hK : X.K = G.K) : OpR X (binaryOp .Mult) (rOp G.K (binop .mul)) := by
  intro pins s σ H x y v u Q I rx ry h
  obtain ⟨F, d, e, f, n, o1, o2, g⟩ := h
  rw [← hK] at o1 o2 g
  cases d with
  | int i =>
    cases e with
    | int j =>
      cases o1.int
      cases o2.int
      have g' : Gv X.K F H (if mulOk i j = true then some (.v (.int (i * j))) else none) Q := g
      by_cases hz : mulOk i j = true
      · rw [if_pos hz] at g'
        obtain ⟨t, rfl⟩ := rx
        obtain ⟨t', rfl⟩ := ry
        exact mul_int ⟨.int _, H, I.tok _, ⟨_, rfl⟩, g'.same f n (.int _)⟩ (mulOk_ok hz)
      · rw [if_neg hz] at g'
        exact g'.elim
    | _ => exact g.elim
  | tuple xs =>
    cases e with
    | int j =>
      have g' : Gv X.K F H (if xs.isEmpty = false ∧ 2 ≤ j ∧ j ≤ 1000 ∧ xs.length ≤ 1000 then some (.v (.tuple (List.replicate j.toNat xs).flatten)) else none) Q := g
      by_cases hz : xs.isEmpty = false ∧ 2 ≤ j ∧ j ≤ 1000 ∧ xs.length ≤ 1000
      · rw [if_pos hz] at g'
        obtain ⟨a, vs, rfl, s1, r1⟩ := o1.tup
        cases o2.int
        refine op_repT pins s σ H _ _ v u Q I rx ry ⟨a, j, vs, rfl, rfl, Same.seqT f s1, fun e => ?_, hz.2.1, hz.2.2.1, by rw [r1.len]; exact hz.2.2.2, fun p hp => g'.tup f n hp (r1.rep _)⟩
        have : xs = [] := r1.nil_iff.mp e
        rw [this] at hz
        exact absurd hz.1 (by simp)
      · rw [if_neg hz] at g'
        exact g'.elim
    | _ => exact g.elim
  | list xs =>
    cases e with
    | int j =>
      have g' : Gv X.K F H (if xs.length * j.toNat ≤ big ∧ j < 1000000 ∧ -1000000 < j then some (.l (List.replicate j.toNat xs).flatten) else none) Q := g
      by_cases hz : xs.length * j.toNat ≤ big ∧ j < 1000000 ∧ -1000000 < j
      · rw [if_pos hz] at g'
        obtain ⟨a, vs, rfl, s1, r1⟩ := o1.lst f
        cases o2.int
        exact op_rep pins s σ H _ _ v u Q I rx ry ⟨a, j, vs, rfl, rfl, s1, by omega, by omega, by rw [r1.len]; exact hz.1, fun p hp => g'.lst f n hp (r1.rep _)⟩
      · rw [if_neg hz] at g'
        exact g'.elim
    | _ => exact g.elim
  | _ => exact g.elim
theorem op_fdiv' (hK : X.K = G.K) : OpR X (binaryOp .FloorDiv) (rOp G.K (binop .fdiv)) := by
  intro pins s σ H x y v u Q I rx ry h
  obtain ⟨F, d, e, f, n, o1, o2, g⟩ := h
  cases d with
  | int i =>
    cases e with
    | int j =>
      cases o1.int
      cases o2.int
      have g' : Gv G.K F H (if divOk j = true then some (.v (.int (i / j))) else none) Q := g
      by_cases hz : divOk j = true
      · rw [if_pos hz] at g'
        have hz2 : 0 < j ∧ j.natAbs.log2 < 9000 := by simpa [divOk] using hz
        exact op_fdivW pins s σ H _ _ v u Q I rx ry ⟨i, j, rfl, rfl, hz2, g'.same f n (.int _)⟩
      · rw [if_neg hz] at g'
        exact g'.elim
    | _ => exact g.elim
  | _ => exact g.elim
theorem op_mod' (hK : X.K = G.K) : OpR X (binaryOp .Mod) (rOp G.K (binop .mod)) := by
  intro pins s σ H x y v u Q I rx ry h
  obtain ⟨F, d, e, f, n, o1, o2, g⟩ := h
  cases d with
  | int i =>
    cases e with
    | int j =>
      cases o1.int
      cases o2.int
      have g' : Gv G.K F H (if 0 < j then some (.v (.int (i % j))) else none) Q := g
      by_cases hz : 0 < j
      · rw [if_pos hz] at g'
        exact op_mod pins s σ H _ _ v u Q I rx ry ⟨i, j, rfl, rfl, hz, g'.same f n (.int _)⟩
      · rw [if_neg hz] at g'
        exact g'.elim
    | _ => exact g.elim
  | _ => exact g.elim
theorem op_pow' (hK : X.K = G.K) : OpR X (binaryOp .Pow) (rOp G.K (binop .pow)) := by
  intro pins s σ H x y v u Q I rx ry h
  obtain ⟨F, d, e, f, n, o1, o2, g⟩ := h
  cases d with
  | int i =>
    cases e with
    | int j =>
      cases o1.int
      cases o2.int
      have g' : Gv G.K F H (if 0 ≤ j ∧ j ≤ 1000 ∧ i.natAbs < 2 ^ 64 then some (.v (.int (i ^ j.toNat))) else none) Q := g
      by_cases hz : 0 ≤ j ∧ j ≤ 1000 ∧ i.natAbs < 2 ^ 64
      · rw [if_pos hz] at g'
        exact op_pow pins s σ H _ _ v u Q I rx ry ⟨i, j, rfl, rfl, ⟨hz.1, by omega, hz.2.2⟩, g'.same f n (.int _)⟩
      · rw [if_neg hz] at g'
        exact g'.elim
    | _ => exact g.elim
  | _ => exact g.elim
def opOf : BOp → Operator
  | .add => .Add | .sub => .Sub | .mul => .Mult | .fdiv => .FloorDiv | .mod => .Mod | .pow => .Pow
theorem op_all (hK : X.K = G.K) (o : BOp) : OpR X (binaryOp (opOf o)) (rOp G.K (binop o)) := by
  cases o with
  | add => exact op_add' hK
  | sub => exact op_sub' hK
  | mul => exact op_mul' hK
  | fdiv => exact op_fdiv' hK
  | mod => exact op_mod' hK
  | pow => exact op_pow' hK
end
end Ev
end
section
set_option Elab.async false
set_option linter.all false
set_option maxRecDepth 100000
set_option autoImplicit false
namespace Ev
open PySem L2 PySem.Spec PyProof.Rows
section
variable {X : Cx} {G : Gx} {K : Fg} {F H : Hp} {Q : VK}
theorem Gv.bl {o : COp} {d e : D} (g : Gv K F H (cmpR o d e) Q) (f : Sub F H) (n : NoT F) : ∃ c, cmpop o d e = some c ∧ Q (.bl c) H := by
  unfold cmpR at g
  cases q : cmpop o d e with
  | none =>
    rw [q] at g
    exact g.elim
  | some c =>
    rw [q] at g
    exact ⟨c, rfl, g.same f n (.bl _)⟩
theorem ite_some {p : Bool} {α : Type} {a b : α} (h : (if p = true then some a else none) = some b) : p = true ∧ a = b := by
  cases p with
  | true => exact ⟨rfl, Option.some.inj h⟩
  | false => exact absurd h (by simp)
abbrev rCmp (K : Fg) (o : COp) : R2 := rOp K (cmpR o)
theorem op_eq' (hK : X.K = G.K) (hu : X.A.units + 65 < cLine) : OpR X (compareOp .Eq) (rCmp G.K .eq) := by
  intro pins s σ H x y v u Q I rx ry h
  obtain ⟨F, d, e, f, n, o1, o2, g⟩ := h
  obtain ⟨c, h1, q⟩ := g.bl f n
  rw [← hK] at o1 o2
  obtain ⟨h2, h3⟩ := ite_some (show (if (SeqAt.shaped d && SeqAt.shaped e) = true then some (PyData.eqv d e) else none) = some c from h1)
  rw [Bool.and_eq_true] at h2
  subst h3
  exact op_eqD (by omega) pins s σ H x y v u Q I rx ry ⟨d, e, (o1.rp f).dp (SeqAt.canLay_of_shaped h2.1), (o2.rp f).dp (SeqAt.canLay_of_shaped h2.2), h2.1, h2.2, q⟩
theorem op_ne' (hK : X.K = G.K) (hu : X.A.units + 65 < cLine) : OpR X (compareOp .NotEq) (rCmp G.K .ne) := by
  intro pins s σ H x y v u Q I rx ry h
  obtain ⟨F, d, e, f, n, o1, o2, g⟩ := h
  obtain ⟨c, h1, q⟩ := g.bl f n
  rw [← hK] at o1 o2
  obtain ⟨h2, h3⟩ := ite_some (show (if (SeqAt.shaped d && SeqAt.shaped e) = true then some (!PyData.eqv d e) else none) = some c from h1)
  rw [Bool.and_eq_true] at h2
  subst h3
  exact op_neD (by omega) pins s σ H x y v u Q I rx ry ⟨d, e, (o1.rp f).dp (SeqAt.canLay_of_shaped h2.1), (o2.rp f).dp (SeqAt.canLay_of_shaped h2.2), h2.1, h2.2, q⟩
theorem op_lt' (hK : X.K = G.K) (hu : X.A.units + 65 < cLine) : OpR X (compareOp .Lt) (rCmp G.K .lt) := by
  intro pins s σ H x y v u Q I rx ry h
  obtain ⟨F, d, e, f, n, o1, o2, g⟩ := h
  obtain ⟨c, h1, q⟩ := g.bl f n
  rw [← hK] at o1 o2
  cases d with
  | int i =>
    cases e with
    | int j =>
      cases o1.int
      cases o2.int
      cases h1
      exact op_lt pins s σ H _ _ v u Q I rx ry ⟨i, j, rfl, rfl, q⟩
    | _ => cases h1
  | str i =>
    cases e with
    | str j =>
      cases o1.str
      cases o2.str
      cases h1
      exact op_lt_str pins s σ H _ _ v u Q I rx ry ⟨i, j, rfl, rfl, q⟩
    | _ => cases h1
  | tuple xs =>
    cases e with
    | tuple ys =>
      obtain ⟨h2, h3⟩ := ite_some (show (if (PySem.W.alikeAll xs ys && SeqAt.shaped (.tuple xs) && SeqAt.shaped (.tuple ys)) = true then some (PySem.W.dataLt (.tuple xs) (.tuple ys)) else none) = some c from h1)
      rw [Bool.and_eq_true, Bool.and_eq_true] at h2
      subst h3
      obtain ⟨as, r1⟩ := Dp.reads I _ x v ((o1.rp f).dp (SeqAt.canLay_of_shaped h2.1.2)) rx
      obtain ⟨bs, r2⟩ := Dp.reads I _ y u ((o2.rp f).dp (SeqAt.canLay_of_shaped h2.2)) ry
      have hal : PySem.W.alike (.tuple xs) (.tuple ys) = true := by
        simpa [PySem.W.alike] using h2.1.1
      exact PySem.W.rcLt_alike _ _ X.A s v u as bs r1 r2 hal (fun z => by cases z) (SeqAt.room_of_shaped h2.1.2 (by omega)) X.prog X.w _ _ ⟨.bl _, H, I, rfl, q⟩
    | _ => cases h1
  | _ => cases h1
theorem op_gt' (hK : X.K = G.K) : OpR X (compareOp .Gt) (rCmp G.K .gt) := by
  intro pins s σ H x y v u Q I rx ry h
  obtain ⟨F, d, e, f, n, o1, o2, g⟩ := h
  obtain ⟨c, h1, q⟩ := g.bl f n
  cases d with
  | int i =>
    cases e with
    | int j =>
      cases o1.int
      cases o2.int
      cases h1
      exact op_gt pins s σ H _ _ v u Q I rx ry ⟨i, j, rfl, rfl, q⟩
    | _ => cases h1
  | str i =>
    cases e with
    | str j =>
      cases o1.str
      cases o2.str
      cases h1
      exact op_gt_str pins s σ H _ _ v u Q I rx ry ⟨i, j, rfl, rfl, q⟩
    | _ => cases h1
  | _ => cases h1
theorem op_le' (hK : X.K = G.K) : OpR X (compareOp .LtE) (rCmp G.K .le) := by
  intro pins s σ H x y v u Q I rx ry h
  obtain ⟨F, d, e, f, n, o1, o2, g⟩ := h
  obtain ⟨c, h1, q⟩ := g.bl f n
  cases d with
  | int i =>
    cases e with
    | int j =>
      cases o1.int
      cases o2.int
      cases h1
      exact op_le pins s σ H _ _ v u Q I rx ry ⟨i, j, rfl, rfl, q⟩
    | _ => cases h1
  | str i =>
    cases e with
    | str j =>
      cases o1.str
      cases o2.str
      cases h1
      exact op_le_str pins s σ H _ _ v u Q I rx ry ⟨i, j, rfl, rfl, q⟩
    | _ => cases h1
  | _ => cases h1
theorem op_ge' (hK : X.K = G.K) : OpR X (compareOp .GtE) (rCmp G.K .ge) := by
  intro pins s σ H x y v u Q I rx ry h
  obtain ⟨F, d, e, f, n, o1, o2, g⟩ := h
  obtain ⟨c, h1, q⟩ := g.bl f n
  cases d with
  | int i =>
    cases e with
    | int j =>
      cases o1.int
      cases o2.int
      cases h1
      exact op_ge pins s σ H _ _ v u Q I rx ry ⟨i, j, rfl, rfl, q⟩
    | _ => cases h1
  | str i =>
    cases e with
    | str j =>
      cases o1.str
      cases o2.str
      cases h1
      exact op_ge_str pins s σ H _ _ v u Q I rx ry ⟨i, j, rfl, rfl, q⟩
    | _ => cases h1
  | _ => cases h1
theorem Opn.isNon {v : V} {d : D} (h : Opn K F H v d) : decide (v = .non) = isNone d := by
  rcases h with h | ⟨_, _, _, rfl, rfl, _⟩
  · cases h <;> rfl
  · rfl
theorem op_is' (hK : X.K = G.K) : OpR X (compareOp .Is) (rCmp G.K .is) := by
  intro pins s σ H x y v u Q I rx ry h
  obtain ⟨F, d, e, f, n, o1, o2, g⟩ := h
  obtain ⟨c, h1, q⟩ := g.bl f n
  cases e with
  | none =>
    cases o2.non
    cases h1
    exact op_isN pins s σ H _ _ v u Q I rx ry ⟨rfl, by rw [o1.isNon]; exact q⟩
  | bool k =>
    cases o2.bool
    cases d with
    | bool j =>
      cases o1.bool
      cases h1
      exact op_isBl pins s σ H _ _ v u Q I rx ry ⟨j, k, rfl, rfl, q⟩
    | _ => cases h1
  | _ => cases h1
theorem op_isnot' (hK : X.K = G.K) : OpR X (compareOp .IsNot) (rCmp G.K .isnot) := by
  intro pins s σ H x y v u Q I rx ry h
  obtain ⟨F, d, e, f, n, o1, o2, g⟩ := h
  obtain ⟨c, h1, q⟩ := g.bl f n
  cases e with
  | none =>
    cases o2.non
    cases h1
    exact op_notN pins s σ H _ _ v u Q I rx ry ⟨rfl, by rw [o1.isNon]; exact q⟩
  | bool k =>
    cases o2.bool
    cases d with
    | bool j =>
      cases o1.bool
      cases h1
      exact op_notBl pins s σ H _ _ v u Q I rx ry ⟨j, k, rfl, rfl, q⟩
    | _ => cases h1
  | _ => cases h1
theorem seq_reads {pins : List (Addr × Obj)} {s : Shared} {σ : L2.St} {y : V} {u : Value} {e : D} {ds : List D} (I : Inv X pins σ H s) (f : Sub F H) (o : Opn X.K F H y e) (ry : RelV y u) (hi : itemsOf e = some ds) (hs : SeqAt.shaped (.list ds) = true) :
    (∃ as, Reads s.heap u (.list ds) as) ∨ ∃ as, Reads s.heap u (.tuple ds) as := by
  have hl : PyData.canLayAll0 ds = true := by
    have := SeqAt.canLay_of_shaped hs
    simpa [PyData.canLay0] using this
  obtain ⟨a, vs, rfl, r, h | h⟩ := o.items f hi
  · exact .inl (Dp.reads I _ _ u (.lst (SqL.of h.2) (Rps.dp (r.mono f) hl)) ry)
  · exact .inr (Dp.reads I _ _ u (.tup h.2 (Rps.dp (r.mono f) hl)) ry)
theorem op_in' (hK : X.K = G.K) (hu : X.A.units + 66 < cLine) : OpR X (compareOp .In) (rCmp G.K .isin) := by
  intro pins s σ H x y v u Q I rx ry h
  obtain ⟨F, d, e, f, n, o1, o2, g⟩ := h
  obtain ⟨c, h1, q⟩ := g.bl f n
  rw [← hK] at o1 o2
  cases hi : itemsOf e with
  | none =>
    have h1' : (match itemsOf e with | some ds => if SeqAt.shaped d && SeqAt.shaped (.list ds) then some (ds.any fun z => PyData.eqv z d) else none | none => none) = some c := h1
    rw [hi] at h1'
    cases h1'
  | some ds =>
    have h1' : (match itemsOf e with | some ds => if SeqAt.shaped d && SeqAt.shaped (.list ds) then some (ds.any fun z => PyData.eqv z d) else none | none => none) = some c := h1
    rw [hi] at h1'
    obtain ⟨h2, h3⟩ := ite_some h1'
    rw [Bool.and_eq_true] at h2
    subst h3
    obtain ⟨bs, r1⟩ := Dp.reads I d x v ((o1.rp f).dp (SeqAt.canLay_of_shaped h2.1)) rx
    have hcl : PyData.canLayAll0 ds = true := by
      have := SeqAt.canLay_of_shaped h2.2
      simpa [PyData.canLay0] using this
    have room : X.A.units + 1 + min (PyData.depthAll ds) d.depth < cLine := by
      have h4 := SeqAt.depth_of_shaped h2.1
      have h5 : min (PyData.depthAll ds) d.depth ≤ d.depth := Nat.min_le_right _ _
      omega
    rcases seq_reads I f o2 ry hi h2.2 with ⟨as, r2⟩ | ⟨as, r2⟩
    · exact SeqAt.in_list_reads r2 r1 hcl (SeqAt.canLay_of_shaped h2.1) room ⟨.bl _, H, I, rfl, q⟩
    · exact SeqAt.in_tuple_reads r2 r1 hcl (SeqAt.canLay_of_shaped h2.1) room ⟨.bl _, H, I, rfl, q⟩
theorem op_notin' (hK : X.K = G.K) (hu : X.A.units + 66 < cLine) : OpR X (compareOp .NotIn) (rCmp G.K .notin) := by
  intro pins s σ H x y v u Q I rx ry h
  obtain ⟨F, d, e, f, n, o1, o2, g⟩ := h
  obtain ⟨c, h1, q⟩ := g.bl f n
  rw [← hK] at o1 o2
  cases hi : itemsOf e with
  | none =>
    have h1' : (match itemsOf e with | some ds => if SeqAt.shaped d && SeqAt.shaped (.list ds) then some (!ds.any fun z => PyData.eqv z d) else none | none => none) = some c := h1
    rw [hi] at h1'
    cases h1'
  | some ds =>
    have h1' : (match itemsOf e with | some ds => if SeqAt.shaped d && SeqAt.shaped (.list ds) then some (!ds.any fun z => PyData.eqv z d) else none | none => none) = some c := h1
    rw [hi] at h1'
    obtain ⟨h2, h3⟩ := ite_some h1'
    rw [Bool.and_eq_true] at h2
    subst h3
    obtain ⟨bs, r1⟩ := Dp.reads I d x v ((o1.rp f).dp (SeqAt.canLay_of_shaped h2.1)) rx
    have hcl : PyData.canLayAll0 ds = true := by
      have := SeqAt.canLay_of_shaped h2.2
      simpa [PyData.canLay0] using this
    have room : X.A.units + 1 + min (PyData.depthAll ds) d.depth < cLine := by
      have h4 := SeqAt.depth_of_shaped h2.1
      have h5 : min (PyData.depthAll ds) d.depth ≤ d.depth := Nat.min_le_right _ _
      omega
    rcases seq_reads I f o2 ry hi h2.2 with ⟨as, r2⟩ | ⟨as, r2⟩
    · exact SeqAt.notIn_list_reads r2 r1 hcl (SeqAt.canLay_of_shaped h2.1) room ⟨.bl _, H, I, rfl, q⟩
    · exact SeqAt.notIn_tuple_reads r2 r1 hcl (SeqAt.canLay_of_shaped h2.1) room ⟨.bl _, H, I, rfl, q⟩
def copOf : COp → CmpOp
  | .eq => .Eq | .ne => .NotEq | .lt => .Lt | .le => .LtE | .gt => .Gt | .ge => .GtE | .isin => .In | .notin => .NotIn | .is => .Is | .isnot => .IsNot
theorem cop_all (hK : X.K = G.K) (hu : X.A.units + 66 < cLine) (o : COp) : OpR X (compareOp (copOf o)) (rCmp G.K o) := by
  cases o with
  | eq => exact op_eq' hK (by omega)
  | ne => exact op_ne' hK (by omega)
  | lt => exact op_lt' hK (by omega)
  | le => exact op_le' hK
  | gt => exact op_gt' hK
  | ge => exact op_ge' hK
  | isin => exact op_in' hK hu
  | notin => exact op_notin' hK hu
  | is => exact op_is' hK
  | isnot => exact op_isnot' hK
end
end Ev
end
section
set_option Elab.async false
set_option linter.all false
set_option maxRecDepth 100000
set_option autoImplicit false
namespace Ev
open PySem L2 PySem.Spec PyProof.Rows
section
variable {G : Gx} {W : WX} {R F H F' H' : Hp} {ρ ρ' : Fr} {σ : L2.St} {X : Cx} {e a b c : Expr} {es : List Expr} {pos : Pos} {ea eb ec : Ev1} {ees : Fr → Out (List D)} {et : Fr → Out Bool}
theorem Af.new {z : D} {o : HO} {p : Addr} {Q : VK} (m : Mt G R F ρ σ H) (h : Af G W σ R F (RsOk G σ) (.ok (.v z) ρ) Q) (hp : H p = none) (ho : ∀ ps, o ≠ .tbl ps) (hz : Rp G.K (upd F p o) (.ref p) z) : Q (.ref p) (upd H p o) :=
  h _ _ _ ((Nu.new m.f m.nf hp ho).ef m.r) (m.ext (Nu.new m.f m.nf hp ho)) hz
theorem Af.own {zs : List D} {vs : List V} {p : Addr} {Q : VK} (m : Mt G R F ρ σ H) (h : Af G W σ R F (RsOk G σ) (.ok (.l zs) ρ) Q) (hp : H p = none) (hz : Rps G.K F vs zs) : Q (.ref p) (upd H p (.lst vs)) :=
  h _ _ _ .refl (m.ext (Nu.own m.f m.nf hp)) ⟨p, vs, rfl, m.r.free hp, m.f.free hp, upd_same, hz, fresh_new m hp⟩
theorem Af.val {z : D} {v : V} {Q : VK} (m : Mt G R F ρ σ H) (h : Af G W σ R F (RsOk G σ) (.ok (.v z) ρ) Q) (hz : Rp G.K F v z) : Q v H := h _ _ _ .refl m hz
theorem snd_var {i : Nat} {x : Str} (h : PE X (.Name x pos) (tVar i)) : PE X (.Name x pos) (tE G W (varF i)) := h.weak fun σ H Q q => by
  obtain ⟨R, F, ρ, m, q⟩ := q
  unfold varF at q
  cases e : ρ.get i with
  | no =>
    simp only [e] at q
    exact q.elim
  | ex x =>
    simp only [e] at q
    exact q.elim
  | v d =>
    simp only [e] at q
    obtain ⟨v, h1, h2⟩ := m.me.at_ i _ (get_v e)
    exact ⟨v, h1, Af.val m q h2⟩
  | ol xs =>
    simp only [e] at q
    obtain ⟨p, F', h1, h2, h3, h4⟩ := m.freeze e
    exact ⟨_, h1, q _ _ _ h2 h3 h4⟩
theorem snd_pk {i : Nat} {x : Str} (h : PE X (.Name x pos) (tVar i)) : PE X (.Name x pos) (tE G W (pkF i)) := h.weak fun σ H Q q => by
  obtain ⟨R, F, ρ, m, q⟩ := q
  unfold pkF at q
  cases e : ρ.get i with
  | no =>
    simp only [e] at q
    exact q.elim
  | ex x =>
    simp only [e] at q
    exact q.elim
  | v d =>
    simp only [e] at q
    obtain ⟨v, h1, h2⟩ := m.me.at_ i _ (get_v e)
    exact ⟨v, h1, q _ _ _ .refl m h1⟩
  | ol xs =>
    simp only [e] at q
    obtain ⟨p, vs, h1, h2, h3, h4, h5⟩ := m.me.at_ i _ (get_ol e)
    exact ⟨_, h1, q _ _ _ .refl m h1⟩
/-- a constant: a value known -/
theorem snd_c {v : V} {d : D} (h : PE X e (tC v)) (hd : ∀ F, Rp G.K F v d) : PE X e (tE G W fun ρ => .ok (.v d) ρ) := h.weak fun σ H Q q => by
  obtain ⟨R, F, ρ, m, q⟩ := q
  exact Af.val m q (hd F)
theorem snd_nil : PA X [] (tAs G W fun ρ => .ok [] ρ) := pa_nil.weak fun σ H Q q => by
  obtain ⟨R, F, ρ, m, q⟩ := q
  exact q _ _ _ .refl m .nil
/-- results frozen one by one -/
theorem snd_cons (he : PE X e (tE G W ea)) (hr : PA X es (tAs G W ees)) (hs : starEach (e :: es) X.env = (false, eval e X.env) :: starEach es X.env) : PA X (e :: es) (tAs G W (consF ea ees)) := (pa_cons he hr hs).weak fun σ H Q q => by
  refine tX.mono (tX.bind (ok := RsOk G) q) fun v H1 ⟨R, F, ρ, r, m, o, h⟩ => ?_
  cases hz : r.fz with
  | none =>
    simp only [hz] at h
    exact h.elim
  | some d =>
    simp only [hz] at h
    obtain ⟨F', ef, m', rp⟩ := fz1 m o hz
    have h2 := Af.ef h ef
    refine ⟨R, F', ρ, m', ?_⟩
    revert h2
    cases ees ρ with
    | stk => exact id
    | ex x ρ' => exact id
    | ok ds ρ' => exact fun h2 F2 H2 vs ef2 m2 o2 => h2 F2 H2 (v :: vs) ef2 m2 (.cons (rp.mono ef2.ff) o2)
theorem snd_nilR : PA X [] (tAr G W fun ρ => .ok [] ρ) := pa_nil.weak fun σ H Q q => by
  obtain ⟨R, F, ρ, m, q⟩ := q
  exact q _ _ _ .refl m trivial
theorem snd_consR {eer : Fr → Out (List Rs)} (he : PE X e (tE G W ea)) (hr : PA X es (tAr G W eer)) (hs : starEach (e :: es) X.env = (false, eval e X.env) :: starEach es X.env) : PA X (e :: es) (tAr G W (consR ea eer)) := (pa_cons he hr hs).weak fun σ H Q q => by
  refine tX.mono (tX.bind (ok := RsOk G) q) fun v H1 ⟨R, F, ρ, r, m, o, h⟩ => ?_
  obtain ⟨m1, back⟩ := hold1 m o
  refine ⟨_, F, ρ, m1, ?_⟩
  revert h
  cases eer ρ with
  | stk => exact id
  | ex x ρ' => exact fun h F2 H2 cl d ef2 m2 hx => h F2 H2 cl d (back _ _ _ ef2 m2).1 (back _ _ _ ef2 m2).2.1 hx
  | ok rs ρ' =>
    intro h F2 H2 vs ef2 m2 o2
    obtain ⟨k1, k2, k3, k4⟩ := back _ _ _ ef2 m2
    exact h F2 H2 (v :: vs) k1 k2 ⟨k3, by rw [k4]; exact o2⟩
theorem snd_tup {x1} (h : PA X es (tAs G W ees)) : PE X (.Tuple es x1 pos) (tE G W (tupF ees)) := (pe_tup h).weak fun σ H Q q => by
  refine tX.mono (tX.bind (ok := fun _ _ F _ _ ds vs => Rps G.K F vs ds) q) fun vs H1 ⟨R, F, ρ, ds, m, o, h⟩ => ?_
  by_cases hz : ds.length ≤ big
  · simp only [hz, if_true] at h
    exact ⟨by rw [o.len]; exact hz, fun p hp => Af.new m h hp (fun ps z => by cases z) (.tup (SqT.of upd_same) (o.mono (same_new (m.f.free hp))))⟩
  · simp only [hz, if_false] at h
    exact h.elim
theorem snd_lst (h : PA X es (tAs G W ees)) : PE X (.List es pos) (tE G W (lstF ees)) := (pe_lst h).weak fun σ H Q q => by
  refine tX.mono (tX.bind (ok := fun _ _ F _ _ ds vs => Rps G.K F vs ds) q) fun vs H1 ⟨R, F, ρ, ds, m, o, h⟩ => ?_
  by_cases hz : ds.length ≤ big
  · simp only [hz, if_true] at h
    exact ⟨by rw [o.len]; exact hz, fun p hp => Af.own m h hp o⟩
  · simp only [hz, if_false] at h
    exact h.elim
theorem snd_neg (ha : PE X a (tE G W ea)) : PE X (.UnaryOp .USub a pos) (tE G W (negF ea)) := (pe_un un_neg ha).weak fun σ H Q q => by
  refine tX.mono (tX.bind (ok := RsOk G) q) fun v H1 ⟨R, F, ρ, r, m, o, h⟩ => ?_
  cases r with
  | v d =>
    cases d with
    | int i =>
      cases o
      exact ⟨i, rfl, Af.val m h (.int _)⟩
    | _ => exact h.elim
  | _ => exact h.elim
theorem snd_bool {Q : Bool → Hp → Prop} (q : tT G W (boolF ea) σ H Q) : tE G W ea σ H fun x H1 => ∃ k, x = .bl k ∧ Q k H1 := by
  refine tX.mono (tX.bind (ok := RsOk G) q) fun v H1 ⟨R, F, ρ, r, m, o, h⟩ => ?_
  cases r with
  | v d =>
    cases d with
    | bool i =>
      cases o
      exact ⟨i, rfl, h _ _ _ .refl m rfl⟩
    | _ => exact h.elim
  | _ => exact h.elim
theorem tT.bind {α γ : Type} {ok' : L2.St → Hp → Hp → Hp → Fr → α → γ → Prop} {k : Bool → Fr → Out α} {Q : γ → Hp → Prop} (h : tX G W ok' (fun ρ => (et ρ).bind k) σ H Q) :
    tT G W et σ H fun c H1 => tX G W ok' (k c) σ H1 Q := by
  refine tX.mono (tX.bind (ok := fun _ _ _ _ _ (a b : Bool) => a = b) h) fun c H1 ⟨R, F, ρ, c', m, o, h⟩ => ?_
  subst o
  exact ⟨R, F, ρ, m, h⟩
/-- the bool of an expression, then the rest -/
theorem tB.bind {α γ : Type} {ok' : L2.St → Hp → Hp → Hp → Fr → α → γ → Prop} {k : Bool → Fr → Out α} {Q : γ → Hp → Prop} (h : tX G W ok' (fun ρ => (boolF ea ρ).bind k) σ H Q) :
    tE G W ea σ H fun x H1 => ∃ c, x = .bl c ∧ tX G W ok' (k c) σ H1 Q := snd_bool (tT.bind h)
theorem snd_one {op} (h : PE X a (tE G W ea)) : PE X (.BoolOp op [a] pos) (tE G W ea) := pe_one h
theorem tE.bl {k : Bool} {Q : VK} (h : tE G W (fun ρ => .ok (.v (.bool k)) ρ) σ H Q) : Q (.bl k) H := by
  obtain ⟨R, F, ρ, m, q⟩ := h
  exact Af.val m q (.bl _)
theorem tT.bl {k : Bool} {Q : Bool → Hp → Prop} (h : tT G W (fun ρ => .ok k ρ) σ H Q) : Q k H := by
  obtain ⟨R, F, ρ, m, q⟩ := h
  exact q _ _ _ .refl m rfl
variable {rest : List Expr}
theorem snd_and (ha : PE X a (tE G W ea)) (hb : PE X (.BoolOp .And (b :: rest) pos) (tE G W eb)) : PE X (.BoolOp .And (a :: b :: rest) pos) (tE G W (andF ea eb)) := (pe_and ha hb).weak fun σ H Q q => by
  refine tX.mono (tB.bind q) fun v H1 ⟨c, e, h⟩ => ⟨c, e, ?_⟩
  cases c with
  | true => exact h
  | false => exact tE.bl h
theorem snd_or (ha : PE X a (tE G W ea)) (hb : PE X (.BoolOp .Or (b :: rest) pos) (tE G W eb)) : PE X (.BoolOp .Or (a :: b :: rest) pos) (tE G W (orF ea eb)) := (pe_or ha hb).weak fun σ H Q q => by
  refine tX.mono (tB.bind q) fun v H1 ⟨c, e, h⟩ => ⟨c, e, ?_⟩
  cases c with
  | false => exact h
  | true => exact tE.bl h
theorem snd_ite {ec : Ev1} (ht : PT X c (tT G W et)) (ha : PE X a (tE G W ea)) (hb : PE X b (tE G W eb)) : PE X (.IfExp c a b pos) (tE G W (iteF et ea eb)) := (pe_ifExp ht ha hb).weak fun σ H Q q => by
  refine tX.mono (tT.bind q) fun k H1 h => ?_
  cases k with
  | true => exact h
  | false => exact h
/-! #### tests -/
theorem snd_not (ha : PT X a (tT G W et)) : PT X (.UnaryOp .Not a pos) (tT G W fun ρ => (et ρ).bind fun c ρ1 => .ok (!c) ρ1) := (pt_not ha).weak fun σ H Q q =>
  tX.mono (tT.bind q) fun k H1 h => tT.bl h
variable {eu : Fr → Out Bool}
theorem snd_wand (ha : PT X a (tT G W et)) (hb : PW X (.BoolOp .And (b :: rest) pos) (tT G W eu)) : PW X (.BoolOp .And (a :: b :: rest) pos) (tT G W (iteF et eu fun ρ => .ok false ρ)) := (pw_and ha hb).weak fun σ H Q q => by
  refine tX.mono (tT.bind q) fun k H1 h => ?_
  cases k with
  | true => exact h
  | false => exact tT.bl h
theorem snd_wor (ha : PT X a (tT G W et)) (hb : PW X (.BoolOp .Or (b :: rest) pos) (tT G W eu)) : PW X (.BoolOp .Or (a :: b :: rest) pos) (tT G W (iteF et (fun ρ => .ok true ρ) eu)) := (pw_or ha hb).weak fun σ H Q q => by
  refine tX.mono (tT.bind q) fun k H1 h => ?_
  cases k with
  | false => exact h
  | true => exact tT.bl h
/-- not as a value -/
theorem snd_notV (ha : PE X a (tE G W ea)) : PE X (.UnaryOp .Not a pos) (tE G W (tstF fun ρ => (boolF ea ρ).bind fun c ρ1 => .ok (!c) ρ1)) := (pe_not ha).weak fun σ H Q q => by
  have q' : tE G W (fun ρ => (boolF ea ρ).bind fun c ρ1 => .ok (.v (.bool (!c))) ρ1) σ H Q := by
    obtain ⟨R, F, ρ, m, h⟩ := q
    refine ⟨R, F, ρ, m, ?_⟩
    unfold tstF at h
    dsimp only at h ⊢
    revert h
    cases boolF ea ρ with
    | stk => exact id
    | ex x ρ' => exact id
    | ok c ρ' => exact id
  exact tX.mono (tB.bind q') fun v H1 ⟨c, e, h⟩ => ⟨c, e, tE.bl h⟩
theorem Opn.tru {K : Fg} {v : V} {d : D} {k : Bool} (o : Opn K F H v d) (f : Sub F H) (h : truthy d = some k) : TruV K v H k := by
  cases d with
  | none =>
    cases o.non
    exact (Option.some.inj h).symm
  | bool i =>
    cases o.bool
    exact (Option.some.inj h).symm
  | int i =>
    cases o.int
    exact (Option.some.inj h).symm
  | list xs =>
    obtain ⟨p, vs, rfl, h1, h2⟩ := o.lst f
    refine .inl ⟨vs, SqL.of h1, ?_⟩
    rw [← Option.some.inj h]
    cases h2 <;> rfl
  | tuple xs =>
    obtain ⟨p, vs, rfl, h1, h2⟩ := o.tup
    refine .inr (.inl ⟨vs, Same.seqT f h1, ?_⟩)
    rw [← Option.some.inj h]
    cases h2 <;> rfl
  | _ => cases h
theorem snd_val (ha : PE X a (tE G W ea)) (hK : X.K = G.K) (he : ∀ whole, isTrue a X.env whole = (do let v ← whole; standAt a.pos; holding [v] (PySem.truthy v))) : PT X a (tT G W (valF ea)) := (pt_truth ha he).weak fun σ H Q q => by
  refine tX.mono (tX.bind (ok := RsOk G) q) fun v H1 ⟨R, F, ρ, r, m, o, h⟩ => ?_
  cases hz : r.get ρ with
  | none =>
    simp only [hz] at h
    exact h.elim
  | some d =>
    simp only [hz] at h
    cases ht : Ev.truthy d with
    | none =>
      rw [ht] at h
      exact h.elim
    | some k =>
      rw [ht] at h
      exact ⟨k, by rw [hK]; exact (o.opn m hz).tru m.f ht, h _ _ _ .refl m rfl⟩
/-! #### comparisons -/
theorem snd_cmp {o : COp} (hK : X.K = G.K) (hu : X.A.units + 66 < cLine) (ha : PE X a (tE G W ea)) (hb : PE X b (tE G W eb)) (hm : behindInMarks (copOf o) b = false) : PE X (.Compare a [copOf o] [b] pos) (tE G W (binF (cmpR o) ea eb)) :=
  (pe_cmpR (cop_all hK hu o) ha hb hm).weak fun σ H Q h => tX.mono (tE.two h) fun x H1 h1 => tX.mono h1 fun y H2 h2 => h2.op
theorem snd_cmpT {o : COp} (hK : X.K = G.K) (hu : X.A.units + 66 < cLine) (ha : PE X a (tE G W ea)) (hb : PE X b (tE G W eb)) (hm : behindInMarks (copOf o) b = false) : PT X (.Compare a [copOf o] [b] pos) (tT G W (boolF (binF (cmpR o) ea eb))) :=
  (pt_cmpR (cop_all hK hu o) ha hb hm).weak fun σ H Q h => tX.mono (tE.two (snd_bool h)) fun x H1 h1 => tX.mono h1 fun y H2 h2 => h2.op
theorem Opn.ext {K : Fg} {v : V} {d : D} (o : Opn K F H v d) (n : Nu F H F' H') : Opn K F' H' v d := o.mono n.ff n.hh
theorem tChain_of {o p : COp} {Q : VK} (h : tE G W (chainF o p ea eb ec) σ H Q) : tChain (rCmp G.K o) (rCmp G.K p) (tE G W ea) (tE G W eb) (tE G W ec) σ H Q := by
  refine tX.mono (tE.two h) fun x H1 h1 => tX.mono h1 fun y H2 h2 => ?_
  obtain ⟨R, F, ρ, r, q, m, o1, o2, h⟩ := h2
  cases q with
  | pl i => exact h.elim
  | l xs => exact h.elim
  | v e =>
    have ry : Rp G.K F y e := o2
    cases hz : r.get ρ with
    | none =>
      simp only [hz] at h
      exact h.elim
    | some d =>
      simp only [hz] at h
      cases hc : cmpop o d e with
      | none =>
        simp only [hc] at h
        exact h.elim
      | some k =>
        simp only [hc] at h
        refine ⟨F, d, e, m.f, m.nf, o1.opn m hz, .inl ry, ?_⟩
        show Gv G.K F H2 (cmpR o d e) _
        unfold cmpR
        rw [hc]
        intro F' H' v n rv
        cases rv
        refine ⟨k, rfl, ?_⟩
        have m' := m.ext n
        have ef := n.ef m.r
        cases k with
        | false => exact Af.val m' (Af.ef h ef) (.bl _)
        | true =>
          have h' : Af G W σ R F' (RsOk G σ) ((ec ρ).bind fun z ρ3 => (match z.get ρ3 with | some f => opt (cmpR p e f) ρ3 | none => .stk)) Q := Af.ef h ef
          refine tX.next (r := .v e) (ok := RsOk G) m' (ry.mono n.ff) h' _ fun F2 H2 ρ2 z w m2 oy oz h2 => ?_
          cases hw : z.get ρ2 with
          | none =>
            simp only [hw] at h2
            exact h2.elim
          | some f2 =>
            simp only [hw] at h2
            exact ⟨F2, e, f2, m2.f, m2.nf, .inl oy, oz.opn m2 hw, gv_of m2 h2⟩
theorem snd_chain {o p : COp} (hK : X.K = G.K) (hu : X.A.units + 66 < cLine) (ha : PE X a (tE G W ea)) (hb : PE X b (tE G W eb)) (hc : PE X c (tE G W ec)) (hm : lastMarks [copOf o, copOf p] [b, c] = false) :
    PE X (.Compare a [copOf o, copOf p] [b, c] pos) (tE G W (chainF o p ea eb ec)) := (pe_chain (cop_all hK hu o) (cop_all hK hu p) ha hb hc hm).weak fun σ H Q h => tChain_of h
theorem snd_chainT {o p : COp} (hK : X.K = G.K) (hu : X.A.units + 66 < cLine) (ha : PE X a (tE G W ea)) (hb : PE X b (tE G W eb)) (hc : PE X c (tE G W ec)) (hm : lastMarks [copOf o, copOf p] [b, c] = false) :
    PT X (.Compare a [copOf o, copOf p] [b, c] pos) (tT G W (boolF (chainF o p ea eb ec))) := (pt_chain (cop_all hK hu o) (cop_all hK hu p) ha hb hc hm).weak fun σ H Q h => tChain_of (snd_bool h)
end
end Ev
end
section
set_option Elab.async false
set_option linter.all false
set_option maxRecDepth 100000
set_option autoImplicit false
namespace Ev
open PySem L2 PySem.Spec PyProof.Rows
section
variable {G : Gx} {W : WX} {R F H F' H' : Hp} {ρ ρ' : Fr} {σ : L2.St} {X : Cx} {K : Fg} {Q : VK}
/-! #### subscripts -/
theorem Rps.atI {vs : List V} {xs : List D} {k : Int} {d : D} (h : Rps K F vs xs) (e : L2.atI xs k = some d) : ∃ v, L2.atI vs k = some v ∧ Rp K F v d := by
  unfold L2.atI at e ⊢
  rw [h.len]
  cases q : ixN xs.length k with
  | none =>
    rw [q] at e
    cases e
  | some j =>
    rw [q] at e
    exact h.get e
theorem Gv.ofOpt {o : Option D} (g : Gv K F H (o.map Rs.v) Q) : ∃ d, o = some d ∧ Gv K F H (some (Rs.v d)) Q := by
  cases o with
  | none => exact g.elim
  | some d => exact ⟨d, rfl, g⟩
theorem ix_all (hK : X.K = G.K) : IxR X (rOp G.K getIx) := by
  intro value slice pins s σ H x y v u Q I rx ry h hs
  obtain ⟨F, d, e, f, n, o1, o2, g⟩ := h
  rw [← hK] at o1 o2 g
  cases hi : itemsOf d with
  | none =>
    unfold getIx at g
    rw [hi] at g
    exact g.elim
  | some xs =>
    unfold getIx at g
    rw [hi] at g
    cases e with
    | int k =>
      cases o2.int
      obtain ⟨z, hz, g⟩ := Gv.ofOpt g
      obtain ⟨a, vs, rfl, r, q | q⟩ := o1.items f hi
      · obtain ⟨w, h1, h2⟩ := r.atI hz
        exact ix_list value slice pins s σ H _ _ v u Q I rx ry ⟨a, vs, k, w, rfl, rfl, SqL.of q.2, h1, g.same f n h2⟩ hs
      · obtain ⟨w, h1, h2⟩ := r.atI hz
        exact ix_tup value slice pins s σ H _ _ v u Q I rx ry ⟨a, vs, k, w, rfl, rfl, q.2, h1, g.same f n h2⟩ hs
    | _ => exact g.elim
variable {e a b : Expr} {es : List Expr} {pos : Pos} {ea eb : Ev1} {ees : Fr → Out (List D)} {eer : Fr → Out (List Rs)}
theorem snd_idx (hK : X.K = G.K) (ha : PE X a (tE G W ea)) (hb : PE X b (tE G W eb)) (hs : PlainIx b) : PE X (.Subscript a b pos) (tE G W (binF getIx ea eb)) :=
  (pe_ix (ix_all hK) ha hb hs).weak fun σ H Q h => tX.mono (tE.two h) fun x H1 h1 => tX.mono h1 fun y H2 h2 => h2.op
/-! #### slices -/
theorem cut_rps {vs : List V} {xs : List D} (h : Rps K F vs xs) (lo hi : Option Int) : Rps K F (cutV vs lo hi) (cutD xs lo hi) := by
  have e : ∀ d o, HT.sIx vs.length d o = sBound xs.length d o := fun d o => by
    rw [h.len]
    cases o <;> rfl
  unfold cutV cutD
  rw [e, e, h.len]
  exact (h.drop _).take _
def rSl (K : Fg) : V → Option Int → Option Int → Hp → VK → Prop := fun x lo hi H Q => ∃ F d, Sub F H ∧ NoT F ∧ Opn K F H x d ∧ Gv K F H (slice d lo hi) Q
theorem sl_all (hK : X.K = G.K) : SlR X (rSl G.K) := by
  intro pins s σ H x v vl vu lo hi sl Q I rx hs pl pu h
  obtain ⟨F, d, f, n, o, g⟩ := h
  rw [← hK] at o g
  have lst : ∀ {a : Addr} {vs : List V} {xs : List D}, x = .ref a → SqL X.K H a vs → Rps X.K F vs xs → Gv X.K F H (some (.l (cutD xs lo hi))) Q → _ := fun {a vs xs} e q r g =>
    sl_list pins s σ H x v vl vu lo hi sl Q I rx hs pl pu ⟨a, vs, e, q, fun p hp => g.lst f n hp (cut_rps r lo hi)⟩
  cases d with
  | list xs =>
    obtain ⟨a, vs, e, q, r⟩ := o.lst f
    exact lst e (SqL.of q) r g
  | tuple xs =>
    obtain ⟨a, vs, rfl, q, r⟩ := o.tup
    refine sl_tupA pins s σ H _ v vl vu lo hi sl Q I rx hs pl pu ⟨a, vs, rfl, Same.seqT f q, fun z => ?_, fun z p hp => g.tup f n hp (cut_rps r lo hi)⟩
    have e : cutD xs lo hi = xs := by
      have e0 : sBound xs.length 0 lo = HT.sIx vs.length 0 lo := by
        rw [r.len]
        cases lo <;> rfl
      have e1 : sBound xs.length xs.length hi = HT.sIx vs.length vs.length hi := by
        rw [r.len]
        cases hi <;> rfl
      unfold cutD
      rw [e0, e1, z.1, z.2, r.len]
      simp
    have g' : Gv X.K F H (some (.v (.tuple (cutD xs lo hi)))) Q := g
    rw [e] at g'
    exact g'.same f n (.tup q r)
  | dict kvs =>
    rcases o with o | ⟨_, _, _, _, z, _⟩
    · cases o with
      | scr q r => exact lst rfl (f.seq q) r g
      | dic _ => exact g.elim
    · cases z
  | _ => exact g.elim
theorem snd_part {lo : Option Expr} {ab : Bool} (h : match lo with | none => ab = true | some x => ab = false ∧ PE X x (tE G W ea)) : PO X lo (tX G W (fun _ _ _ _ _ (a b : Option Int) => a = b) (partF ab ea)) := by
  cases lo with
  | none =>
    have h : ab = true := h
    subst h
    refine ⟨fun pins s σ H Q I q => po_none.run pins s σ H Q I ?_⟩
    obtain ⟨R, F, ρ, m, q⟩ := q
    exact q _ _ _ .refl m rfl
  | some x =>
    have h2 : ab = false ∧ PE X x (tE G W ea) := h
    clear h
    obtain ⟨rfl, h2⟩ := h2
    refine ⟨fun pins s σ H Q I q => (po_some h2).run pins s σ H Q I ?_⟩
    refine tX.mono (tX.bind (ok := RsOk G) (k := fun r ρ1 => match r with | .v (.int i) => .ok (Option.some i) ρ1 | _ => .stk) q) fun v H1 ⟨R, F, ρ, r, m, o, h⟩ => ?_
    cases r with
    | v d =>
      cases d with
      | int i =>
        cases o
        exact ⟨i, rfl, h _ _ _ .refl m rfl⟩
      | _ => exact h.elim
    | _ => exact h.elim
theorem snd_slc {lo hi : Option Expr} {p2 : Pos} {pl ph : Fr → Out (Option Int)} (hK : X.K = G.K) (ha : PE X a (tE G W ea)) (hl : PO X lo (tX G W (fun _ _ _ _ _ (a b : Option Int) => a = b) pl)) (hh : PO X hi (tX G W (fun _ _ _ _ _ (a b : Option Int) => a = b) ph)) :
    PE X (.Subscript a (.Slice lo hi none p2) pos) (tE G W (slcF ea pl ph)) := (pe_slice (sl_all hK) ha hl hh).weak fun σ H Q q => by
  refine tX.mono (tX.bind (ok := RsOk G) q) fun v H1 ⟨R, F, ρ, r, m, o, h⟩ => ?_
  refine tX.next (ok := fun _ _ _ _ _ (a b : Option Int) => a = b) m o h _ fun F2 H2 ρ2 l l' m2 o2 e h2 => ?_
  subst e
  refine tX.next (ok := fun _ _ _ _ _ (a b : Option Int) => a = b) m2 o2 h2 _ fun F3 H3 ρ3 u u' m3 o3 e h3 => ?_
  subst e
  cases hz : r.get ρ3 with
  | none =>
    simp only [hz] at h3
    exact h3.elim
  | some d =>
    simp only [hz] at h3
    exact ⟨F3, d, m3.f, m3.nf, o3.opn m3 hz, gv_of m3 h3⟩
/-! #### built-ins by their arguments -/
def Opns (K : Fg) (F H : Hp) : List V → List D → Prop
  | [], [] => True
  | v :: vs, d :: ds => Opn K F H v d ∧ Opns K F H vs ds
  | _, _ => False
theorem Pend.opns (m : Mt G R F ρ σ H) : ∀ {rs : List Rs} {vs : List V} {ds : List D} {R' : Hp}, Pend G σ F H ρ R' rs vs → getAll ρ rs = some ds → Opns G.K F H vs ds
  | [], [], ds, _, _, e => by
    cases e
    trivial
  | r :: rs, v :: vs, ds, R', h, e => by
    unfold getAll at e
    cases h1 : r.get ρ with
    | none =>
      rw [h1] at e
      cases e
    | some d =>
      cases h2 : getAll ρ rs with
      | none =>
        rw [h1, h2] at e
        cases e
      | some es =>
        rw [h1, h2] at e
        cases e
        exact ⟨h.1.opn m h1, Pend.opns m h.2 h2⟩
  | [], _ :: _, _, _, h, _ => h.elim
  | _ :: _, [], _, _, h, _ => h.elim
def rBi (K : Fg) (b : Bi) : List V → Hp → VK → Prop := fun vs H Q => ∃ F ds, Sub F H ∧ NoT F ∧ Opns K F H vs ds ∧ Gv K F H (bltf b ds) Q
theorem tCB_of {b : Bi} (q : tE G W (biF b eer) σ H Q) : tCB (rBi G.K b) (tAr G W eer) σ H Q := by
  refine tX.mono (tX.bind (ok := fun σ R F H ρ rs vs => Pend G σ F H ρ R rs vs) q) fun vs H1 ⟨R, F, ρ, rs, m, o, h⟩ => ?_
  cases hz : getAll ρ rs with
  | none =>
    simp only [hz] at h
    exact h.elim
  | some ds =>
    simp only [hz] at h
    exact ⟨F, ds, m.f, m.nf, Pend.opns m o hz, gv_of m h⟩
theorem Opns.one {vs : List V} {d : D} (h : Opns K F H vs [d]) : ∃ v, vs = [v] ∧ Opn K F H v d := by
  match vs, h with
  | [v], h => exact ⟨v, rfl, h.1⟩
theorem Opns.two {vs : List V} {d e : D} (h : Opns K F H vs [d, e]) : ∃ v u, vs = [v, u] ∧ Opn K F H v d ∧ Opn K F H u e := by
  match vs, h with
  | [v, u], h => exact ⟨v, u, rfl, h.1, h.2.1⟩
theorem items_sq {v : V} {d : D} {xs : List D} (o : Opn K F H v d) (f : Sub F H) (hi : itemsOf d = some xs) : ∃ a vs, v = .ref a ∧ Rps K F vs xs ∧ (SqL K H a vs ∨ SqT K H a vs) := by
  obtain ⟨a, vs, rfl, r, q | q⟩ := o.items f hi
  · exact ⟨a, vs, rfl, r, .inl (SqL.of q.2)⟩
  · exact ⟨a, vs, rfl, r, .inr q.2⟩
theorem ints_rps : ∀ {xs : List D} {l : List Int} {vs : List V}, intsOf xs = some l → Rps K F vs xs → vs = l.map V.int
  | [], l, vs, e, r => by
    cases e
    cases r
    rfl
  | d :: xs, l, vs, e, r => by
    cases d with
    | int i =>
      have e' : (intsOf xs).map (i :: ·) = some l := e
      cases h : intsOf xs with
      | none =>
        rw [h] at e'
        cases e'
      | some l' =>
        rw [h] at e'
        cases e'
        cases r with
        | cons h1 h2 =>
          cases h1
          rw [ints_rps h h2]
          rfl
    | _ => cases e
theorem bools_rps : ∀ {xs : List D} {l : List Bool} {vs : List V}, boolsOf xs = some l → Rps K F vs xs → vs = l.map V.bl
  | [], l, vs, e, r => by
    cases e
    cases r
    rfl
  | d :: xs, l, vs, e, r => by
    cases d with
    | bool i =>
      have e' : (boolsOf xs).map (i :: ·) = some l := e
      cases h : boolsOf xs with
      | none =>
        rw [h] at e'
        cases e'
      | some l' =>
        rw [h] at e'
        cases e'
        cases r with
        | cons h1 h2 =>
          cases h1
          rw [bools_rps h h2]
          rfl
    | _ => cases e
theorem Gv.map {α : Type} {o : Option α} {k : α → Rs} (g : Gv K F H (o.map k) Q) : ∃ x, o = some x ∧ Gv K F H (some (k x)) Q := by
  cases o with
  | none => exact g.elim
  | some x => exact ⟨x, rfl, g⟩
theorem rBi.one {b : Bi} {vs : List V} (h : rBi K b vs H Q) (hn : ∀ d e, blt2 b d e = none) : ∃ F v d, Sub F H ∧ NoT F ∧ vs = [v] ∧ Opn K F H v d ∧ Gv K F H (blt1 b d) Q := by
  obtain ⟨F, ds, f, n, o, g⟩ := h
  match ds, o, g with
  | [d], o, g =>
    obtain ⟨v, rfl, o1⟩ := o.one
    exact ⟨F, v, d, f, n, rfl, o1, g⟩
  | [], _, g => exact g.elim
  | [d, e], _, g =>
    have g' : Gv K F H (blt2 b d e) Q := g
    rw [hn] at g'
    exact g'.elim
  | _ :: _ :: _ :: _, _, g => exact g.elim
theorem rBi.two {b : Bi} {vs : List V} (h : rBi K b vs H Q) (hn : ∀ d, blt1 b d = none) : ∃ F v u d e, Sub F H ∧ NoT F ∧ vs = [v, u] ∧ Opn K F H v d ∧ Opn K F H u e ∧ Gv K F H (blt2 b d e) Q := by
  obtain ⟨F, ds, f, n, o, g⟩ := h
  match ds, o, g with
  | [d], o, g =>
    have g' : Gv K F H (blt1 b d) Q := g
    rw [hn] at g'
    exact g'.elim
  | [], _, g => exact g.elim
  | [d, e], o, g =>
    obtain ⟨v, u, rfl, o1, o2⟩ := o.two
    exact ⟨F, v, u, d, e, f, n, rfl, o1, o2, g⟩
  | _ :: _ :: _ :: _, _, g => exact g.elim
theorem cr_len' (hK : X.K = G.K) : CallR X (.builtin "len") (rBi G.K .len) := by
  intro pins s σ H vs us Q I r h
  obtain ⟨F, v, d, f, n, rfl, o, g⟩ := h.one fun _ _ => rfl
  rw [← hK] at o g
  obtain ⟨xs, hi, g⟩ := Gv.map (show Gv X.K F H ((itemsOf d).map fun xs => .v (.int xs.length)) Q from g)
  obtain ⟨a, vs, rfl, rr, q⟩ := items_sq o f hi
  refine call_len_seq pins s σ H _ us Q I r ⟨a, vs, rfl, q, ?_⟩
  rw [rr.len]
  exact g.same f n (.int _)
theorem cr_abs' (hK : X.K = G.K) : CallR X (.builtin "abs") (rBi G.K .abs) := by
  intro pins s σ H vs us Q I r h
  obtain ⟨F, v, d, f, n, rfl, o, g⟩ := h.one fun _ _ => rfl
  cases d with
  | int i =>
    cases o.int
    exact call_abs pins s σ H _ us Q I r ⟨i, rfl, Gv.same (z := .int (if i < 0 then -i else i)) g f n (.int _)⟩
  | _ => exact g.elim
/-- one argument, a list -/
theorem rBi.list {b : Bi} {vs : List V} (h : rBi K b vs H Q) (hn : ∀ d e, blt2 b d e = none) (h1 : ∀ d, (∀ xs, d ≠ .list xs) → blt1 b d = none) : ∃ F a us xs, Sub F H ∧ NoT F ∧ vs = [.ref a] ∧ H a = some (.lst us) ∧ Rps K F us xs ∧ Gv K F H (blt1 b (.list xs)) Q := by
  obtain ⟨F, v, d, f, n, rfl, o, g⟩ := h.one hn
  by_cases hd : ∃ xs, d = .list xs
  · obtain ⟨xs, rfl⟩ := hd
    obtain ⟨a, us, rfl, h2, h3⟩ := o.lst f
    exact ⟨F, a, us, xs, f, n, rfl, h2, h3, g⟩
  · rw [h1 d fun xs e => hd ⟨xs, e⟩] at g
    exact g.elim
theorem no_list {b : Bi} (h : b = .sum ∨ b = .min ∨ b = .max ∨ b = .all ∨ b = .any) (d : D) (hd : ∀ xs, d ≠ .list xs) : blt1 b d = none := by
  rcases h with rfl | rfl | rfl | rfl | rfl <;> cases d <;> first | rfl | exact absurd rfl (hd _)
theorem foldl_min : ∀ (l : List Int) (i : Int), (l.foldl min i = i ∨ l.foldl min i ∈ l) ∧ l.foldl min i ≤ i ∧ ∀ y ∈ l, l.foldl min i ≤ y
  | [], i => ⟨.inl rfl, Int.le_refl _, fun y h => by cases h⟩
  | a :: l, i => by
    obtain ⟨h1, h2, h3⟩ := foldl_min l (min i a)
    have e : (a :: l).foldl min i = l.foldl min (min i a) := rfl
    rw [e]
    refine ⟨?_, by omega, fun y hy => ?_⟩
    · rcases h1 with h1 | h1
      · rw [h1]
        by_cases q : i ≤ a
        · exact .inl (by omega)
        · exact .inr (by rw [show min i a = a by omega]; exact List.mem_cons_self)
      · exact .inr (List.mem_cons_of_mem _ h1)
    · rcases List.mem_cons.mp hy with rfl | hy
      · omega
      · exact h3 y hy
theorem foldl_max : ∀ (l : List Int) (i : Int), (l.foldl max i = i ∨ l.foldl max i ∈ l) ∧ i ≤ l.foldl max i ∧ ∀ y ∈ l, y ≤ l.foldl max i
  | [], i => ⟨.inl rfl, Int.le_refl _, fun y h => by cases h⟩
  | a :: l, i => by
    obtain ⟨h1, h2, h3⟩ := foldl_max l (max i a)
    have e : (a :: l).foldl max i = l.foldl max (max i a) := rfl
    rw [e]
    refine ⟨?_, by omega, fun y hy => ?_⟩
    · rcases h1 with h1 | h1
      · rw [h1]
        by_cases q : a ≤ i
        · exact .inl (by omega)
        · exact .inr (by rw [show max i a = a by omega]; exact List.mem_cons_self)
      · exact .inr (List.mem_cons_of_mem _ h1)
    · rcases List.mem_cons.mp hy with rfl | hy
      · omega
      · exact h3 y hy
theorem cr_sum' (hK : X.K = G.K) (hc : X.calm = true) : CallR X (.builtin "sum") (rBi G.K .sum) := by
  intro pins s σ H vs us Q I r h
  obtain ⟨F, a, ws, xs, f, n, rfl, h2, h3, g⟩ := h.list (fun _ _ => rfl) (no_list (.inl rfl))
  obtain ⟨l, hl, g⟩ := Gv.map (show Gv G.K F H ((intsOf xs).map fun l => .v (.int l.sum)) Q from g)
  have e := ints_rps hl h3
  subst e
  exact cr_sum hc pins s σ H _ us Q I r ⟨a, l, rfl, SqL.of h2, g.same f n (.int _)⟩
theorem cr_all' (hK : X.K = G.K) (hc : X.calm = true) : CallR X (.builtin "all") (rBi G.K .all) := by
  intro pins s σ H vs us Q I r h
  obtain ⟨F, a, ws, xs, f, n, rfl, h2, h3, g⟩ := h.list (fun _ _ => rfl) (no_list (.inr (.inr (.inr (.inl rfl)))))
  obtain ⟨l, hl, g⟩ := Gv.map (show Gv G.K F H ((boolsOf xs).map fun l => .v (.bool (l.all id))) Q from g)
  have e := bools_rps hl h3
  subst e
  exact cr_all hc pins s σ H _ us Q I r ⟨a, l, rfl, SqL.of h2, g.same f n (.bl _)⟩
theorem cr_any' (hK : X.K = G.K) (hc : X.calm = true) : CallR X (.builtin "any") (rBi G.K .any) := by
  intro pins s σ H vs us Q I r h
  obtain ⟨F, a, ws, xs, f, n, rfl, h2, h3, g⟩ := h.list (fun _ _ => rfl) (no_list (.inr (.inr (.inr (.inr rfl)))))
  obtain ⟨l, hl, g⟩ := Gv.map (show Gv G.K F H ((boolsOf xs).map fun l => .v (.bool (l.any id))) Q from g)
  have e := bools_rps hl h3
  subst e
  exact cr_any hc pins s σ H _ us Q I r ⟨a, l, rfl, SqL.of h2, g.same f n (.bl _)⟩
theorem Gv.bind {α : Type} {o : Option α} {k : α → Option Rs} (g : Gv K F H (o.bind k) Q) : ∃ x, o = some x ∧ Gv K F H (k x) Q := by
  cases o with
  | none => exact g.elim
  | some x => exact ⟨x, rfl, g⟩
theorem cr_min' (hK : X.K = G.K) (hc : X.calm = true) : CallR X (.builtin "min") (rBi G.K .min) := by
  intro pins s σ H vs us Q I r h
  obtain ⟨F, a, ws, xs, f, n, rfl, h2, h3, g⟩ := h.list (fun _ _ => rfl) (no_list (.inr (.inl rfl)))
  obtain ⟨l, hl, g⟩ := Gv.bind (show Gv G.K F H ((intsOf xs).bind fun l => match l with | i :: r => some (.v (.int (r.foldl min i))) | [] => none) Q from g)
  have e := ints_rps hl h3
  subst e
  cases l with
  | nil => exact g.elim
  | cons i l =>
    refine cr_min hc pins s σ H _ us Q I r ⟨a, i :: l, rfl, SqL.of h2, by simp, fun m hm hle => ?_⟩
    obtain ⟨q1, q2, q3⟩ := foldl_min l i
    have e : m = l.foldl min i := by
      have a1 := hle (l.foldl min i) (by
        rcases q1 with q1 | q1
        · rw [q1]; exact List.mem_cons_self
        · exact List.mem_cons_of_mem _ q1)
      rcases List.mem_cons.mp hm with rfl | hm
      · omega
      · have := q3 m hm
        omega
    rw [e]
    exact Gv.same (z := .int (l.foldl min i)) g f n (.int _)
theorem cr_max' (hK : X.K = G.K) (hc : X.calm = true) : CallR X (.builtin "max") (rBi G.K .max) := by
  intro pins s σ H vs us Q I r h
  obtain ⟨F, a, ws, xs, f, n, rfl, h2, h3, g⟩ := h.list (fun _ _ => rfl) (no_list (.inr (.inr (.inl rfl))))
  obtain ⟨l, hl, g⟩ := Gv.bind (show Gv G.K F H ((intsOf xs).bind fun l => match l with | i :: r => some (.v (.int (r.foldl max i))) | [] => none) Q from g)
  have e := ints_rps hl h3
  subst e
  cases l with
  | nil => exact g.elim
  | cons i l =>
    refine cr_max hc pins s σ H _ us Q I r ⟨a, i :: l, rfl, SqL.of h2, by simp, fun m hm hle => ?_⟩
    obtain ⟨q1, q2, q3⟩ := foldl_max l i
    have e : m = l.foldl max i := by
      have a1 := hle (l.foldl max i) (by
        rcases q1 with q1 | q1
        · rw [q1]; exact List.mem_cons_self
        · exact List.mem_cons_of_mem _ q1)
      rcases List.mem_cons.mp hm with rfl | hm
      · omega
      · have := q3 m hm
        omega
    rw [e]
    exact Gv.same (z := .int (l.foldl max i)) g f n (.int _)
theorem cr_min2' (hK : X.K = G.K) (hc : X.calm = true) : CallR X (.builtin "min") (rBi G.K .min2) := by
  intro pins s σ H vs us Q I r h
  obtain ⟨F, v, u, d, e, f, n, rfl, o1, o2, g⟩ := h.two fun _ => rfl
  cases d with
  | int i =>
    cases e with
    | int j =>
      cases o1.int
      cases o2.int
      exact call_min2 hc pins s σ H _ us Q I r ⟨i, j, rfl, Gv.same (z := .int (if j < i then j else i)) g f n (.int _)⟩
    | _ => exact g.elim
  | _ => exact g.elim
theorem cr_max2' (hK : X.K = G.K) (hc : X.calm = true) : CallR X (.builtin "max") (rBi G.K .max2) := by
  intro pins s σ H vs us Q I r h
  obtain ⟨F, v, u, d, e, f, n, rfl, o1, o2, g⟩ := h.two fun _ => rfl
  cases d with
  | int i =>
    cases e with
    | int j =>
      cases o1.int
      cases o2.int
      exact call_max2 hc pins s σ H _ us Q I r ⟨i, j, rfl, Gv.same (z := .int (if j > i then j else i)) g f n (.int _)⟩
    | _ => exact g.elim
  | _ => exact g.elim
theorem cr_list' (hK : X.K = G.K) : CallR X (.type "list") (rBi G.K .list) := by
  intro pins s σ H vs us Q I r h
  obtain ⟨F, v, d, f, n, rfl, o, g⟩ := h.one fun _ _ => rfl
  rw [← hK] at o g
  obtain ⟨xs, hi, g⟩ := Gv.map (show Gv X.K F H ((itemsOf d).map .l) Q from g)
  obtain ⟨a, vs, rfl, rr, q⟩ := items_sq o f hi
  exact call_list_of pins s σ H _ us Q I r ⟨a, vs, rfl, q, fun p hp => g.lst f n hp rr⟩
theorem cr_tuple' (hK : X.K = G.K) : CallR X (.type "tuple") (rBi G.K .tuple) := by
  intro pins s σ H vs us Q I r h
  obtain ⟨F, v, d, f, n, rfl, o, g⟩ := h.one fun _ _ => rfl
  rw [← hK] at o g
  obtain ⟨xs, hi, g⟩ := Gv.map (show Gv X.K F H ((itemsOf d).map fun xs => .v (.tuple xs)) Q from g)
  cases d with
  | list ys =>
    cases hi
    obtain ⟨a, vs, rfl, q, rr⟩ := o.lst f
    exact call_tuple_of pins s σ H _ us Q I r ⟨a, vs, rfl, .inl ⟨SqL.of q, fun p hp => g.tup f n hp rr⟩⟩
  | tuple ys =>
    cases hi
    obtain ⟨a, vs, rfl, q, rr⟩ := o.tup
    exact call_tuple_of pins s σ H _ us Q I r ⟨a, vs, rfl, .inr ⟨Same.seqT f q, g.same f n (.tup q rr)⟩⟩
  | _ => cases hi
theorem cr_int' (hK : X.K = G.K) : CallR X (.type "int") (rBi G.K .int) := by
  intro pins s σ H vs us Q I r h
  obtain ⟨F, v, d, f, n, rfl, o, g⟩ := h.one fun _ _ => rfl
  cases d with
  | int i =>
    cases o.int
    exact call_int1 pins s σ H _ us Q I r (.inl ⟨i, rfl, Gv.same (z := .int i) g f n (.int _)⟩)
  | _ => exact g.elim
theorem cr_repr' (hK : X.K = G.K) : CallR X (.builtin "repr") (rBi G.K .repr) := by
  intro pins s σ H vs us Q I r h
  obtain ⟨F, v, d, f, n, rfl, o, g⟩ := h.one fun _ _ => rfl
  cases d with
  | bool b =>
    cases o.bool
    obtain ⟨u, rfl, rx⟩ := vals1 r
    cases rx
    refine PySem.P.repr_of_bool ⟨.str (reprBool b), H, I.tok _, ⟨s.toks, ?_⟩, Gv.same (z := .str (reprBool b)) g f n (.str _)⟩
    cases b <;> rfl
  | _ => exact g.elim
/-! #### isinstance -/
def tyName : Ty → String
  | .int => "int" | .bool => "bool" | .str => "str" | .tuple => "tuple" | .list => "list"
def dName : D → String
  | .none => "NoneType" | .bool _ => "bool" | .int _ => "int" | .str _ => "str" | .tuple _ => "tuple" | .list _ => "list" | .dict _ => "dict"
theorem Opn.tyx {v : V} {d : D} (o : Opn K F H v d) (f : Sub F H) (hd : ∀ p l, d ≠ .dict (p :: l)) : TyX K H v (.type (dName d)) := by
  cases d with
  | none =>
    cases o.non
    exact .base .non
  | bool i =>
    cases o.bool
    exact .base (.bl i)
  | int i =>
    cases o.int
    exact .base (.int i)
  | str i =>
    cases o.str
    exact .base (.str i)
  | list xs =>
    obtain ⟨a, vs, rfl, h1, h2⟩ := o.lst f
    exact .base (.lst h1)
  | tuple xs =>
    obtain ⟨a, vs, rfl, h1, h2⟩ := o.tup
    rcases Same.seqT f h1 with (q | ⟨ob, q⟩) | ⟨ob, its, n, q, c, _⟩
    · exact .base (.tup q)
    · exact .fTuple q
    · exact .kTuple q c
  | dict kvs =>
    rcases o with o | ⟨_, _, _, _, z, _⟩
    · cases o with
      | dic h => exact .base (.dK (f _ _ h))
      | scr _ _ => exact absurd rfl (hd _ _)
    · cases z
theorem kit_d {ty : Ty} {d : D} {b : Bool} (h : isiD ty d = some b) : kitB (dName d) (tyName ty) = some b := by
  cases d with
  | dict kvs =>
    cases kvs with
    | nil =>
      cases h
      cases ty <;> decide +kernel
    | cons _ _ => cases h
  | _ =>
    have e := Option.some.inj h
    subst e
    cases ty <;> (dsimp only [dName, tyName]; decide +kernel)
def rIsD (K : Fg) (ty : Ty) : List V → Hp → VK → Prop := fun vs H Q => ∃ F v d, Sub F H ∧ NoT F ∧ vs = [v, .ty (tyName ty)] ∧ Opn K F H v d ∧ Gv K F H ((isiD ty d).map fun b => .v (.bool b)) Q
theorem cr_isi' {ty : Ty} (hK : X.K = G.K) : CallR X (.builtin "isinstance") (rIsD G.K ty) := by
  intro pins s σ H vs us Q I r h
  obtain ⟨F, v, d, f, n, rfl, o, g⟩ := h
  rw [← hK] at o g
  obtain ⟨b, hb, g⟩ := Gv.map g
  refine call_isi pins s σ H _ us Q I r ⟨v, .ty (tyName ty), .type (dName d), .type (tyName ty), b, rfl, .ty _, o.tyx f (fun p l e => ?_), kit_ty (kit_d hb), g.same f n (.bl _)⟩
  subst e
  cases hb
theorem snd_isi {ty : Ty} {p p2 : Pos} (hK : X.K = G.K) (ha : PE X a (tE G W ea)) (hg : Gl X "isinstance") (hm : X.mg "isinstance" = none) (hg2 : Gl X (tyName ty)) (hm2 : X.mg (tyName ty) = none)
    (hs : starEach [a, .Name (tyName ty) p2] X.env = (false, eval a X.env) :: starEach [.Name (tyName ty) p2] X.env) :
    PE X (.Call (.Name "isinstance" p) [a, .Name (tyName ty) p2] [] pos) (tE G W (isiF ea ty)) := by
  have ht : PE X (.Name (tyName ty) p2) (tC (.ty (tyName ty))) := by
    cases ty <;> exact pe_bltn hg2 hm2 (by decide +kernel) rfl (by decide) (by decide)
  refine (pe_callB (cr_isi' (ty := ty) hK) hg hm (by decide +kernel) (pa_cons ha (pa_cons ht pa_nil rfl) hs) (by decide) (by decide) hs rfl).weak fun σ H Q q => ?_
  refine tX.mono (tX.bind (ok := RsOk G) q) fun v H1 ⟨R, F, ρ, r, m, o, h⟩ => ?_
  cases hz : r.get ρ with
  | none =>
    simp only [hz] at h
    exact h.elim
  | some d =>
    simp only [hz] at h
    exact ⟨F, v, d, m.f, m.nf, rfl, o.opn m hz, gv_of m h⟩
end
end Ev
end
section
set_option Elab.async false
set_option linter.all false
set_option maxRecDepth 100000
set_option autoImplicit false
namespace Ev
open PySem L2 PySem.Spec PyProof.Rows
section
variable {G : Gx} {W : WX} {R F H F' H' : Hp} {ρ ρ' : Fr} {σ : L2.St} {X : Cx} {K : Fg} {Q : VK} {O : Orc}
variable {e a b : Expr} {es : List Expr} {pos : Pos} {ea eb : Ev1} {ees : Fr → Out (List D)} {eer : Fr → Out (List Rs)}
/-! #### a def's promise -/
def Gx.base (G : Gx) : Gx := { G with e := none, u := none, io := none, cd := [] }
theorem SlOk.ofBase {t : Sl} {w : Option (Option V)} (h : SlOk G.base R F H t w) : SlOk G R F H t w := by
  cases t with
  | ex x =>
    obtain ⟨a, c, d, h1, _⟩ := h
    cases h1
  | _ => exact h
/-- a returned value -/
def RtOk (K : Fg) (R F H : Hp) : Rs → V → Prop
  | .v d, v => Rp K F v d
  | .l xs, v => ∃ a us, v = .ref a ∧ R a = none ∧ F a = none ∧ H a = some (.lst us) ∧ Rps K F us xs
  | .pl _, _ => False
/-- the first argument's own list behind the call -/
def IoOk (G : Gx) (R F H : Hp) (as : List Sl) (vs : List V) (t : Sl) : Prop := ∀ xs a, as[0]? = some (.ol xs) → vs[0]? = some (.ref a) → SlOk G R F H t (some (some (.ref a)))
structure Bk (G : Gx) (R F F' H' : Hp) : Prop where
  e : Ef R F F'
  r : Sub R H'
  f : Sub F' H'
  nf : NoT F'
  tab : NdefX.TabsN G.T H'
def AfC (G : Gx) (R F : Hp) (as : List Sl) (vs : List V) (o : OutC) (Q : VK) (E : XK) : Prop :=
  match o with
  | .ok r io _ => ∀ F' H' v, Bk G R F F' H' → RtOk G.K R F' H' r v → IoOk G R F' H' as vs io → (∀ xs a, as[0]? = some (.ol xs) → vs[0]? = some (.ref a) → (∃ zs, io = .ol zs) → (∃ ys, r = .l ys) → v ≠ .ref a) → Q v H'
  | .ex x io _ => ∀ F' H' cls d, Bk G R F F' H' → XOk G.C x cls d H' → IoOk G R F' H' as vs io → E cls d H'
  | .stk => False
def spF (G : Gx) (np : Nat) (call : List Sl → OutC) : Sp := fun vs H Q E => ∃ (R F : Hp) (as : List Sl), Sub R H ∧ Sub F H ∧ NoT R ∧ NoT F ∧ NdefX.TabsN G.T H ∧ vs.length = np ∧ as.length = np ∧
  (∀ (i : Nat) (s : Sl), (as : List Sl)[i]? = some s → SlOk G R F H s ((vs[i]? : Option V).map some)) ∧ AfC G R F as vs (call as) Q E
theorem slv_at {ds : List D} {vs : List V} {R' : Hp} (r : Rps G.K F vs ds) : ∀ (i : Nat) (s : Sl), (ds.map Sl.v)[i]? = some s → SlOk G R' F H s ((vs[i]? : Option V).map some) := fun i s h => by
  rw [List.getElem?_map] at h
  cases q : ds[i]? with
  | none =>
    rw [q] at h
    cases h
  | some d =>
    rw [q] at h
    cases h
    obtain ⟨v, h1, h2⟩ := r.get q
    exact ⟨v, by rw [h1]; rfl, h2⟩
theorem own_none (m : Mt G R F ρ σ H) {i : Option Nat} {a : Addr} (h : OwnX G ρ σ i a) : Rw R (OwnX G ρ σ i) H a ≠ none := by
  rw [Rw.pos h]
  obtain ⟨_, _, vs, z⟩ := h.is m
  rw [z]
  simp
theorem Rw.low {a : Addr} (m : Mt G R F ρ σ H) {i : Option Nat} (h : Rw R (OwnX G ρ σ i) H a = none) : R a = none ∧ ¬ OwnX G ρ σ i a := by
  have n : ¬ OwnX G ρ σ i a := fun z => own_none m z h
  rw [Rw.neg n] at h
  exact ⟨h, n⟩
theorem fresh_of {a : Addr} (h : ¬ OwnX G ρ σ none a) : Fresh G ρ σ a :=
  ⟨fun j o => h (.inl ⟨j, by simp, o⟩), fun sc b p σc e1 e2 j o => h (.inr ⟨sc, b, p, σc, e1, e2, j, o⟩)⟩
theorem snd_call {k f : Nat} {fa : Addr} {fd : FuncData} {ps : List Str} {x : Str} {p : Pos} (FO : FnOk X.prog X.w X.K X.mg X.base (L2.CX X.prog X.w) k fa fd ps (spF G.base ps.length fun as => O.call f as none)) (hr : Room k X.A) (tk : Takes X W) (he : G.e = none)
    (hg : Gl X x) (hm : X.mg x = some (.ref fa)) (hk : PySem.W.keepIn X.K (.ref fa) = true) (hb : Binds X.K fd ps []) (ha : PA X (e :: es) (tAs G W ees)) (hstk : ∀ as, as.length ≠ ps.length → O.call f as none = .stk) (hdb : (x == ("__debug__" : Str)) = false)
    (hs : starEach (e :: es) X.env = (false, eval e X.env) :: starEach es X.env) (hpl : (backTo pos (starEach es X.env)).any (·.1) = false) : PE X (.Call (.Name x p) (e :: es) [] pos) (tE G W (callF O f ees)) :=
  (pe_callSD FO hr hg hm hk hb .nil (fun σ => passAt tk σ) ha hdb hs hpl).weak fun σ H Q q => by
  refine tX.mono (tX.bind (ok := fun _ _ F _ _ ds vs => Rps G.K F vs ds) q) fun vs H1 ⟨R, F, ρ, ds, m, o, h⟩ => ?_
  show spF G.base ps.length _ (vs ++ []) H1 Q (WE W σ)
  rw [List.append_nil]
  by_cases hl : ds.length = ps.length
  · obtain ⟨sR, nR⟩ := m.rw none
    refine ⟨Rw R (OwnX G ρ σ none) H1, F, ds.map .v, sR, m.f, nR, m.nf, m.tab, o.len.trans hl, by simp [hl], slv_at o, ?_⟩
    show AfC _ _ _ _ _ (O.call f (ds.map Sl.v) none) _ _
    cases e : O.call f (ds.map .v) none with
    | stk =>
      simp only [e] at h
      exact h
    | ok r io up =>
      simp only [e] at h
      intro F' H' v bk ok _ _
      have m' := m.called he bk.r bk.f bk.e bk.nf bk.tab
      refine h F' H' v (bk.e.ofRw fun a z => (z.is m).2.1) m' ?_
      cases r with
      | v d => exact ok
      | pl i => exact ok.elim
      | l xs =>
        obtain ⟨a, us, rfl, h1, h2, h3, h4⟩ := ok
        obtain ⟨h5, h6⟩ := Rw.low m h1
        exact ⟨a, us, rfl, h5, h2, h3, h4, fresh_of h6⟩
    | ex x io up =>
      simp only [e] at h
      intro F' H' cls d bk hx _
      exact h F' H' cls d (bk.e.ofRw fun a z => (z.is m).2.1) (m.called he bk.r bk.f bk.e bk.nf bk.tab) hx
  · rw [hstk _ (by simpa using hl)] at h
    exact h.elim
/-- f(x, e, ..), x's list changed by f -/
theorem snd_callM {k f i : Nat} {fa : Addr} {fd : FuncData} {ps : List Str} {x y : Str} {p p2 : Pos} (FO : FnOk X.prog X.w X.K X.mg X.base (L2.CX X.prog X.w) k fa fd ps (spF G.base ps.length fun as => O.call f as none)) (hr : Room k X.A) (tk : Takes X W) (he : G.e = none)
    (hg : Gl X x) (hm : X.mg x = some (.ref fa)) (hk : PySem.W.keepIn X.K (.ref fa) = true) (hb : Binds X.K fd ps []) (hy : PE X (.Name y p2) (tVar i)) (ha : PA X es (tAs G W ees)) (hstk : ∀ as, as.length ≠ ps.length → O.call f as none = .stk) (hdb : (x == ("__debug__" : Str)) = false)
    (hpl : (backTo pos (starEach es X.env)).any (·.1) = false) : PE X (.Call (.Name x p) (.Name y p2 :: es) [] pos) (tE G W (callMF O f i ees)) :=
  (pe_callSD FO hr hg hm hk hb .nil (fun σ => passAt tk σ) (pa_cons hy ha rfl) hdb rfl hpl).weak fun σ H Q q => by
  obtain ⟨R, F, ρ, m, h⟩ := q
  unfold callMF at h
  cases hi : ρ.get i with
  | no =>
    simp only [hi, isOl] at h
    exact h.elim
  | v d =>
    simp only [hi, isOl] at h
    exact h.elim
  | ex x =>
    simp only [hi, isOl] at h
    exact h.elim
  | ol xs0 =>
    simp only [hi, isOl] at h
    obtain ⟨a, vs0, hσ, _⟩ := m.me.at_ i _ (get_ol hi)
    refine ⟨.ref a, hσ, ?_⟩
    refine tX.mono (tX.bind (ok := fun _ _ F _ _ ds vs => Rps G.K F vs ds) (ok' := RsOk G) ⟨R, F, ρ, m, h⟩) fun vs H1 ⟨R, F, ρ, ds, m, o, h⟩ => ?_
    show spF G.base ps.length _ ((.ref a :: vs) ++ []) H1 Q (WE W σ)
    rw [List.append_nil]
    cases hi1 : ρ.get i with
    | no =>
      simp only [hi1] at h
      exact h.elim
    | v d =>
      simp only [hi1] at h
      exact h.elim
    | ex x =>
      simp only [hi1] at h
      exact h.elim
    | ol xs =>
      simp only [hi1] at h
      obtain ⟨a', us, hσ', hF, hR, hH, hx⟩ := m.me.at_ i _ (get_ol hi1)
      rw [hσ] at hσ'
      cases hσ'
      by_cases hl : ds.length + 1 = ps.length
      · obtain ⟨sR, nR⟩ := m.rw (some i)
        have own : ownAt ρ.sl σ i a := ⟨xs, get_ol hi1, hσ⟩
        have nown : ¬ OwnX G ρ σ (some i) a := fun z => by
          rcases z with ⟨j, hj, oj⟩ | ⟨sc, b, p, σc, e1, e2, j, oj⟩
          · exact hj (congrArg some (m.me.dj j i a oj own))
          · have q := m.up
            rw [e1, e2] at q
            exact q.2 i j a own oj
        have hRw : Rw R (OwnX G ρ σ (some i)) H1 a = none := (Rw.neg nown).trans hR
        refine ⟨Rw R (OwnX G ρ σ (some i)) H1, F, .ol xs :: ds.map .v, sR, m.f, nR, m.nf, m.tab, by simp [o.len, hl], by simp [hl], fun j s hj => ?_, ?_⟩
        · cases j with
          | zero =>
            cases hj
            exact ⟨a, us, rfl, hF, hRw, hH, hx⟩
          | succ j => exact slv_at (R' := Rw R (OwnX G ρ σ (some i)) H1) (G := G.base) o j s (by simpa using hj)
        · show AfC _ _ _ _ _ (O.call f (.ol xs :: ds.map Sl.v) none) _ _
          cases e : O.call f (.ol xs :: ds.map .v) none with
          | stk =>
            simp only [e] at h
            exact h
          | ok r io up =>
            simp only [e] at h
            intro F' H' v bk ok hio hne
            have m' := m.calledM he hi1 hσ bk.r bk.f bk.e bk.nf bk.tab (hio xs a rfl rfl).ofBase (by cases ρ.io <;> simp)
            refine h F' H' v (bk.e.ofRw fun a z => (z.is m).2.1) m' ?_
            cases r with
            | v d => exact ok
            | pl i => exact ok.elim
            | l zs =>
              obtain ⟨c, ws, rfl, h1, h2, h3, h4⟩ := ok
              obtain ⟨h5, h6⟩ := Rw.low m h1
              refine ⟨c, ws, rfl, h5, h2, h3, h4, fun j oj => ?_, fun sc b p σc e1 e2 j oj => h6 (.inr ⟨sc, b, p, σc, e1, e2, j, oj⟩)⟩
              rcases ownAt_set1 oj with ⟨e1, eo, e2⟩ | ⟨nj, oj⟩
              · rw [hσ] at e2
                cases e2
                exact hne xs a rfl rfl eo ⟨zs, rfl⟩ rfl
              · exact h6 (.inl ⟨j, by simpa using nj, oj⟩)
          | ex x io up =>
            simp only [e] at h
            intro F' H' cls d bk hx2 hio
            exact h F' H' cls d (bk.e.ofRw fun a z => (z.is m).2.1) (m.calledM he hi1 hσ bk.r bk.f bk.e bk.nf bk.tab (hio xs a rfl rfl).ofBase (by cases ρ.io <;> simp)) hx2
      · rw [hstk _ (by simpa using hl)] at h
        exact h.elim
end
end Ev
end
section
set_option Elab.async false
set_option linter.all false
set_option maxRecDepth 100000
set_option autoImplicit false
namespace Ev
open PySem L2 PySem.Spec PyProof.Rows
section
variable {G : Gx} {W : WX} {R F H F' H' : Hp} {ρ ρ' : Fr} {σ : L2.St} {X : Cx} {K : Fg} {Q : VK} {O : Orc}
variable {e a b : Expr} {es : List Expr} {pos : Pos} {ea eb : Ev1} {ees : Fr → Out (List D)} {et : Fr → Out Bool}
/-! #### targets -/
def tgSlots : Tg → List Nat
  | .nm i => [i]
  | .nl => []
  | .cn g r => tgSlots g ++ tgSlots r
def GEnd (G : Gx) (R F : Hp) (H : Hp) (sl : List Nat) (σ : L2.St) (o : Option Fr) (Q : L2.St → Hp → Prop) : Prop :=
  match o with
  | some ρ' => ∀ σ', Mt G R F ρ' σ' H → σ'.length = σ.length → (∀ i, i ∉ sl → σ'[i]? = σ[i]?) → Q σ' H
  | none => False
def tgG (G : Gx) (g : Tg) : TG := fun v σ H Q => ∃ R F ρ d, Mt G R F ρ σ H ∧ Rp G.K F v d ∧ GEnd G R F H (tgSlots g) σ (asgT g d ρ) Q
def tgGs (G : Gx) (g : Tg) : TGs := fun vs σ H Q => ∃ R F ρ ds, Mt G R F ρ σ H ∧ Rps G.K F vs ds ∧ GEnd G R F H (tgSlots g) σ (asgT g (.tuple ds) ρ) Q
theorem g_name {i : Nat} {x : Str} (h : PG X (.Name x pos) (gName i)) : PG X (.Name x pos) (tgG G (.nm i)) := ⟨fun pins s σ H v u Q I r q => h.run pins s σ H v u Q I r (by
  obtain ⟨R, F, ρ, d, m, rp, q⟩ := q
  unfold asgT at q
  cases hp : ρ.put i (.v d) with
  | none =>
    rw [hp] at q
    exact q.elim
  | some ρ' =>
    rw [hp] at q
    obtain ⟨h1, rfl⟩ := put_of hp
    exact q _ (m.setv h1 rp) (by simp) (fun j hj => List.getElem?_set_ne (by
      intro z
      exact hj (by simp [tgSlots, z]))))⟩
theorem gs_nil : PGs X [] (tgGs G .nl) := ⟨fun pins s σ H vs us Q I r q => pgs_nil.run pins s σ H vs us Q I r (by
  obtain ⟨R, F, ρ, ds, m, rp, q⟩ := q
  cases rp with
  | nil => exact ⟨rfl, q σ m rfl fun _ _ => rfl⟩
  | cons _ _ => exact q.elim)⟩
theorem gs_cons {g r : Tg} (h1 : PG X e (tgG G g)) (h2 : PGs X es (tgGs G r)) (hs : (assignEach (e :: es) X.env).map (·.2) = assign e X.env :: (assignEach es X.env).map (·.2)) : PGs X (e :: es) (tgGs G (.cn g r)) :=
  ⟨fun pins s σ H vs us Q I rr q => (pgs_cons h1 h2 hs).run pins s σ H vs us Q I rr (by
  obtain ⟨R, F, ρ, ds, m, rp, q⟩ := q
  cases rp with
  | nil => exact q.elim
  | cons hv ht =>
    rename_i v vs d ds
    have q : GEnd G R F H (tgSlots g ++ tgSlots r) σ (match asgT g d ρ with | some ρ1 => asgT r (.tuple ds) ρ1 | none => none) Q := q
    refine ⟨v, vs, rfl, R, F, ρ, d, m, hv, ?_⟩
    cases hp : asgT g d ρ with
    | none =>
      rw [hp] at q
      exact q.elim
    | some ρ1 =>
      rw [hp] at q
      intro σ1 m1 l1 o1
      refine ⟨R, F, ρ1, ds, m1, ht, ?_⟩
      have q : GEnd G R F H (tgSlots g ++ tgSlots r) σ (asgT r (.tuple ds) ρ1) Q := q
      cases hq : asgT r (.tuple ds) ρ1 with
      | none =>
        rw [hq] at q
        exact q.elim
      | some ρ2 =>
        rw [hq] at q
        intro σ2 m2 l2 o2
        exact q σ2 m2 (l2.trans l1) fun i hi => (o2 i fun z => hi (List.mem_append_right _ z)).trans (o1 i fun z => hi (List.mem_append_left _ z)))⟩
theorem asgT_tup : ∀ {g : Tg} {d : D} {ρ ρ' : Fr} {ts : List Tg}, tuplesTo g = some ts → asgT g d ρ = some ρ' → ∃ ds, d = .tuple ds ∧ ds.length = ts.length
  | .nl, d, ρ, ρ', ts, h, e => by
    cases h
    cases d with
    | tuple ds => cases ds with
      | nil => exact ⟨[], rfl, rfl⟩
      | cons _ _ => cases e
    | _ => cases e
  | .nm i, d, ρ, ρ', ts, h, e => by cases h
  | .cn g r, d, ρ, ρ', ts, h, e => by
    cases d with
    | tuple ds => cases ds with
      | nil => cases e
      | cons x xs =>
        unfold tuplesTo at h
        cases ht : tuplesTo r with
        | none => rw [ht] at h; cases h
        | some us =>
          rw [ht] at h
          cases h
          unfold asgT at e
          cases hg : asgT g x ρ with
          | none => rw [hg] at e; cases e
          | some ρ1 =>
            rw [hg] at e
            obtain ⟨ds, e1, e2⟩ := asgT_tup ht e
            cases e1
            exact ⟨_, rfl, by simp [e2]⟩
    | _ => cases e
theorem g_tup {g : Tg} {k : Nat} {ts : List Tg} (hK : X.K = G.K) (hc : X.calm = true) (ht : tuplesTo g = some ts) (h : PGs X es (tgGs G g)) (hn : (assignEach es X.env).length = ts.length) (hst : (assignEach es X.env).findIdx? (·.1) = none) :
    PG X (.Tuple es k pos) (tgG G g) := ⟨fun pins s σ H v u Q I r q => (pg_tup hc h hn hst).run pins s σ H v u Q I r (by
  obtain ⟨R, F, ρ, d, m, rp, q⟩ := q
  cases hp : asgT g d ρ with
  | none =>
    rw [hp] at q
    exact q.elim
  | some ρ' =>
    obtain ⟨ds, rfl, hl⟩ := asgT_tup ht hp
    cases rp with
    | tup h1 h2 =>
      refine ⟨_, _, rfl, by rw [hK]; exact Same.seqT m.f h1, h2.len.trans hl, R, F, ρ, ds, m, h2, ?_⟩
      exact q)⟩
/-- a result stored -/
def REnd (G : Gx) (R F : Hp) (H : Hp) (o : Option Fr) (Q : L2.St → Hp → Prop) : Prop :=
  match o with
  | some ρ' => ∀ F' σ', Ef R F F' → Mt G R F' ρ' σ' H → Q σ' H
  | none => False
def tgR (G : Gx) (g : Tg) (own : Bool) : TG := fun v σ H Q => ∃ R F ρ r, Mt G R F ρ σ H ∧ RsOk G σ R F H ρ r v ∧ REnd G R F H (asgR g own r ρ) Q
theorem tgR_fz {g : Tg} {r : Rs} {v : V} {P : L2.St → Hp → Prop} (m : Mt G R F ρ σ H) (ok : RsOk G σ R F H ρ r v) (q : REnd G R F H (match r.fz with | some d => asgT g d ρ | none => none) P) : tgG G g v σ H P := by
  cases hz : r.fz with
  | none =>
    rw [hz] at q
    exact q.elim
  | some d =>
    rw [hz] at q
    obtain ⟨F1, ef, m1, rp⟩ := fz1 m ok hz
    refine ⟨R, F1, ρ, d, m1, rp, ?_⟩
    have q : REnd G R F H (asgT g d ρ) P := q
    cases ha : asgT g d ρ with
    | none =>
      rw [ha] at q
      exact q.elim
    | some ρ' =>
      rw [ha] at q
      exact fun σ' m' _ _ => q F1 σ' ef m'
theorem g_res {g : Tg} {own : Bool} (h : PG X e (tgG G g)) (hn : own = true → ∃ i x p, g = .nm i ∧ e = .Name x p ∧ PG X (.Name x p) (gName i)) : PG X e (tgR G g own) := ⟨fun pins s σ H v u Q I r q => by
  obtain ⟨R, F, ρ, r', m, ok, q⟩ := q
  have frz : asgR g own r' ρ = (match r'.fz with | some d => asgT g d ρ | none => none) → wpAny (model X.prog X.w) X.A (assign e X.env u) (fun _ s' => ∃ σ' H', Inv X pins σ' H' s' ∧ Q σ' H') X.xe s := fun z => by
    rw [z] at q
    exact h.run pins s σ H v u Q I r (tgR_fz m ok q)
  cases own with
  | false => exact frz (by unfold asgR; rfl)
  | true =>
    obtain ⟨i, x, p, rfl, rfl, hg⟩ := hn rfl
    cases r' with
    | v d => exact frz rfl
    | pl j => exact frz rfl
    | l xs =>
      have q : REnd G R F H (ρ.put i (.ol xs)) Q := q
      cases hp : ρ.put i (.ol xs) with
      | none =>
        rw [hp] at q
        exact q.elim
      | some ρ' =>
        rw [hp] at q
        obtain ⟨h1, rfl⟩ := put_of hp
        obtain ⟨c, vs, rfl, hR, hF, hH, hx, fr⟩ := ok
        exact hg.run pins s σ H _ u Q I r (q F _ .refl (m.setol h1 hF hR hH hx fr))⟩

/-! #### statements -/
def AfS (G : Gx) (W : WX) (R F : Hp) (o : OutS) (D : Ends) : Prop :=
  match o with
  | .nx ρ' => ∀ F' H' σ', Ef R F F' → Mt G R F' ρ' σ' H' → D.nx σ' H'
  | .bk ρ' => ∀ F' H' σ', Ef R F F' → Mt G R F' ρ' σ' H' → D.bk σ' H'
  | .rt r ρ' => ∀ F' H' σ' v, Ef R F F' → Mt G R F' ρ' σ' H' → RsOk G σ' R F' H' ρ' r v → D.rt v H'
  | .ex x ρ' => ∀ F' H' σ' cls d, Ef R F F' → Mt G R F' ρ' σ' H' → XOk G.C x cls d H' → W cls d σ' H'
  | .stk => False
def tS (G : Gx) (W : WX) (ev : EvS) : TS := fun D σ H => ∃ R F ρ, Mt G R F ρ σ H ∧ AfS G W R F (ev ρ) D
theorem AfS.ef {o : OutS} {D : Ends} (h : AfS G W R F o D) (e : Ef R F F') : AfS G W R F' o D := by
  cases o with
  | nx ρ' => exact fun F'' H' s e' m => h F'' H' s (e.trans e') m
  | bk ρ' => exact fun F'' H' s e' m => h F'' H' s (e.trans e') m
  | rt r ρ' => exact fun F'' H' s v e' m k => h F'' H' s v (e.trans e') m k
  | ex x ρ' => exact fun F'' H' s c d e' m k => h F'' H' s c d (e.trans e') m k
  | stk => exact h
/-- an expression, then the rest of the statement -/
theorem tX.toS {α β : Type} {ok : L2.St → Hp → Hp → Hp → Fr → α → β → Prop} {ev : Fr → Out α} {k : α → Fr → OutS} {D : Ends} (h : tS G W (fun ρ => (ev ρ).toS k) D σ H) :
    tX G W ok ev σ H (fun b H1 => ∃ R F ρ a, Mt G R F ρ σ H1 ∧ ok σ R F H1 ρ a b ∧ AfS G W R F (k a ρ) D) := by
  obtain ⟨R, F, ρ, m, h⟩ := h
  refine ⟨R, F, ρ, m, ?_⟩
  have h : AfS G W R F ((ev ρ).toS k) D := h
  cases e : ev ρ with
  | stk =>
    rw [e] at h
    exact h
  | ex x ρ' =>
    rw [e] at h
    exact fun F' H' c d e' m' hx => h F' H' σ c d e' m' hx
  | ok a ρ' =>
    rw [e] at h
    exact fun F' H' b ef m' hk => ⟨R, F', ρ', a, m', hk, AfS.ef h ef⟩
/-- the same with an operand held -/
theorem tX.nextS {α β : Type} {ok : L2.St → Hp → Hp → Hp → Fr → α → β → Prop} {r : Rs} {v : V} {ev : Fr → Out α} {k : α → Fr → OutS} {D : Ends} (m : Mt G R F ρ σ H) (okr : RsOk G σ R F H ρ r v)
    (h : AfS G W R F ((ev ρ).toS k) D) (P : β → Hp → Prop)
    (hP : ∀ F' H' ρ' a b, Mt G R F' ρ' σ H' → RsOk G σ R F' H' ρ' r v → ok σ (hl R H' r v) F' H' ρ' a b → AfS G W R F' (k a ρ') D → P b H') : tX G W ok ev σ H P := by
  obtain ⟨m1, back⟩ := hold1 m okr
  refine ⟨_, F, ρ, m1, ?_⟩
  cases e : ev ρ with
  | stk =>
    rw [e] at h
    exact h
  | ex x ρ' =>
    rw [e] at h
    intro F' H' c d ef m' hx
    obtain ⟨e1, m2, _⟩ := back F' ρ' H' ef m'
    exact h F' H' σ c d e1 m2 hx
  | ok a ρ' =>
    rw [e] at h
    intro F' H' b ef m' hk
    obtain ⟨e1, m2, o2, e2⟩ := back F' ρ' H' ef m'
    exact hP F' H' ρ' a b m2 o2 (by rw [e2]; exact hk) (AfS.ef h e1)
theorem AfS.next {D : Ends} (m : Mt G R F ρ σ H) (h : AfS G W R F (.nx ρ) D) : D.nx σ H := h _ _ _ .refl m
variable {st : Stmt} {sts : List Stmt} {s1 s2 : EvS}
theorem s_skip : PSs X [] (tS G W fun ρ => .nx ρ) := pss_nil.weak fun D σ H h => by
  obtain ⟨R, F, ρ, m, h⟩ := h
  exact AfS.next m h
theorem s_next (h : PS X st tNext) : PS X st (tS G W fun ρ => .nx ρ) := h.weak fun D σ H h => by
  obtain ⟨R, F, ρ, m, h⟩ := h
  exact AfS.next m h
theorem s_one (h : PS X st (tS G W s1)) : PSs X [st] (tS G W s1) := pss_one h
theorem s_seq (h1 : PS X st (tS G W s1)) (h2 : PSs X sts (tS G W s2)) : PSs X (st :: sts) (tS G W fun ρ => (s1 ρ).bind s2) := (pss_cons h1 h2).weak fun D σ H h => by
  obtain ⟨R, F, ρ, m, h⟩ := h
  refine ⟨R, F, ρ, m, ?_⟩
  have h : AfS G W R F ((s1 ρ).bind s2) D := h
  cases e : s1 ρ with
  | nx ρ1 =>
    rw [e] at h
    exact fun F' H' σ' ef m' => ⟨R, F', ρ1, m', AfS.ef h ef⟩
  | bk ρ1 =>
    rw [e] at h
    exact h
  | rt r ρ1 =>
    rw [e] at h
    exact h
  | ex x ρ1 =>
    rw [e] at h
    exact h
  | stk =>
    rw [e] at h
    exact h
theorem s_brk : PS X (.Break pos) (tS G W fun ρ => .bk ρ) := ps_break.weak fun D σ H h => by
  obtain ⟨R, F, ρ, m, h⟩ := h
  exact h _ _ _ .refl m
theorem putO_R {o : Option Fr} {D : Ends} (h : AfS G W R F (putO o) D) : REnd G R F H o D.nx := by
  cases o with
  | none => exact h
  | some ρ' => exact fun F' σ' ef m => h F' H σ' ef m
theorem s_asg {tg : Expr} {g : Tg} {own : Bool} (he : PE X e (tE G W ea)) (hg : PG X tg (tgR G g own)) (hs : swapsWithSole [tg] e pos.line X.env = pure false) (hw : swappedStores [tg] e X.env = pure none) (h1 : (assignEach [tg] X.env).map (·.2) = [assign tg X.env]) :
    PS X (.Assign [tg] e pos) (tS G W (asgS g own ea)) := (ps_asg he hg hs hw h1).weak fun D σ H h => by
  refine tX.mono (tX.toS (ok := RsOk G) h) fun v H1 ⟨R, F, ρ, r, m, o, h⟩ => ⟨R, F, ρ, r, m, o, putO_R h⟩
/-- the reading of a store alone -/
theorem tgR_name {i : Nat} {own : Bool} {r : Rs} {v : V} {D : Ends} (m : Mt G R F ρ σ H) (ok : RsOk G σ R F H ρ r v) (h : AfS G W R F (putO (asgR (.nm i) own r ρ)) D) : D.nx (σ.set i (some v)) H := by
  have frz : asgR (.nm i) own r ρ = (match r.fz with | some d => asgT (.nm i) d ρ | none => none) → D.nx (σ.set i (some v)) H := fun z => by
    rw [z] at h
    cases hz : r.fz with
    | none =>
      rw [hz] at h
      exact h.elim
    | some d =>
      rw [hz] at h
      obtain ⟨F1, ef, m1, rp⟩ := fz1 m ok hz
      have h : AfS G W R F (putO (ρ.put i (.v d))) D := h
      cases ha : ρ.put i (.v d) with
      | none =>
        rw [ha] at h
        exact h.elim
      | some ρ' =>
        rw [ha] at h
        obtain ⟨h1, rfl⟩ := put_of ha
        exact h F1 _ _ ef (m1.setv h1 rp)
  cases own with
  | false => exact frz (by unfold asgR; rfl)
  | true =>
    cases r with
    | v d => exact frz rfl
    | pl j => exact frz rfl
    | l xs =>
      have h : AfS G W R F (putO (ρ.put i (.ol xs))) D := h
      cases hp : ρ.put i (.ol xs) with
      | none =>
        rw [hp] at h
        exact h.elim
      | some ρ' =>
        rw [hp] at h
        obtain ⟨h1, rfl⟩ := put_of hp
        obtain ⟨c, vs, rfl, hR, hF, hH, hx, fr⟩ := ok
        exact h F _ _ .refl (m.setol h1 hF hR hH hx fr)
theorem s_set {i : Nat} {own : Bool} (h : PS X st (tAsg (tE G W ea) (gName i))) : PS X st (tS G W (asgS (.nm i) own ea)) := h.weak fun D σ H h => by
  refine tX.mono (tX.toS (ok := RsOk G) h) fun v H1 ⟨R, F, ρ, r, m, o, h⟩ => tgR_name m o h
theorem s_expr (he : PE X e (tE G W ea)) (hs : swapsWith e none pos.line X.env = pure false) : PS X (.Expr e pos) (tS G W (exS ea)) := (ps_expr he hs).weak fun D σ H h =>
  tX.mono (tX.toS (ok := RsOk G) h) fun v H1 ⟨R, F, ρ, r, m, o, h⟩ => AfS.next m h
theorem s_if {c : Expr} {p q : List Stmt} (hc : PT X c (tT G W et)) (ha : PSs X p (tS G W s1)) (hb : PSs X q (tS G W s2)) : PS X (.If c p q pos) (tS G W (iteS et s1 s2)) := (ps_if hc ha hb).weak fun D σ H h => by
  refine tX.mono (tX.toS (ok := fun _ _ _ _ _ (a b : Bool) => a = b) h) fun c H1 ⟨R, F, ρ, c', m, o, h⟩ => ?_
  subst o
  cases c' with
  | true => exact ⟨R, F, ρ, m, h⟩
  | false => exact ⟨R, F, ρ, m, h⟩
theorem s_ret {fz : Bool} (he : PE X e (tE G W ea)) : PS X (.Return (some e) pos) (tS G W (retS fz ea)) := (ps_ret he).weak fun D σ H h => by
  refine tX.mono (tX.toS (ok := RsOk G) h) fun v H1 ⟨R, F, ρ, r, m, o, h⟩ => ?_
  cases fz with
  | true =>
    simp only [if_true] at h
    cases hz : r.fz with
    | none =>
      rw [hz] at h
      exact h.elim
    | some d =>
      rw [hz] at h
      obtain ⟨F1, ef, m1, rp⟩ := fz1 m o hz
      exact h F1 H1 σ v ef m1 rp
  | false =>
    cases r with
    | pl i => exact h.elim
    | v d => exact h F H1 σ v .refl m o
    | l xs => exact h F H1 σ v .refl m o
theorem s_retN : PS X (.Return none pos) (tS G W fun ρ => .rt (.v .none) ρ) := ps_retN.weak fun D σ H h => by
  obtain ⟨R, F, ρ, m, h⟩ := h
  exact h F H σ .non .refl m .non
theorem s_while {c : Expr} {body : List Stmt} {n : Nat} (hp : PassesOwn (model X.prog X.w) X.A X.env X.xe) (hc : PT X c (tT G W et)) (hb : PSs X body (tS G W s1)) : PS X (.While c body [] pos) (tS G W (whileL et s1 n)) := (ps_while hp hc hb).weak fun D σ H h => by
  obtain ⟨R, F0, ρ0, m0, h0⟩ := h
  refine ⟨fun n σ H => ∃ F ρ, Mt G R F ρ σ H ∧ AfS G W R F (whileL et s1 n ρ) D, ⟨n, F0, ρ0, m0, h0⟩, ?_⟩
  rintro n σ H ⟨F, ρ, m, h⟩
  cases n with
  | zero => exact h.elim
  | succ n =>
    have h' : tS G W (fun ρ => (et ρ).toS fun c ρ1 => if c then (match s1 ρ1 with | .nx ρ2 => whileL et s1 n ρ2 | .bk ρ2 => .nx ρ2 | o => o) else .nx ρ1) D σ H := ⟨R, F, ρ, m, h⟩
    -- the same R is kept
    have h2 : AfS G W R F ((et ρ).toS fun c ρ1 => if c then (match s1 ρ1 with | .nx ρ2 => whileL et s1 n ρ2 | .bk ρ2 => .nx ρ2 | o => o) else .nx ρ1) D := h
    refine ⟨R, F, ρ, m, ?_⟩
    cases e : et ρ with
    | stk =>
      rw [e] at h2
      exact h2
    | ex x ρ' =>
      rw [e] at h2
      exact fun F' H' c d e' m' hx => h2 F' H' σ c d e' m' hx
    | ok b ρ1 =>
      rw [e] at h2
      intro F1 H1 b' ef m1 hb
      have hb : b = b' := hb
      subst hb
      have h3 := AfS.ef h2 ef
      cases b with
      | false => exact AfS.next m1 h3
      | true =>
        refine ⟨fun σ' H' => ∃ F ρ, Mt G R F ρ σ' H' ∧ AfS G W R F (whileL et s1 n ρ) D, fun σ' H' w => ⟨n, Nat.lt_succ_self _, w⟩, R, F1, ρ1, m1, ?_⟩
        have h3 : AfS G W R F1 (match s1 ρ1 with | .nx ρ2 => whileL et s1 n ρ2 | .bk ρ2 => .nx ρ2 | o => o) D := h3
        cases e2 : s1 ρ1 with
        | nx ρ2 =>
          rw [e2] at h3
          exact fun F2 H2 σ2 ef2 m2 => ⟨F2, ρ2, m2, AfS.ef h3 ef2⟩
        | bk ρ2 =>
          rw [e2] at h3
          exact h3
        | rt r ρ2 =>
          rw [e2] at h3
          exact h3
        | ex x ρ2 =>
          rw [e2] at h3
          exact h3
        | stk =>
          rw [e2] at h3
          exact h3
end
end Ev
end
section
set_option Elab.async false
set_option linter.all false
set_option maxRecDepth 100000
set_option autoImplicit false
namespace Ev
open PySem L2 PySem.Spec PyProof.Rows
section
variable {G : Gx} {W : WX} {R F H F' H' : Hp} {ρ ρ' : Fr} {σ : L2.St} {X : Cx} {K : Fg} {Q : VK} {O : Orc}
variable {e a b : Expr} {es : List Expr} {pos : Pos} {ea eb : Ev1} {ees : Fr → Out (List D)} {et : Fr → Out Bool} {tg : Expr}
/-! #### walks -/
structure Wk (K : Fg) (R1 F : Hp) (J : L2.It) (ds : List D) : Prop where
  stop : ∀ F' H, Sub F F' → Sub R1 H → Sub F' H → J.stop ds.length H
  go : ∀ i F' H, i < ds.length → Sub F F' → Sub R1 H → Sub F' H → J.go i H
  yld : ∀ i F' H x H' d, ds[i]? = some d → Sub F F' → Sub R1 H → Sub F' H → NoT F' → J.yld i H x H' → ∃ F'', Nu F' H F'' H' ∧ Rp K F'' x d
theorem wk_list {R1 : Hp} {p : Addr} {vs : List V} {ds : List D} (h : ∀ F' H, Sub F F' → Sub R1 H → Sub F' H → SqL K H p vs) (r : Rps K F vs ds) : Wk K R1 F (Itl K p) ds :=
  ⟨fun F' H s1 s2 s3 => ⟨vs, h F' H s1 s2 s3, by rw [r.len]; exact Nat.le_refl _⟩,
    fun i F' H hi s1 s2 s3 => ⟨vs, vs[i]'(by rw [r.len]; exact hi), h F' H s1 s2 s3, by simp⟩,
    fun i F' H x H' d hd s1 s2 s3 n y => by
      obtain ⟨rfl, y⟩ := y
      obtain ⟨v, h1, h2⟩ := r.get hd
      rw [y vs (h F' _ s1 s2 s3)] at h1
      cases h1
      exact ⟨F', .refl s3 n, h2.mono s1⟩⟩
theorem wk_tup {R1 : Hp} {p : Addr} {vs : List V} {ds : List D} (h : ∀ F' H, Sub F F' → Sub R1 H → Sub F' H → SqT K H p vs) (r : Rps K F vs ds) : Wk K R1 F (Itt K p) ds :=
  ⟨fun F' H s1 s2 s3 => ⟨vs, h F' H s1 s2 s3, by rw [r.len]; exact Nat.le_refl _⟩,
    fun i F' H hi s1 s2 s3 => ⟨vs, vs[i]'(by rw [r.len]; exact hi), h F' H s1 s2 s3, by simp⟩,
    fun i F' H x H' d hd s1 s2 s3 n y => by
      obtain ⟨rfl, y⟩ := y
      obtain ⟨v, h1, h2⟩ := r.get hd
      rw [y vs (h F' _ s1 s2 s3)] at h1
      cases h1
      exact ⟨F', .refl s3 n, h2.mono s1⟩⟩
theorem range_len (lo hi : Int) : (rangeD lo hi).length = (hi - lo).toNat := by simp [rangeD]
theorem wk_range {R1 : Hp} {lo hi : Int} : Wk K R1 F (Itr lo (hi - lo).toNat) (rangeD lo hi) :=
  ⟨fun F' H s1 s2 s3 => by rw [range_len]; exact Nat.le_refl _,
    fun i F' H hi s1 s2 s3 => by rw [range_len] at hi; exact hi,
    fun i F' H x H' d hd s1 s2 s3 n y => by
      obtain ⟨rfl, rfl⟩ := y
      have hi : i < (hi - lo).toNat := by
        have := (List.getElem?_eq_some_iff.mp hd).1
        rw [range_len] at this
        exact this
      have e : d = .int (lo + i) := by
        unfold rangeD at hd
        rw [List.getElem?_map, List.getElem?_range hi] at hd
        exact (Option.some.inj hd).symm
      subst e
      exact ⟨F', .refl s3 n, .int _⟩⟩
/-- pairs newly laid -/
theorem yld_pair {F' H H' : Hp} {T : Addr} {x y : V} {d e : D} (hx : Rp K F' x d) (hy : Rp K F' y e) (s3 : Sub F' H) (n : NoT F') (hT : H T = none) (e1 : H' = upd H T (.tup [x, y])) : ∃ F'', Nu F' H F'' H' ∧ Rp K F'' (.ref T) (.tuple [d, e]) := by
  subst e1
  have z := Nu.new s3 n hT (o := .tup [x, y]) (fun ps z => by cases z)
  exact ⟨_, z, .tup (SqT.of upd_same) (.cons (hx.mono z.ff) (.cons (hy.mono z.ff) .nil))⟩
theorem zip_at {α β : Type} {xs : List α} {ys : List β} {i : Nat} {p : α × β} (h : (xs.zip ys)[i]? = some p) : xs[i]? = some p.1 ∧ ys[i]? = some p.2 := by
  rw [List.getElem?_zip_eq_some] at h
  exact h
theorem wk_zip {R1 : Hp} {p q : Addr} {vs us : List V} {xs ys : List D} (h1 : ∀ F' H, Sub F F' → Sub R1 H → Sub F' H → SqL K H p vs) (h2 : ∀ F' H, Sub F F' → Sub R1 H → Sub F' H → SqL K H q us) (r1 : Rps K F vs xs) (r2 : Rps K F us ys) :
    Wk K R1 F (Itz K p q) ((xs.zip ys).map fun p => .tuple [p.1, p.2]) :=
  ⟨fun F' H s1 s2 s3 => ⟨vs, us, h1 F' H s1 s2 s3, h2 F' H s1 s2 s3, by simp [r1.len, r2.len]; omega⟩,
    fun i F' H hi s1 s2 s3 => by
      have hi : i < xs.length ∧ i < ys.length := by
        have hz := hi
        simp at hz
        omega
      exact ⟨vs, us, vs[i]'(by rw [r1.len]; exact hi.1), us[i]'(by rw [r2.len]; exact hi.2), h1 F' H s1 s2 s3, h2 F' H s1 s2 s3, by simp, by simp⟩,
    fun i F' H x H' d hd s1 s2 s3 n y => by
      rw [List.getElem?_map] at hd
      cases hz : (xs.zip ys)[i]? with
      | none => rw [hz] at hd; cases hd
      | some pr =>
        rw [hz] at hd
        cases hd
        obtain ⟨e1, e2⟩ := zip_at hz
        obtain ⟨v, a1, a2⟩ := r1.get e1
        obtain ⟨u, b1, b2⟩ := r2.get e2
        obtain ⟨T, x', y', rfl, hT, hH, y1, y2⟩ := y
        rw [y1 vs (h1 F' _ s1 s2 s3)] at a1
        rw [y2 us (h2 F' _ s1 s2 s3)] at b1
        cases a1
        cases b1
        exact yld_pair (a2.mono s1) (b2.mono s1) s3 n hT hH⟩
theorem wk_zipT {R1 : Hp} {p q : Addr} {vs us : List V} {xs ys : List D} (h1 : ∀ F' H, Sub F F' → Sub R1 H → Sub F' H → SqT K H p vs) (h2 : ∀ F' H, Sub F F' → Sub R1 H → Sub F' H → SqT K H q us) (r1 : Rps K F vs xs) (r2 : Rps K F us ys) :
    Wk K R1 F (RZ.ItzT K p q) ((xs.zip ys).map fun p => .tuple [p.1, p.2]) :=
  ⟨fun F' H s1 s2 s3 => ⟨vs, us, h1 F' H s1 s2 s3, h2 F' H s1 s2 s3, by simp [r1.len, r2.len]; omega⟩,
    fun i F' H hi s1 s2 s3 => by
      have hi : i < xs.length ∧ i < ys.length := by
        have hz := hi
        simp at hz
        omega
      exact ⟨vs, us, vs[i]'(by rw [r1.len]; exact hi.1), us[i]'(by rw [r2.len]; exact hi.2), h1 F' H s1 s2 s3, h2 F' H s1 s2 s3, by simp, by simp⟩,
    fun i F' H x H' d hd s1 s2 s3 n y => by
      rw [List.getElem?_map] at hd
      cases hz : (xs.zip ys)[i]? with
      | none => rw [hz] at hd; cases hd
      | some pr =>
        rw [hz] at hd
        cases hd
        obtain ⟨e1, e2⟩ := zip_at hz
        obtain ⟨v, a1, a2⟩ := r1.get e1
        obtain ⟨u, b1, b2⟩ := r2.get e2
        obtain ⟨T, x', y', rfl, hT, hH, y1, y2⟩ := y
        rw [y1 vs (h1 F' _ s1 s2 s3)] at a1
        rw [y2 us (h2 F' _ s1 s2 s3)] at b1
        cases a1
        cases b1
        exact yld_pair (a2.mono s1) (b2.mono s1) s3 n hT hH⟩
theorem wk_enum {R1 : Hp} {p : Addr} {vs : List V} {xs : List D} (h1 : ∀ F' H, Sub F F' → Sub R1 H → Sub F' H → SqL K H p vs) (r1 : Rps K F vs xs) :
    Wk K R1 F (L2.Ite K p) (xs.zipIdx.map fun p => .tuple [.int p.2, p.1]) :=
  ⟨fun F' H s1 s2 s3 => ⟨vs, h1 F' H s1 s2 s3, by simp [r1.len]⟩,
    fun i F' H hi s1 s2 s3 => by
      have hi : i < xs.length := by simpa using hi
      exact ⟨vs, vs[i]'(by rw [r1.len]; exact hi), h1 F' H s1 s2 s3, by simp⟩,
    fun i F' H x H' d hd s1 s2 s3 n y => by
      rw [List.getElem?_map, List.getElem?_zipIdx] at hd
      cases hz : xs[i]? with
      | none => rw [hz] at hd; cases hd
      | some pr =>
        rw [hz] at hd
        cases hd
        obtain ⟨v, a1, a2⟩ := r1.get hz
        obtain ⟨T, x', rfl, hT, hH, y1⟩ := y
        rw [y1 vs (h1 F' _ s1 s2 s3)] at a1
        cases a1
        have q := yld_pair (K := K) (.int (i : Nat)) (a2.mono s1) s3 n hT hH
        simpa using q⟩
/-! #### iterables -/
/-- the slots of one's own that stay as they are while the walk lasts -/
def Held (hd : List Nat) (ρ : Fr) (σ : L2.St) (H R1 : Hp) : Prop := ∀ i ∈ hd, ∀ xs a o, ρ.get i = .ol xs → σ[i]? = some (some (.ref a)) → H a = some o → R1 a = some o
def IOk (hd : List Nat) (G : Gx) (σ : L2.St) (R F H : Hp) (ρ : Fr) (ds : List D) (J : L2.It) : Prop := ∀ R1, Held hd ρ σ H R1 → Wk G.K R1 F J ds
abbrev tI (G : Gx) (W : WX) (hd : List Nat) (ev : Fr → Out (List D)) : TI := tX G W (IOk hd G) ev
theorem _root_.L2.PI.weak {it : Expr} {t t' : TI} (h : PI X tg it t) (k : ∀ σ H Q, t' σ H Q → t σ H Q) : PI X tg it t' := ⟨fun pins s σ H Q I q => h.run pins s σ H Q I (k σ H Q q)⟩
def iSq (K : Fg) (tl : TE) : TI := fun σ H R => tl σ H fun x H1 => ∃ a xs, x = .ref a ∧ ((SqL K H1 a xs ∧ R (Itl K a) H1) ∨ (SqT K H1 a xs ∧ R (Itt K a) H1))
theorem pi_sq {l : Expr} {tl : TE} (hl : PE X l tl) : PI X tg l (iSq X.K tl) := by
  refine ⟨fun pins s σ H R I h => ?_⟩
  refine thn (hl.run pins s σ H _ I h) fun v s1 ⟨x, H1, I1, r1, q1⟩ => ?_
  obtain ⟨c, xs, rfl, q1⟩ := q1
  cases r1
  rcases q1 with ⟨hq, q⟩ | ⟨hq, q⟩
  · obtain ⟨its, rv, p, hz⟩ := I1.list hq
    exact wpAny_pyIter_list p.isList (pi_one (tk := s1.toks) I1 _ (turn_list c _) ⟨_, Heap.get?_push_size _ rfl, rfl, rfl⟩ q)
  · obtain ⟨its, rv, p, hz⟩ := I1.tuple hq
    exact wpAny_pyIter_tuple (show s1.heap.IsTuple c its.toArray from p) (pi_one (tk := s1.toks) I1 _ (turn_tuple c _) ⟨_, Heap.get?_push_size _ rfl, rfl, rfl⟩ q)
theorem IOk.any {hd : List Nat} {ds : List D} {J : L2.It} (h : ∀ R1, Wk G.K R1 F J ds) : IOk hd G σ R F H ρ ds J := fun R1 _ => h R1
theorem sq_walk {v : V} {d : D} {xs : List D} (hK : X.K = G.K) (f : Sub F H) (rp : Rp G.K F v d) (hi : itemsOf d = some xs) : ∃ a vs, v = .ref a ∧ ((SqL X.K H a vs ∧ ∀ R1, Wk G.K R1 F (Itl X.K a) xs) ∨ (SqT X.K H a vs ∧ ∀ R1, Wk G.K R1 F (Itt X.K a) xs)) := by
  rw [hK]
  cases rp with
  | lst h1 h2 =>
    cases hi
    exact ⟨_, _, rfl, .inl ⟨SqL.of (f _ _ h1), fun R1 => wk_list (fun F' H s1 _ s3 => SqL.of (s3 _ _ (s1 _ _ h1))) h2⟩⟩
  | tup h1 h2 =>
    cases hi
    exact ⟨_, _, rfl, .inr ⟨Same.seqT f h1, fun R1 => wk_tup (fun F' H s1 _ s3 => Same.seqT s3 (Same.seqT s1 h1)) h2⟩⟩
  | _ => cases hi
theorem i_seq (hK : X.K = G.K) (ha : PE X a (tE G W ea)) : PI X tg a (tI G W [] (iSeq ea)) := (pi_sq ha).weak fun σ H Q q => by
  refine tX.mono (tX.bind (ok := RsOk G) q) fun v H1 ⟨R, F, ρ, r, m, o, h⟩ => ?_
  cases hz : r.fz with
  | none =>
    simp only [hz] at h
    exact h.elim
  | some d =>
    simp only [hz] at h
    obtain ⟨F1, ef, m1, rp⟩ := fz1 m o hz
    have h := Af.ef h ef
    cases hi : itemsOf d with
    | none =>
      rw [hi] at h
      exact h.elim
    | some xs =>
      rw [hi] at h
      obtain ⟨c, vs, rfl, q | q⟩ := sq_walk hK m1.f rp hi
      · exact ⟨c, vs, rfl, .inl ⟨q.1, h _ _ _ .refl m1 (.any q.2)⟩⟩
      · exact ⟨c, vs, rfl, .inr ⟨q.1, h _ _ _ .refl m1 (.any q.2)⟩⟩
theorem i_pks {i : Nat} {x : Str} (hK : X.K = G.K) (h : PE X (.Name x pos) (tVar i)) : PI X tg (.Name x pos) (tI G W [i] (iPks i)) := (pi_sq h).weak fun σ H Q q => by
  obtain ⟨R, F, ρ, m, q⟩ := q
  unfold iPks at q
  cases hi : ρ.get i with
  | no =>
    simp only [hi] at q
    exact q.elim
  | ex x =>
    simp only [hi] at q
    exact q.elim
  | v d =>
    simp only [hi] at q
    obtain ⟨v, h1, h2⟩ := m.me.at_ i _ (get_v hi)
    cases hz : itemsOf d with
    | none =>
      rw [hz] at q
      exact q.elim
    | some xs =>
      rw [hz] at q
      obtain ⟨c, vs, rfl, w | w⟩ := sq_walk hK m.f h2 hz
      · exact ⟨_, h1, c, vs, rfl, .inl ⟨w.1, q _ _ _ .refl m (.any w.2)⟩⟩
      · exact ⟨_, h1, c, vs, rfl, .inr ⟨w.1, q _ _ _ .refl m (.any w.2)⟩⟩
  | ol xs =>
    simp only [hi] at q
    obtain ⟨c, vs, h1, h2, h3, h4, h5⟩ := m.me.at_ i _ (get_ol hi)
    refine ⟨_, h1, c, vs, rfl, .inl ⟨SqL.of h4, q F H (Itl X.K c) .refl m fun R1 hd => ?_⟩⟩
    have q2 : R1 c = some (.lst vs) := hd i (by simp) xs c _ hi h1 h4
    rw [hK]
    exact wk_list (fun F' H s1 s2 s3 => SqL.of (s2 _ _ q2)) h5
theorem rng_lim {n : Int} (h : rngOk n = true) : -(2 ^ 62) ≤ n ∧ n < 2 ^ 62 := by
  unfold rngOk at h
  simp only [Bool.and_eq_true, decide_eq_true_eq] at h
  omega
/-- one int -/
theorem tA_int1 {k : Int → Fr → Out (List D)} {P : L2.It → Hp → Prop} (ha : PE X a (tE G W ea)) : True := trivial
theorem i_rng1 {p : Pos} (hg : Gl X "range") (hm : X.mg "range" = none) (ha : PE X a (tE G W ea)) (hs : starEach [a] X.env = [(false, eval a X.env)]) : PI X tg (.Call (.Name "range" p) [a] [] pos) (tI G W [] (iRng1 ea)) :=
  (pi_range1 hg hm (pa_cons ha pa_nil (by rw [hs]; rfl)) hs).weak fun σ H Q q => by
  refine tX.mono (tX.bind (ok := RsOk G) q) fun v H1 ⟨R, F, ρ, r, m, o, h⟩ => ?_
  cases r with
  | v d =>
    cases d with
    | int n =>
      cases o
      by_cases hz : rngOk n = true
      · simp only [hz, if_true] at h
        obtain ⟨l1, l2⟩ := rng_lim hz
        refine ⟨n, rfl, l1, l2, h _ _ _ .refl m (.any fun R1 => ?_)⟩
        have e : n.toNat = (n - 0).toNat := by simp
        rw [e]
        exact wk_range
      · simp only [hz] at h
        exact h.elim
    | _ => exact h.elim
  | _ => exact h.elim
theorem i_rng2 {p : Pos} (hg : Gl X "range") (hm : X.mg "range" = none) (ha : PE X a (tE G W ea)) (hb : PE X b (tE G W eb)) (hs : starEach [a, b] X.env = [(false, eval a X.env), (false, eval b X.env)]) (hs2 : starEach [b] X.env = [(false, eval b X.env)]) :
    PI X tg (.Call (.Name "range" p) [a, b] [] pos) (tI G W [] (iRng2 ea eb)) :=
  (pi_range2 hg hm (pa_cons ha (pa_cons hb pa_nil (by rw [hs2]; rfl)) (by rw [hs, hs2])) hs hs2).weak fun σ H Q q => by
  refine tX.mono (tX.bind (ok := RsOk G) q) fun v H1 ⟨R, F, ρ, r, m, o, h⟩ => ?_
  refine tX.mono (tX.bind (ok := RsOk G) (ok' := IOk [] G) (Q := Q) ⟨R, F, ρ, m, h⟩) fun u H2 ⟨R2, F2, ρ2, r2, m2, o2, h2⟩ => ?_
  cases r with
  | v d =>
    cases d with
    | int i =>
      cases o
      cases r2 with
      | v d2 =>
        cases d2 with
        | int n =>
          cases o2
          by_cases hz : (rngOk i && rngOk n) = true
          · simp only [hz, if_true] at h2
            rw [Bool.and_eq_true] at hz
            obtain ⟨l1, l2⟩ := rng_lim hz.1
            obtain ⟨l3, l4⟩ := rng_lim hz.2
            exact ⟨i, n, rfl, ⟨l1, l2, l3, l4⟩, h2 _ _ _ .refl m2 (.any fun R1 => wk_range)⟩
          · simp only [hz] at h2
            exact h2.elim
        | _ => exact h2.elim
      | _ => exact h2.elim
    | _ => exact h2.elim
  | _ => exact h2.elim
/-! #### for -/
variable {s1 s2 : EvS}
theorem s_for {iter : Expr} {body : List Stmt} {g : Tg} {ei : Fr → Out (List D)} (hp : PassesOwn (model X.prog X.w) X.A X.env X.xe) (hc : X.calm = true) (hi : PI X tg iter (tI G W [] ei)) (hg : PG X tg (tgG G g)) (hb : PSs X body (tS G W s1))
    (hs : ∀ x, foldedSetIterable iter X.env x = pure x) : PS X (.For tg iter body [] pos) (tS G W (forS g ei s1)) := (ps_for hp hc hi hg hb hs).weak fun D σ H h => by
  refine tX.mono (tX.toS (ok := IOk [] G) h) fun J H1 ⟨R, F0, ρ0, ds, m0, o, h0⟩ => ?_
  have wk : Wk G.K R F0 J ds := o R (fun i hi => by cases hi)
  refine ⟨fun i m σ H => m = ds.length - i ∧ i ≤ ds.length ∧ ∃ F ρ, Sub F0 F ∧ Mt G R F ρ σ H ∧ AfS G W R F (forL (bodyF g s1) (ds.drop i) ρ) D, ⟨ds.length, by simp, Nat.zero_le _, F0, ρ0, Same.refl _, m0, h0⟩, ?_⟩
  rintro i m σ H ⟨rfl, hi, F, ρ, sF, mt, h⟩
  by_cases hlt : i < ds.length
  · have hd : ds[i]? = some ds[i] := List.getElem?_eq_getElem hlt
    rw [List.drop_eq_getElem_cons hlt] at h
    refine .inr ⟨wk.go i F H hlt sF mt.r mt.f, fun σ' H' => ∃ F ρ, Sub F0 F ∧ Mt G R F ρ σ' H' ∧ AfS G W R F (forL (bodyF g s1) (ds.drop (i + 1)) ρ) D, fun σ' H' w => ⟨ds.length - (i + 1), by omega, rfl, hlt, w⟩, fun x H' y => ?_⟩
    obtain ⟨F1, nu, rp⟩ := wk.yld i F H x H' _ hd sF mt.r mt.f mt.nf y
    have m1 := mt.ext nu
    have h1 := AfS.ef h (nu.ef mt.r)
    refine ⟨R, F1, ρ, ds[i], m1, rp, ?_⟩
    have h1 : AfS G W R F1 (match bodyF g s1 ds[i] ρ with | .nx ρ1 => forL (bodyF g s1) (ds.drop (i + 1)) ρ1 | .bk ρ1 => .nx ρ1 | o => o) D := h1
    unfold bodyF at h1
    cases ha : asgT g ds[i] ρ with
    | none =>
      rw [ha] at h1
      exact h1.elim
    | some ρ1 =>
      rw [ha] at h1
      intro σ2 m2 _ _
      refine ⟨R, F1, ρ1, m2, ?_⟩
      have h1 : AfS G W R F1 (match s1 ρ1 with | .nx ρ1 => forL (bodyF g s1) (ds.drop (i + 1)) ρ1 | .bk ρ1 => .nx ρ1 | o => o) D := h1
      cases e2 : s1 ρ1 with
      | nx ρ2 =>
        rw [e2] at h1
        exact fun F2 H2 σ2 ef2 m2 => ⟨F2, ρ2, (sF.trans nu.ff).trans ef2.ff, m2, AfS.ef h1 ef2⟩
      | bk ρ2 =>
        rw [e2] at h1
        exact h1
      | rt r ρ2 =>
        rw [e2] at h1
        exact h1
      | ex x ρ2 =>
        rw [e2] at h1
        exact h1
      | stk =>
        rw [e2] at h1
        exact h1
  · have e : i = ds.length := by omega
    subst e
    rw [List.drop_length] at h
    exact .inl ⟨wk.stop F H sF mt.r mt.f, AfS.next mt h⟩
end
end Ev
end
section
set_option Elab.async false
set_option linter.all false
set_option maxRecDepth 100000
set_option autoImplicit false
namespace Ev
open PySem L2 PySem.Spec PyProof.Rows
abbrev enObj (at_ : Addr) : Obj := { cls := .type "enumerate", data := .fields #[.none, .bool false, .ref at_, rawInt 0, .none, .none] }
abbrev tiObj (t : Addr) : Obj := { cls := .type "tuple_iterator", data := .fields #[.ref t, .int 0 0] }
set_option maxHeartbeats 1000000 in
theorem meets_enT (t : Addr) (its : Array Value) : Meets (Builtin.«enumerate.__new__» ⟨[.type "enumerate", .ref t], []⟩) (fun _ R s => s.heap.IsTuple t its ∧
    R (.ok (.ret (.ref (s.heap.push (tiObj t)).objs.size))) { s with heap := (s.heap.push (tiObj t)).push (enObj s.heap.objs.size) }) :=
  .of_wp fun prog w A R s h => by
    obtain ⟨hp, g, d, tk, os⟩ := s
    obtain ⟨hT, h⟩ := h
    have sE := sub_enumerate
    have it : ∀ {A' : Around} {E : Value → Shared → Prop} {Q : Value → Shared → Prop}, Q (.ref hp.objs.size) ⟨hp.push (tiObj t), g, d, tk, os⟩ → wpAny (model prog w) A' (pyIter (.ref t)) Q E ⟨hp, g, d, tk, os⟩ :=
      fun q => wpAny_pyIter_tuple hT q
    wp_walk using it
    refine wpAny_stack_any fun st2 => wpAny_pure ?_
    split
    · rename_i c2 _ _ _ _ _
      cases (c2 == Value.type "enumerate")
      · wp_walk using it
        exact ⟨_, rfl, h⟩
      · wp_walk using it
        exact ⟨_, rfl, h⟩
    · wp_walk using it
      exact ⟨_, rfl, h⟩
section
variable {prog : Program} {w : World} {A : Around} {E : Value → Shared → Prop} {s : Shared}
theorem call_enT {t : Addr} {its : Array Value} {Q : Value → Shared → Prop} (hT : s.heap.IsTuple t its)
    (h : ∀ h', IsEnum h' (s.heap.objs.size + 1) s.heap.objs.size 0 .none → h'.IsTupleIter s.heap.objs.size t 0 → (∀ b o, s.heap.get? b = some o → h'.get? b = some o) → Q (.ref (s.heap.objs.size + 1)) { s with heap := h' }) :
    wpAny (model prog w) A (call (.type "enumerate") [.ref t]) Q E s := by
  refine callType_new F.called_enumerate (by decide) (F.typeCall_enumerate_1 _) (F.newCall_enumerate_1 _) (fun o => F.args_object_init_2 o _) F.entry_enumerate_new (meets_enT t its) ⟨hT, ?_⟩
  have hz : (s.heap.push (tiObj t)).objs.size = s.heap.objs.size + 1 := Heap.size_push ..
  show _ ∧ _
  rw [hz]
  have he : IsEnum ((s.heap.push (tiObj t)).push (enObj s.heap.objs.size)) (s.heap.objs.size + 1) s.heap.objs.size 0 .none := by
    have q := Heap.get?_push_size (s.heap.push (tiObj t)) (o := enObj s.heap.objs.size) rfl
    rw [hz] at q
    exact q
  exact ⟨⟨_, he, rfl⟩, h _ he ⟨_, Heap.get?_push_of_some _ (Heap.get?_push_size _ rfl), rfl, rfl⟩ fun b o x => Heap.get?_push_of_some _ (Heap.get?_push_of_some _ x)⟩
end
/-- enumerate over a tuple -/
def IteT (K : PySem.W.Frag) (a : Addr) : L2.It :=
  ⟨fun i H => ∃ (xs : List V) (x : V), SqT K H a xs ∧ xs[i]? = some x, fun i H v H' => ∃ T x, v = .ref T ∧ H T = none ∧ H' = upd H T (.tup [.int (i : Nat), x]) ∧ ∀ xs, SqT K H a xs → xs[i]? = some x, fun i H => ∃ xs : List V, SqT K H a xs ∧ xs.length ≤ i⟩
theorem turn_enT {P : Program} {w : World} {K : PySem.W.Frag} {elts : List Expr} {kk : Nat} {tpos : Pos} (a e it : Addr) :
    Turn P w K (.Tuple elts kk tpos) (IteT K a) [e, it] e (fun i h => (∃ old, IsEnum h e it ((i : Nat) : Int) old) ∧ h.IsTupleIter it a i ∧ e ≠ it ∧ a ≠ it ∧ a ≠ e) where
  mem := by simp
  obj := fun i h st b hb => by
    obtain ⟨⟨old, he⟩, ⟨o, ho, hc, hd⟩, _⟩ := st
    have cs : b = e ∨ b = it := by simpa using hb
    rcases cs with z | z
    · rw [z]
      exact ⟨_, he, fun v q => nomatch q⟩
    · rw [z]
      exact ⟨o, ho, fun v q => by rw [hd] at q; cases q⟩
  keep := fun i h h' st k => let ⟨⟨old, he⟩, hi, hne⟩ := st; ⟨⟨old, k e (by simp) _ he⟩, hi.at fun o q => k it (by simp) o q, hne⟩
  item := by
    intro X hP hw hK hc i pins s σ H E I hf st hg
    subst hP hw hK
    obtain ⟨⟨old, he⟩, hit, hne, hai, hae⟩ := st
    obtain ⟨xs, x, hq, hx⟩ := hg
    obtain ⟨its, rv, p, hz⟩ := I.tuple hq
    obtain ⟨u, hu, ru⟩ := rv.get hx
    have hel : e < s.heap.objs.size := Heap.lt_size he
    have hil : it < s.heap.objs.size := by
      obtain ⟨_, q, _⟩ := hit
      exact Heap.lt_size q
    have DD := Draws.tuple (prog := X.prog) (w := X.w) (A := X.A.in1) (I.ok.hd hc) it a hai its.toArray
    refine wpAny_pyNext_enum_itemC DD he ⟨hit, show s.heap.IsTuple a its.toArray from p⟩ (by
      have := (List.getElem?_eq_some_iff.mp hu).1
      simpa using this) hne (by simp [hne, Ne.symm hae]) fun y h' tk hy ho hit' hT hsz hk => ?_
    have hy : u = y := by
      have hy : its.toArray[i]? = some y := hy
      have h2 : its.toArray[i]? = some u := by simpa using hu
      rw [hy] at h2
      exact (Option.some.inj h2).symm
    subst hy
    refine ⟨_, rfl, wpAny_letOwnedTupleGo_enum (s := { s with heap := h', toks := tk + 1 }) ho fun h'' he' sb => ?_⟩
    have hT2 : h''.get? s.heap.objs.size = some { cls := .type "tuple", data := .seq #[.int i tk, u] } := (sb.2 _ (Nat.ne_of_gt hel)).trans hT
    have new : ObjOk X.prog X.w (upd H s.heap.objs.size (.tup [.int (i : Nat), x])) h'' s.heap.objs.size (.tup [.int (i : Nat), x]) :=
      ⟨by show 2 ≤ sizeLine; decide, [.int i tk, u], .cons ⟨_, rfl⟩ (.cons ru .nil), ⟨_, hT2, rfl, _, rfl⟩⟩
    have I1 : Inv X pins σ (upd H s.heap.objs.size (.tup [.int (i : Nat), x])) { s with heap := h'', toks := tk + 1 } :=
      I.turnedNew (ch := [e, it]) (fun b ob hb q => (sb.2 b fun z => hb (by simp [z])).trans (hk b ob (fun z => hb (by simp [z])) (fun z => hb (by simp [z])) q)) hf (Nat.le_refl _) new
    refine ⟨.ref s.heap.objs.size, _, I1, rfl, ⟨_, x, rfl, I.hok.fresh (Nat.le_refl _), rfl, fun ys hy => by rw [I.tuple_inj hy hq]; exact hx⟩, ⟨⟨u, ?_⟩, hit'.1.at fun o q => (sb.2 it (Ne.symm hne)).trans q, hne, hai, hae⟩, fun b hb => ?_⟩
    · have e1 : ((i + 1 : Nat) : Int) = (i : Int) + 1 := by omega
      rw [e1]
      exact he'
    · have cs : b = e ∨ b = it := by simpa using hb
      have hb' : b < s.heap.objs.size := by
        rcases cs with z | z
        · rw [z]
          exact hel
        · rw [z]
          exact hil
      rw [upd_ne (Nat.ne_of_lt hb')]
      exact (hf b hb).1
  done := by
    intro X hP hw hK hc i pins s σ H E I hf st hg
    subst hP hw hK
    obtain ⟨⟨old, he⟩, hit, hne, hai, hae⟩ := st
    obtain ⟨xs, hq, hx⟩ := hg
    obtain ⟨its, rv, p, hz⟩ := I.tuple hq
    obtain ⟨f0, f1, f2, f3, f4, f5⟩ := hf it (by simp)
    have hl := rv.length
    -- the index may lie behind the end: an own Draws of that many turns
    have DD : Draws X.prog X.w X.A.in1 it [it, a] i (fun _ _ => False) (fun j h => h.IsTupleIter it a j ∧ h.IsTuple a its.toArray ∧ its.toArray.size ≤ i ∧ j = i) :=
      ⟨fun j h st => let ⟨o, ho, _⟩ := st.1; ⟨o, ho⟩, fun j h h' st hk => ⟨st.1.at fun o q => hk it (by simp) o q, st.2.1.at fun o q => hk a (by simp) o q, st.2.2⟩,
        fun j s Q E hj st hQ => absurd st.2.2.2 (by omega), fun s Q E st hE => RZ.nextOf_tuple_end (I.ok.hd hc) st.1 st.2.1 (by simp; have := st.2.2.1; simpa using this) hE⟩
    exact wpAny_pyNext_enum_endD DD he ⟨hit, show s.heap.IsTuple a its.toArray from p, by simp; omega, rfl⟩ fun h' eb => ⟨rfl, I.turned (t' := s.toks) (fun b o hb q => eb b o hb q) f0 f1 f3 f4 f5⟩
  self := fun A i s Q E st h => let ⟨⟨_, he⟩, _⟩ := st; wpAny_pyIter_enum he h

section
variable {G : Gx} {W : WX} {R F H F' H' : Hp} {ρ ρ' : Fr} {σ : L2.St} {X : Cx} {K : Fg} {ea eb : Ev1} {a b : Expr} {pos : Pos}
theorem wk_enT {R1 : Hp} {p : Addr} {vs : List V} {xs : List D} (h1 : ∀ F' H, Sub F F' → Sub R1 H → Sub F' H → SqT K H p vs) (r1 : Rps K F vs xs) :
    Wk K R1 F (IteT K p) (xs.zipIdx.map fun p => .tuple [.int p.2, p.1]) :=
  ⟨fun F' H s1 s2 s3 => ⟨vs, h1 F' H s1 s2 s3, by simp [r1.len]⟩,
    fun i F' H hi s1 s2 s3 => by
      have hi : i < xs.length := by simpa using hi
      exact ⟨vs, vs[i]'(by rw [r1.len]; exact hi), h1 F' H s1 s2 s3, by simp⟩,
    fun i F' H x H' d hd s1 s2 s3 n y => by
      rw [List.getElem?_map, List.getElem?_zipIdx] at hd
      cases hz : xs[i]? with
      | none => rw [hz] at hd; cases hd
      | some pr =>
        rw [hz] at hd
        cases hd
        obtain ⟨v, a1, a2⟩ := r1.get hz
        obtain ⟨T, x', rfl, hT, hH, y1⟩ := y
        rw [y1 vs (h1 F' _ s1 s2 s3)] at a1
        cases a1
        have q := yld_pair (K := K) (.int (i : Nat)) (a2.mono s1) s3 n hT hH
        simpa using q⟩
def iEn (K : Fg) (ta : TA) : TI := fun σ H R => ta σ H fun vs H1 => ∃ a xs, vs = [.ref a] ∧ ((SqL K H1 a xs ∧ R (L2.Ite K a) H1) ∨ (SqT K H1 a xs ∧ R (IteT K a) H1))
theorem pi_en {elts : List Expr} {kk : Nat} {tpos p : Pos} {ta : TA} (hg : Gl X "enumerate") (hm : X.mg "enumerate" = none) (ha : PA X [a] ta) (hs : starEach [a] X.env = [(false, eval a X.env)]) :
    PI X (.Tuple elts kk tpos) (.Call (.Name "enumerate" p) [a] [] pos) (iEn X.K ta) := by
  refine ⟨fun pins s σ H R I h => ?_⟩
  refine Call_ (ld_blt I hg hm boot_enumerate (PyProof.Rows.callWith_type1 (thn (ha.run pos pins s σ H _ I h) fun us s1 ⟨vs, H1, I1, r1, q1⟩ => ?_) hs rfl))
  obtain ⟨c, xs, ex, q1⟩ := q1
  subst ex
  cases r1 with
  | cons r rr =>
    cases rr
    cases r
    have fp2 : ∀ b ∈ [s1.heap.objs.size + 1, s1.heap.objs.size], FpOk X pins H1 b := fun b hb => by
      have cs : b = s1.heap.objs.size + 1 ∨ b = s1.heap.objs.size := by simpa using hb
      have hle : s1.heap.objs.size ≤ b := by
        rcases cs with z | z
        · rw [z]
          exact Nat.le_add_right _ _
        · rw [z]
          exact Nat.le_refl _
      exact I1.fpOk hle (I1.hok.fresh hle)
    rcases q1 with ⟨hq, q⟩ | ⟨hq, q⟩
    · obtain ⟨its, rv, p', hz⟩ := I1.list hq
      refine call_enumerate_list p'.isList fun h' he hit hsz hk => wpAny_pyIter_enum he ?_
      exact ⟨s1.heap.objs.size + 1, [s1.heap.objs.size + 1, s1.heap.objs.size], _, _, H1, rfl, I1.kept (t' := s1.toks) hk, turn_enum c (s1.heap.objs.size + 1) s1.heap.objs.size, ⟨⟨.none, he⟩, hit, Nat.succ_ne_self _⟩, fp2, q⟩
    · obtain ⟨its, rv, p', hz⟩ := I1.tuple hq
      have hT : s1.heap.IsTuple c its.toArray := p'
      have hlt : c < s1.heap.objs.size := by
        obtain ⟨o, ho, _⟩ := hT
        exact Heap.lt_size ho
      refine call_enT hT fun h' he hit hk => wpAny_pyIter_enum he ?_
      exact ⟨s1.heap.objs.size + 1, [s1.heap.objs.size + 1, s1.heap.objs.size], _, _, H1, rfl, I1.kept (t' := s1.toks) hk, turn_enT c (s1.heap.objs.size + 1) s1.heap.objs.size, ⟨⟨.none, he⟩, hit, Nat.succ_ne_self _, Nat.ne_of_lt hlt, Nat.ne_of_lt (Nat.lt_succ_of_lt hlt)⟩, fp2, q⟩
/-- an operand held, then the next one, for any result -/
theorem tX.nextG {α β γ δ : Type} {ok : L2.St → Hp → Hp → Hp → Fr → α → β → Prop} {ok' : L2.St → Hp → Hp → Hp → Fr → γ → δ → Prop} {r : Rs} {v : V} {ev : Fr → Out α} {k : α → Fr → Out γ} {Q : δ → Hp → Prop} (m : Mt G R F ρ σ H) (okr : RsOk G σ R F H ρ r v)
    (h : Af G W σ R F (ok' σ) ((ev ρ).bind k) Q) (P : β → Hp → Prop)
    (hP : ∀ F' H' ρ' a b, Mt G R F' ρ' σ H' → RsOk G σ R F' H' ρ' r v → ok σ (hl R H' r v) F' H' ρ' a b → Af G W σ R F' (ok' σ) (k a ρ') Q → P b H') : tX G W ok ev σ H P := by
  obtain ⟨m1, back⟩ := hold1 m okr
  refine ⟨_, F, ρ, m1, ?_⟩
  cases e : ev ρ with
  | stk =>
    rw [e] at h
    exact h
  | ex x ρ' =>
    rw [e] at h
    intro F' H' c d ef m' hx
    have z := back F' ρ' H' ef m'
    exact h F' H' c d z.1 z.2.1 hx
  | ok a ρ' =>
    rw [e] at h
    intro F' H' b ef m' hk
    have z := back F' ρ' H' ef m'
    exact hP F' H' ρ' a b z.2.1 z.2.2.1 (by rw [z.2.2.2]; exact hk) (Af.ef h z.1)
theorem i_enum {elts : List Expr} {kk : Nat} {tpos p : Pos} (hK : X.K = G.K) (hg : Gl X "enumerate") (hm : X.mg "enumerate" = none) (ha : PE X a (tE G W ea)) (hs : starEach [a] X.env = [(false, eval a X.env)]) :
    PI X (.Tuple elts kk tpos) (.Call (.Name "enumerate" p) [a] [] pos) (tI G W [] (iEnum ea)) := (pi_en hg hm (pa_cons ha pa_nil (by rw [hs]; rfl)) hs).weak fun σ H Q q => by
  refine tX.mono (tX.bind (ok := RsOk G) q) fun v H1 ⟨R, F, ρ, r, m, o, h⟩ => ?_
  cases hz : r.fz with
  | none =>
    simp only [hz] at h
    exact h.elim
  | some d =>
    simp only [hz] at h
    obtain ⟨F1, ef, m1, rp⟩ := fz1 m o hz
    have h3 := Af.ef h ef
    clear h
    cases hi : itemsOf d with
    | none =>
      rw [hi] at h3
      exact h3.elim
    | some xs =>
      rw [hi] at h3
      show ∃ a xs, [v] = [.ref a] ∧ _
      rw [hK]
      cases rp with
      | lst h1 h2 =>
        cases hi
        exact ⟨_, _, rfl, .inl ⟨SqL.of (m1.f _ _ h1), h3 _ _ _ .refl m1 (.any fun R1 => wk_enum (fun F' H s1 _ s3 => SqL.of (s3 _ _ (s1 _ _ h1))) h2)⟩⟩
      | tup h1 h2 =>
        cases hi
        exact ⟨_, _, rfl, .inr ⟨Same.seqT m1.f h1, h3 _ _ _ .refl m1 (.any fun R1 => wk_enT (fun F' H s1 _ s3 => Same.seqT s3 (Same.seqT s1 h1)) h2)⟩⟩
      | _ => cases hi
/-- zip of two lists or of two tuples -/
theorem i_zip {elts : List Expr} {kk : Nat} {tpos p : Pos} (hK : X.K = G.K) (hg : Gl X "zip") (hm : X.mg "zip" = none) (ha : PE X a (tE G W ea)) (hb : PE X b (tE G W eb)) (hs : starEach [a, b] X.env = (false, eval a X.env) :: starEach [b] X.env) (hs2 : starEach [b] X.env = (false, eval b X.env) :: starEach [] X.env) :
    PI X (.Tuple elts kk tpos) (.Call (.Name "zip" p) [a, b] [] pos) (tI G W [] (iZip ea eb)) := (RZ.pi_zipA hg hm (pa_cons ha (pa_cons hb pa_nil hs2) hs) hs (by rw [hs2]; rfl)).weak fun σ H Q q => by
  refine tX.mono (tX.bind (ok := RsOk G) q) fun v H1 ⟨R, F, ρ, r, m, o, h⟩ => ?_
  cases hz : r.fz with
  | none =>
    simp only [hz] at h
    exact h.elim
  | some d =>
    simp only [hz] at h
    obtain ⟨F1, ef, m1, rp⟩ := fz1 m o hz
    have h3 := Af.ef h ef
    clear h
    refine tX.nextG (r := .v d) (ok := RsOk G) (ok' := IOk [] G) m1 rp h3 _ fun F2 H2 ρ2 y u m2 rp2 o2 h4 => ?_
    have rp2 : Rp G.K F2 v d := rp2
    have o2 : RsOk G σ R F2 H2 ρ2 y u := o2
    show ∃ p q xs ys, [v, u] = [.ref p, .ref q] ∧ _
    cases hy : y.fz with
    | none =>
      simp only [hy] at h4
      exact h4.elim
    | some e =>
      simp only [hy] at h4
      obtain ⟨F3, ef3, m3, rp3⟩ := fz1 m2 o2 hy
      have h5 := Af.ef h4 ef3
      clear h4
      have rp2 := rp2.mono ef3.ff
      rw [hK]
      cases hd : zipD d e with
      | none =>
        rw [hd] at h5
        exact h5.elim
      | some zs =>
        rw [hd] at h5
        unfold zipD at hd
        split at hd
        · cases hd
          cases rp2 with
          | lst h1 h2 =>
            cases rp3 with
            | lst h3 h4 =>
              exact ⟨_, _, _, _, rfl, .inl ⟨SqL.of (m3.f _ _ h1), SqL.of (m3.f _ _ h3), h5 _ _ _ .refl m3 (.any fun R1 => wk_zip (fun F' H s1 _ s3 => SqL.of (s3 _ _ (s1 _ _ h1))) (fun F' H s1 _ s3 => SqL.of (s3 _ _ (s1 _ _ h3))) h2 h4)⟩⟩
        · cases hd
          cases rp2 with
          | tup h1 h2 =>
            cases rp3 with
            | tup h3 h4 =>
              exact ⟨_, _, _, _, rfl, .inr ⟨Same.seqT m3.f h1, Same.seqT m3.f h3, h5 _ _ _ .refl m3 (.any fun R1 => wk_zipT (fun F' H s1 _ s3 => Same.seqT s3 (Same.seqT s1 h1)) (fun F' H s1 _ s3 => Same.seqT s3 (Same.seqT s1 h3)) h2 h4)⟩⟩
        · cases hd
end
end Ev
end
section
set_option Elab.async false
set_option linter.all false
set_option maxRecDepth 100000
set_option autoImplicit false
namespace Ev
open PySem L2 PySem.Spec PyProof.Rows
section
variable {G : Gx} {W : WX} {R F H F' H' : Hp} {ρ ρ' : Fr} {σ : L2.St} {X : Cx} {K : Fg} {Q : VK} {O : Orc}
/-! #### slots of one's own held back -/
def OwnL (ρ : Fr) (σ : L2.St) (hd : List Nat) (a : Addr) : Prop := ∃ i ∈ hd, ownAt ρ.sl σ i a
theorem OwnL.is {hd : List Nat} {a : Addr} (m : Mt G R F ρ σ H) (h : OwnL ρ σ hd a) : F a = none ∧ R a = none ∧ ∃ vs, H a = some (.lst vs) := by
  obtain ⟨i, _, o⟩ := h
  exact OwnX.is m (i := none) (.inl ⟨i, by simp, o⟩)
theorem own_wipe {hd : List Nat} {j : Nat} {a : Addr} (o : ownAt (ρ.wipe hd).sl σ j a) : j ∉ hd ∧ ownAt ρ.sl σ j a := by
  obtain ⟨xs, h1, h2⟩ := o
  rw [(wipe_sl hd ρ).2.2.2 j] at h1
  by_cases hj : j ∈ hd ∧ j < ρ.sl.length
  · rw [if_pos hj] at h1
    cases h1
  · rw [if_neg hj] at h1
    exact ⟨fun z => hj ⟨z, (List.getElem?_eq_some_iff.mp h1).1⟩, xs, h1, h2⟩
theorem Ms.hold2 {R' : Hp} {sl : List Sl} (m : Ms G R F sl σ H) (h : ∀ j a, ownAt sl σ j a → R' a = none) : Ms G R' F sl σ H := by
  refine ⟨m.len, fun j s e => ?_, m.dj⟩
  have q := m.at_ j s e
  cases s with
  | no => trivial
  | v d => exact q
  | ol xs =>
    obtain ⟨b, vs, h1, h2, h3, h4, h5⟩ := q
    exact ⟨b, vs, h1, h2, h j b ⟨xs, e, h1⟩, h4, h5⟩
  | ex x => exact q
/-- what a matching frame's own addresses are in R -/
theorem Ms.free {sl : List Sl} (m : Ms G R F sl σ H) {j : Nat} {a : Addr} (o : ownAt sl σ j a) : F a = none ∧ R a = none ∧ ∃ vs, H a = some (.lst vs) := by
  obtain ⟨xs, h1, h2⟩ := o
  obtain ⟨b, vs, g1, g2, g3, g4, g5⟩ := m.at_ j _ h1
  rw [h2] at g1
  cases g1
  exact ⟨g2, g3, vs, g4⟩
theorem Mt.holdL (m : Mt G R F ρ σ H) (hd : List Nat) : Mt G (Rw R (OwnL ρ σ hd) H) F (ρ.wipe hd) σ H := by
  have w := m.wipe (l := hd)
  refine ⟨fun a o e => ?_, w.f, fun a ps e => ?_, w.nf, w.tab, fun p hp => ?_, w.me.hold2 fun j a o => ?_, w.io, ?_⟩
  · by_cases h : OwnL ρ σ hd a
    · rw [Rw.pos h] at e
      exact e
    · rw [Rw.neg h] at e
      exact m.r _ _ e
  · by_cases h : OwnL ρ σ hd a
    · rw [Rw.pos h] at e
      obtain ⟨_, _, vs, z⟩ := h.is m
      rw [z] at e
      cases e
    · rw [Rw.neg h] at e
      exact m.nr _ _ e
  · have q := m.kn p hp
    have n : ¬ OwnL ρ σ hd p.1 := fun z => by
      rw [(z.is m).2.1] at q
      cases q
    rw [Rw.neg n]
    exact q
  · obtain ⟨hj, o⟩ := own_wipe o
    have n : ¬ OwnL ρ σ hd a := fun ⟨i, hi, oi⟩ => hj (by
      rw [m.me.dj j i a o oi]
      exact hi)
    rw [Rw.neg n]
    exact (m.me.free o).2.1
  · rw [(wipe_sl hd ρ).2.1]
    refine up_sub (P' := fun sc σc => Ms G (Rw R (OwnL ρ σ hd) H) F sc σc H ∧ ∀ j k c, ownAt (ρ.wipe hd).sl σ j c → ¬ ownAt sc σc k c) m.up fun sc b p σc e1 e2 ⟨g1, g2⟩ => ⟨g1.hold2 fun j a o => ?_, fun j k c o => g2 j k c (own_wipe o).2⟩
    have n : ¬ OwnL ρ σ hd a := fun ⟨i, hi, oi⟩ => g2 i j a oi o
    rw [Rw.neg n]
    exact (g1.free o).2.1
/-- .. and given back -/
theorem Mt.restL {hd : List Nat} {ρ0 : Fr} (m : Mt G (Rw R (OwnL ρ0 σ hd) H) F' ρ σ H') (m0 : Mt G R F ρ0 σ H) (ef : Ef (Rw R (OwnL ρ0 σ hd) H) F F') (he : G.e = none) : Mt G R F' (ρ.rest ρ0 hd) σ H' := by
  obtain ⟨q1, q2, q3, q4⟩ := rest_sl ρ0 hd ρ
  have hlen : ρ.sl.length = ρ0.sl.length := by rw [m.me.len, m0.me.len]
  have hR : ∀ a, OwnL ρ0 σ hd a → R a = none := fun a h => (h.is m0).2.1
  have low : ∀ {a}, Rw R (OwnL ρ0 σ hd) H a = none → R a = none ∧ ¬ OwnL ρ0 σ hd a := fun {a} h => by
    by_cases q : OwnL ρ0 σ hd a
    · rw [Rw.pos q] at h
      obtain ⟨_, _, vs, z⟩ := q.is m0
      rw [z] at h
      cases h
    · rw [Rw.neg q] at h
      exact ⟨h, q⟩
  have own : ∀ {j a}, ownAt (ρ.rest ρ0 hd).sl σ j a → (j ∈ hd ∧ ownAt ρ0.sl σ j a) ∨ (j ∉ hd ∧ ownAt ρ.sl σ j a) := fun {j a} ⟨xs, h1, h2⟩ => by
    rw [q4 j] at h1
    by_cases hj : j ∈ hd ∧ j < ρ.sl.length
    · rw [if_pos hj] at h1
      exact .inl ⟨hj.1, xs, get_ol (Option.some.inj h1), h2⟩
    · rw [if_neg hj] at h1
      exact .inr ⟨fun z => hj ⟨z, (List.getElem?_eq_some_iff.mp h1).1⟩, xs, h1, h2⟩
  refine ⟨m.r.ofRw hR, m.f, m0.nr, m.nf, m.tab, m0.kn, ⟨by rw [q3, m.me.len], fun j s e => ?_, fun i j a h1 h2 => ?_⟩, fun h => ?_, ?_⟩
  · rw [q4 j] at e
    by_cases hj : j ∈ hd ∧ j < ρ.sl.length
    · rw [if_pos hj] at e
      have e0 : ρ0.sl[j]? = some (ρ0.get j) := by
        unfold Fr.get
        rw [List.getElem?_eq_getElem (hlen ▸ hj.2)]
        rfl
      have z := m0.me.at_ j _ e0
      cases e
      cases hs : ρ0.get j with
      | no => trivial
      | v d =>
        rw [hs] at z
        obtain ⟨v, h1, h2⟩ := z
        exact ⟨v, h1, h2.mono ef.ff⟩
      | ol xs =>
        rw [hs] at z
        obtain ⟨b, vs, h1, h2, h3, h4, h5⟩ := z
        have po : OwnL ρ0 σ hd b := ⟨j, hj.1, xs, get_ol hs, h1⟩
        have rb : Rw R (OwnL ρ0 σ hd) H b = some (.lst vs) := (Rw.pos po).trans h4
        refine ⟨b, vs, h1, ?_, h3, m.r _ _ rb, h5.mono ef.ff⟩
        cases q2 : F' b with
        | none => rfl
        | some u => exact absurd h2 (ef.nw b (by rw [rb]; simp) (by rw [q2]; simp))
      | ex x =>
        rw [hs] at z
        obtain ⟨a, cls, d, h1, _⟩ := z
        rw [he] at h1
        cases h1
    · rw [if_neg hj] at e
      have z := m.me.at_ j s e
      cases s with
      | no => trivial
      | v d => exact z
      | ol xs =>
        obtain ⟨b, vs, h1, h2, h3, h4, h5⟩ := z
        exact ⟨b, vs, h1, h2, (low h3).1, h4, h5⟩
      | ex x => exact z
  · rcases own h1 with ⟨i1, o1⟩ | ⟨i1, o1⟩
    · rcases own h2 with ⟨i2, o2⟩ | ⟨i2, o2⟩
      · exact m0.me.dj i j a o1 o2
      · exact absurd ⟨i, i1, o1⟩ (low (m.me.free o2).2.1).2
    · rcases own h2 with ⟨i2, o2⟩ | ⟨i2, o2⟩
      · exact absurd ⟨j, i2, o2⟩ (low (m.me.free o1).2.1).2
      · exact m.me.dj i j a o1 o2
  · rw [q1] at h
    exact m0.io h
  · rw [q2]
    refine up_sub (P' := fun sc σc => Ms G R F' sc σc H' ∧ ∀ j k c, ownAt (ρ.rest ρ0 hd).sl σ j c → ¬ ownAt sc σc k c) m.up fun sc b p σc e1 e2 ⟨g1, g2⟩ => ⟨g1.hold2 fun j a o => (low (g1.free o).2.1).1, fun j k c o => ?_⟩
    rcases own o with ⟨i1, o1⟩ | ⟨i1, o1⟩
    · exact fun o2 => (low (g1.free o2).2.1).2 ⟨j, i1, o1⟩
    · exact g2 j k c o1
/-- the wiped block's frame -/
theorem wipe_at : ∀ (l : List Nat) (σ : L2.St) (i : Nat), (L2.wipe σ l)[i]? = if i ∈ l ∧ i < σ.length then some none else σ[i]?
  | [], σ, i => by simp [L2.wipe]
  | v :: l, σ, i => by
    unfold L2.wipe
    have q := wipe_at l σ i
    have hl := L2.wipe_length σ l
    by_cases hv : v = i
    · subst hv
      by_cases hlt : v < σ.length
      · rw [List.getElem?_set_self (by rw [hl]; exact hlt)]
        simp [hlt]
      · rw [List.getElem?_eq_none (by simpa [hl] using hlt)]
        simp [hlt]
    · rw [List.getElem?_set_ne hv, q]
      simp [Ne.symm hv]
theorem Mt.wipeB {l : List Nat} (m : Mt G R F ρ σ H) (hio : (ρ.io && l.contains 0) = false) : Mt G R F (ρ.wipe l) (L2.wipe σ l) H := by
  obtain ⟨q1, q2, q3, q4⟩ := wipe_sl l ρ
  have own : ∀ {j a}, ownAt (ρ.wipe l).sl (L2.wipe σ l) j a → ownAt ρ.sl σ j a := fun {j a} ⟨xs, h1, h2⟩ => by
    rw [q4 j] at h1
    rw [wipe_at, ← m.me.len] at h2
    by_cases hj : j ∈ l ∧ j < ρ.sl.length
    · rw [if_pos hj] at h1
      cases h1
    · rw [if_neg hj] at h1 h2
      exact ⟨xs, h1, h2⟩
  refine ⟨m.r, m.f, m.nr, m.nf, m.tab, m.kn, ⟨by rw [q3, L2.wipe_length, m.me.len], fun j s e => ?_, fun i j a h1 h2 => m.me.dj i j a (own h1) (own h2)⟩, fun h => ?_, ?_⟩
  · rw [q4 j] at e
    rw [wipe_at, ← m.me.len]
    by_cases hj : j ∈ l ∧ j < ρ.sl.length
    · rw [if_pos hj] at e
      cases e
      trivial
    · rw [if_neg hj] at e ⊢
      exact m.me.at_ j s e
  · rw [q1] at h
    obtain ⟨a, h1, h2⟩ := m.io h
    refine ⟨a, h1, ?_⟩
    rw [wipe_at]
    have hn : ¬ (0 ∈ l) := fun z => by
      rw [h] at hio
      simp [z] at hio
    rw [if_neg (fun z => hn z.1)]
    exact h2
  · rw [q2]
    exact up_sub (P' := fun sc σc => Ms G R F sc σc H ∧ ∀ j k c, ownAt (ρ.wipe l).sl (L2.wipe σ l) j c → ¬ ownAt sc σc k c) m.up fun sc b p σc e1 e2 ⟨g1, g2⟩ => ⟨g1, fun j k c o => g2 j k c (own o)⟩
/-- a list that no slot holds is written -/
theorem Mt.poke {a : Addr} {vs us : List V} (m : Mt G R F ρ σ H) (hF : F a = none) (hR : R a = none) (h4 : H a = some (.lst vs)) (fr : Fresh G ρ σ a) : Mt G R F ρ σ (upd H a (.lst us)) := by
  have sub : ∀ {B : Hp}, B a = none → Sub B H → Sub B (upd H a (.lst us)) := fun {B} n s b o e => by
    rw [upd_ne fun z => by rw [z, n] at e; cases e]
    exact s b o e
  refine ⟨sub hR m.r, sub hF m.f, m.nr, m.nf, ?_, m.kn, m.me.but fr.1 (fun fs z => by rw [h4] at z; cases z), m.io, ?_⟩
  · intro p hp
    obtain ⟨ps, q1, q2, q3⟩ := m.tab p hp
    refine ⟨ps, by rw [upd_ne fun z => by rw [z, h4] at q1; cases q1]; exact q1, q2, fun pos cv hc => ?_⟩
    obtain ⟨c, e1, e2⟩ := q3 pos cv hc
    exact ⟨c, e1, by rw [upd_ne fun z => by rw [z, h4] at e2; cases e2]; exact e2⟩
  · exact up_sub (P' := fun sc σc => Ms G R F sc σc (upd H a (.lst us)) ∧ ∀ j k c, ownAt ρ.sl σ j c → ¬ ownAt sc σc k c) m.up fun sc b p σc e1 e2 ⟨g1, g2⟩ => ⟨g1.but (fun j => fr.2 sc b p σc e1 e2 j) (fun fs z => by rw [h4] at z; cases z), g2⟩
end
end Ev
end
section
set_option Elab.async false
set_option linter.all false
set_option maxRecDepth 100000
set_option autoImplicit false
namespace Ev
open PySem L2 PySem.Spec PyProof.Rows
section
variable {G : Gx} {W : WX} {R F H F' H' : Hp} {ρ ρ' : Fr} {σ : L2.St} {X : Cx} {K : Fg} {Q : VK} {O : Orc}
/-- no exception passes -/
abbrev Wn : WX := fun _ _ _ _ => False
theorem bind_ok {α β : Type} {o : Out α} {f : α → Fr → Out β} {b : β} {ρ' : Fr} (h : o.bind f = .ok b ρ') : ∃ a ρ1, o = .ok a ρ1 ∧ f a ρ1 = .ok b ρ' := by
  cases o with
  | ok a ρ1 => exact ⟨a, ρ1, rfl, h⟩
  | ex x ρ1 => cases h
  | stk => cases h
/-- the rest of the turns comes to an end -/
theorem compL_nil {b : D → Fr → Out (Option D)} {ρ : Fr} : compL b [] ρ = .ok [] ρ := rfl
theorem restS_fresh {l : List Nat} {ρ0 : Fr} {a : Addr} (m0 : Mt G R F ρ0 σ H) (h0 : H a = none) (fr : Fresh G ρ σ a) : Fresh G (ρ.rest ρ0 l) σ a := by
  obtain ⟨q1, q2, q3, q4⟩ := rest_sl ρ0 l ρ
  refine ⟨fun j ⟨xs, h1, h2⟩ => ?_, fun sc b p σc e1 e2 => fr.2 sc b p σc (by rw [← q2]; exact e1) e2⟩
  rw [q4 j] at h1
  by_cases hj : j ∈ l ∧ j < ρ.sl.length
  · rw [if_pos hj] at h1
    obtain ⟨_, _, vs, z⟩ := m0.me.free ⟨xs, get_ol (Option.some.inj h1), h2⟩
    rw [h0] at z
    cases z
  · rw [if_neg hj] at h1
    exact fr.1 j ⟨xs, h1, h2⟩
theorem comp_of {vs : List Nat} {hd : List Nat} {g : Tg} {ei : Fr → Out (List D)} {ec : Fr → Out Bool} {ee : Ev1} (he : G.e = none) (hK : X.K = G.K) (hsub : ∀ i ∈ tgSlots g, i ∈ vs)
    (q : tE G W (compF vs hd g ei ec ee) σ H Q) : tLc (tI G W hd ei) (tgG G g) (tT G Wn ec) (tE G Wn ee) vs σ H Q := by
  refine tX.mono (tX.bind (ok := IOk hd G) q) fun J H1 ⟨R, F0, ρ0, ds, m0, o, h⟩ => ?_
  intro Dd hD
  by_cases hc : (noOwn ρ0 vs && decide (ds.length ≤ big)) = true
  case neg =>
    have hc' : (noOwn ρ0 vs && decide (ds.length ≤ big)) = false := by simpa using hc
    rw [hc'] at h
    exact h.elim
  rw [hc] at h
  have h : Af G W σ R F0 (RsOk G σ) ((noEx (compL (turnF vs g ec ee (ρ0.wipe hd)) ds (ρ0.wipe hd))).bind fun xs ρ1 => .ok (.l xs) (ρ1.rest ρ0 hd)) Q := h
  rw [Bool.and_eq_true] at hc
  have hown := hc.1
  have hlen : ds.length ≤ big := of_decide_eq_true hc.2
  -- the loop comes to an end
  cases hcl : compL (turnF vs g ec ee (ρ0.wipe hd)) ds (ρ0.wipe hd) with
  | stk =>
    rw [hcl] at h
    exact h.elim
  | ex x ρ' =>
    rw [hcl] at h
    exact h.elim
  | ok out ρe =>
  rw [hcl] at h
  have h : Af G W σ R F0 (RsOk G σ) (.ok (.l out) (ρe.rest ρ0 hd)) Q := h
  have mh := m0.holdL hd
  have wk : Wk G.K (Rw R (OwnL ρ0 σ hd) H1) F0 J ds := o _ fun i hi xs a ob hg hs ha => (Rw.pos ⟨i, hi, xs, get_ol hg, hs⟩).trans ha
  generalize hR1 : Rw R (OwnL ρ0 σ hd) H1 = R1 at mh wk
  have R1D : R1 Dd = none := by
    cases z : R1 Dd with
    | none => rfl
    | some u =>
      have := mh.r _ _ z
      rw [hD] at this
      cases this
  have F0D : F0 Dd = none := m0.f.free hD
  have hnw : noOwn (ρ0.wipe hd) vs = true ∧ ((ρ0.wipe hd).io && vs.contains 0) = false := by
    unfold noOwn at hown ⊢
    obtain ⟨q1, q2, q3, q4⟩ := wipe_sl hd ρ0
    rw [q1]
    rw [Bool.and_eq_true] at hown
    refine ⟨?_, by have z := hown.1; cases hq : ρ0.io <;> simp_all⟩
    rw [Bool.and_eq_true]
    refine ⟨hown.1, List.all_eq_true.mpr fun i hi => ?_⟩
    have z := (List.all_eq_true.mp hown.2) i hi
    cases hg : (ρ0.wipe hd).get i with
    | ol xs =>
      have g1 := get_ol hg
      rw [q4 i] at g1
      by_cases hj : i ∈ hd ∧ i < ρ0.sl.length
      · rw [if_pos hj] at g1
        cases g1
      · rw [if_neg hj] at g1
        have : ρ0.get i = .ol xs := by
          unfold Fr.get
          rw [g1]
          rfl
        rw [this] at z
        cases z
    | _ => rfl
  generalize hρw : ρ0.wipe hd = ρw at hcl mh hnw
  refine ⟨fun i m H => m = ds.length - i ∧ i ≤ ds.length ∧ ∃ F ρ acc zs, Ef R1 F0 F ∧ Mt G R1 F ρ σ H ∧ F Dd = none ∧ H Dd = some (.lst acc) ∧ Fresh G ρ σ Dd ∧ Rps G.K F acc zs ∧ zs.length ≤ i ∧ ρ.io = ρw.io ∧
      ∃ ys, compL (turnF vs g ec ee ρw) (ds.drop i) ρ = .ok ys ρe ∧ out = zs ++ ys, ⟨ds.length, by simp, Nat.zero_le _, F0, ρw, [], [], .refl, ?_, F0D, upd_same, ?_, .nil, Nat.le_refl _, rfl, out, by simpa using hcl, rfl⟩, ?_⟩
  · exact mh.ext (Nu.own mh.f mh.nf hD)
  · exact fresh_new mh hD
  rintro i m H ⟨rfl, hi, F, ρ, acc, zs, ef, mt, FD, HD, frD, rps, hzs, hio, ys, hcl, hout⟩
  by_cases hlt : i < ds.length
  · have hd' : ds[i]? = some ds[i] := List.getElem?_eq_getElem hlt
    rw [List.drop_eq_getElem_cons hlt] at hcl
    refine .inr ⟨wk.go i F H hlt ef.ff mt.r mt.f, fun H => ∃ F ρ acc zs, Ef R1 F0 F ∧ Mt G R1 F ρ σ H ∧ F Dd = none ∧ H Dd = some (.lst acc) ∧ Fresh G ρ σ Dd ∧ Rps G.K F acc zs ∧ zs.length ≤ i + 1 ∧ ρ.io = ρw.io ∧
      ∃ ys, compL (turnF vs g ec ee ρw) (ds.drop (i + 1)) ρ = .ok ys ρe ∧ out = zs ++ ys, fun H' w => ⟨ds.length - (i + 1), by omega, rfl, hlt, w⟩, fun x H' y => ?_⟩
    have mD := mt.hold HD (fun ps z => by cases z) frD
    obtain ⟨F1, nu, rp⟩ := wk.yld i F H x H' _ hd' ef.ff mt.r mt.f mt.nf y
    have m1 := mD.ext nu
    have m2 := m1.wipeB (l := vs) (by rw [hio]; exact hnw.2)
    -- the turn's own text
    obtain ⟨od, ρ2, ht, hcl⟩ := bind_ok hcl
    obtain ⟨ys2, ρ3, hcl2, hcl⟩ := bind_ok hcl
    have ex : ρ3 = ρe ∧ ys = od.toList ++ ys2 := by
      cases od with
      | none =>
        injection hcl with e1 e2
        exact ⟨e2, e1.symm⟩
      | some z =>
        injection hcl with e1 e2
        exact ⟨e2, e1.symm⟩
    clear hcl
    obtain ⟨rfl, rfl⟩ := ex
    unfold turnF at ht
    cases hg : asgT g ds[i] (ρ.wipe vs) with
    | none =>
      rw [hg] at ht
      cases ht
    | some ρ4 =>
    rw [hg] at ht
    have ht : ((ec ρ4).bind fun k ρ2 => if k then (ee ρ2).bind fun r ρ3 => (match r.fz with | some x => .ok (some x) (ρ3.rest ρw vs) | none => .stk) else .ok none (ρ2.rest ρw vs)) = .ok od ρ2 := ht
    obtain ⟨k, ρ5, hk, ht⟩ := bind_ok ht
    refine ⟨_, F1, ρ.wipe vs, ds[i], m2, rp, ?_⟩
    rw [hg]
    intro σ2 m4 l4 o4
    have o4' : ∀ j, j ∉ vs → σ2[j]? = σ[j]? := fun j hj => (o4 j fun z => hj (hsub j z)).trans (by rw [wipe_at, if_neg fun z => hj z.1])
    have l4' : σ2.length = σ.length := l4.trans (L2.wipe_length σ vs)
    refine ⟨?_, ?_⟩
    · apply List.ext_getElem?
      intro j
      rw [wipe_at, wipe_at, l4']
      by_cases hj : j ∈ vs
      · by_cases hl : j < σ.length
        · rw [if_pos ⟨hj, hl⟩, if_pos ⟨hj, hl⟩]
        · rw [if_neg fun z => hl z.2, if_neg fun z => hl z.2, List.getElem?_eq_none (by omega), List.getElem?_eq_none (by omega)]
      · rw [if_neg fun z => hj z.1, if_neg fun z => hj z.1]
        exact o4' j hj
    -- what is left behind a turn
    have efD : Ef (upd R1 Dd (.lst acc)) F F1 := nu.ef mD.r
    have back : ∀ {F5 H5 ρ5}, Ef (upd R1 Dd (.lst acc)) F1 F5 → Mt G (upd R1 Dd (.lst acc)) F5 ρ5 σ2 H5 → Ef R1 F0 F5 ∧ Mt G R1 F5 (ρ5.rest ρw vs) σ H5 ∧ F5 Dd = none ∧ H5 Dd = some (.lst acc) ∧ Fresh G (ρ5.rest ρw vs) σ Dd ∧ Rps G.K F5 acc zs ∧ (ρ5.rest ρw vs).io = ρw.io := fun {F5 H5 ρ5} e5 m5 => by
      have e6 := efD.trans e5
      have r5 := m5.restS (l := vs) (ρ0 := ρw) (σ := σ) mh (ef.ff.trans e6.ff) he hnw.1 l4' o4'
      obtain ⟨u1, u2, u3⟩ := r5.unhold R1D mt.kn
      exact ⟨ef.trans (e6.unhold R1D), u1, e6.held FD, u2, u3, rps.mono e6.ff, (rest_sl ρw vs ρ5).1⟩
    refine ⟨_, F1, ρ4, m4, ?_⟩
    rw [hk]
    intro F5 H5 k' e5 m5 ek
    have ek : k = k' := ek
    subst ek
    cases k with
    | false =>
      injection ht with t1 t2
      subst t1 t2
      obtain ⟨b1, b2, b3, b4, b5, b6, b7⟩ := back e5 m5
      exact ⟨F5, _, acc, zs, b1, b2, b3, b4, b5, b6, Nat.le_succ_of_le hzs, b7, ys2, hcl2, hout⟩
    | true =>
      have ht : ((ee ρ5).bind fun r ρ3 => (match r.fz with | some x => .ok (some x) (ρ3.rest ρw vs) | none => .stk)) = .ok od ρ2 := ht
      obtain ⟨r, ρ6, hr, ht⟩ := bind_ok ht
      refine ⟨_, F5, ρ5, m5, ?_⟩
      rw [hr]
      intro F6 H6 w e6 m6 ok6
      cases hz : r.fz with
      | none =>
        rw [hz] at ht
        cases ht
      | some z =>
        rw [hz] at ht
        injection ht with t1 t2
        subst t1 t2
        obtain ⟨F7, e7, m7, rp7⟩ := fz1 m6 ok6 hz
        obtain ⟨b1, b2, b3, b4, b5, b6, b7⟩ := back ((e5.trans e6).trans e7) m7
        have hl : acc.length < sizeLine := by
          rw [rps.len]
          have : big = sizeLine := by rw [sizeLine_eq]; decide
          omega
        refine ⟨acc, b4, hl, F7, _, acc ++ [w], zs ++ [z], b1, b2.poke b3 R1D b4 b5, b3, upd_same, b5, b6.app (.cons rp7 .nil), by simp; omega, b7, ys2, hcl2, by rw [hout]; simp⟩
  · have e : i = ds.length := by omega
    subst e
    rw [List.drop_length, compL_nil] at hcl
    injection hcl with c1 c2
    subst c1 c2
    refine .inl ⟨wk.stop F H ef.ff mt.r mt.f, ?_⟩
    subst hR1
    have mr := mt.restL m0 ef he
    have RD : R Dd = none := m0.r.free hD
    rw [List.append_nil] at hout
    subst hout
    exact h F H (.ref Dd) (ef.ofRw fun a z => (z.is m0).2.1) mr ⟨Dd, acc, rfl, RD, FD, HD, rps, restS_fresh m0 hD frD⟩
theorem _root_.L2.PTs.weak {e : List Expr} {t t' : TT} (h : PTs X e t) (k : ∀ σ H Q, t' σ H Q → t σ H Q) : PTs X e t' := ⟨fun pins s σ H Q I q => h.run pins s σ H Q I (k σ H Q q)⟩
theorem ts_nil : PTs X [] (tT G W fun ρ => .ok true ρ) := pts_nil.weak fun σ H Q q => tT.bl q
theorem ts_one {c : Expr} {ec : Fr → Out Bool} (h : PT X c (tT G W ec)) : PTs X [c] (tT G W ec) := pts_one h
end
end Ev
end
section
set_option Elab.async false
set_option linter.all false
set_option maxRecDepth 100000
set_option autoImplicit false
namespace Ev
open PySem L2 PySem.Spec PyProof.Rows
section
variable {prog : Program} {w : World} {A : Around} {E : Value → Shared → Prop} {s : Shared}
/-- the items of a tuple in a new list -/
theorem collect_tup {t : Addr} {vs : List Value} {Q : List Value → Shared → Prop} (hT : s.heap.IsTuple t vs.toArray) (hz : vs.length ≤ sizeLine)
    (h : Q vs { s with heap := (s.heap.push (seqObj "list" #[] 0)).update s.heap.objs.size (Obj.mapSeq (· ++ vs.toArray)) }) : wpAny (model prog w) A (collect (.ref t)) Q E s := by
  obtain ⟨ot, hot, hct, n, hdt⟩ := id hT
  unfold collect
  refine wpAny_bind (wpAny_runValue (codeAny_builtin entry_proto_collect' ?_))
  show wpAny _ _ (do again (.builtin "list.__iadd__" ⟨[← newList [], .ref t], []⟩)) _ _ s
  refine wpAny_bind (wpAny_newList (wpAny_pure ⟨Code.quiet_builtin _ (by decide +kernel), codeAny_builtin entry_list_iadd' ?_⟩))
  show wpAny _ _ (Builtin.List.listExtendWith (.ref s.heap.objs.size) (.ref t) (.ref s.heap.objs.size)) _ _ { s with heap := s.heap.push (seqObj "list" #[] 0) }
  unfold Builtin.List.listExtendWith
  have hot2 : (s.heap.push (seqObj "list" #[] 0)).get? t = some ot := Heap.get?_push_of_some _ hot
  refine wpAny_bind (wpAny_typeOf (T := "tuple") ⟨ot, hot2, hct⟩ ?_)
  rw [if_pos (by rw [show (Value.type "tuple" == Value.type "tuple") = true from rfl]; simp)]
  refine wpAny_bind (listItems_at hot2 hdt ?_)
  refine wpAny_bind (listItems_at (xs := #[]) (n := 0) (Heap.get?_push_size _ rfl) rfl ?_)
  rw [if_neg (by simp)]
  refine wpAny_bind (listUpdate_at (xs := #[]) (n := 0) (Heap.get?_push_size _ rfl) rfl ?_ (Nat.zero_le _) (by show (#[] ++ vs.toArray).size ≤ sizeLine + 1; simp; omega))
  refine wpAny_pure ?_
  show wpAny (model prog w) A (do
      let ob ← load s.heap.objs.size
      match ob.data with
      | .seq xs _ => pure xs.toList
      | _ => unsupported "internal:collect") Q E { s with heap := (s.heap.push (seqObj "list" #[] 0)).update s.heap.objs.size (Obj.mapSeq (· ++ vs.toArray)) }
  refine wpAny_bind (wpAny_load (get?_update_seq (Heap.get?_push_size _ rfl) _) ?_)
  show wpAny _ _ (pure ((#[] : Array Value) ++ vs.toArray).toList) Q E _
  have ev : ((#[] : Array Value) ++ vs.toArray).toList = vs := by simp
  rw [ev]
  exact wpAny_pure h
variable {β : Type} {vs : List Value} {bs : List β} {enc : β → PyData} {RR : Value → β → Prop}
open PySem.W in
/-- sorted(a tuple) -/
theorem sorted_tup {l : Addr} {Q : Value → Shared → Prop} (hl : s.heap.IsTuple l vs.toArray) (e : EachIs RR vs bs) (er : EachIs (fun v b => ∃ as, Reads s.heap v (enc b) as) vs bs) (hal : AllAlike (bs.map enc)) (hk : Sortable (bs.map enc)) (hL : bs.length ≤ sizeLine)
    (hu : ∀ b, b ∈ bs → A.units + 2 + (enc b).depth < cLine) (h : ∀ out, out.length = bs.length → EachIs RR out (bs.mergeSort (dataLe false enc)) → Q (.ref (s.heap.objs.size + 1)) { s with heap := sortedAll s.heap vs (List.toArray out) }) :
    wpAny (model prog w) A (call (.builtin "sorted") [.ref l]) Q E s := by
  have hL' : vs.length ≤ sizeLine := by
    rw [e.length]
    exact hL
  have er' : EachIs (fun v b => ∃ as, Reads (sortingHeap (copyHeap s.heap vs) (s.heap.objs.size + 1) vs) v (enc b) as) vs bs := er.mono fun _ _ ⟨as, r⟩ => ⟨as, PyProof.Rows.Reads.keeps (fun _ _ => sorting_copy_old) r⟩
  have S : SortsAt prog w A.in1.in1 { s with heap := sortingHeap (copyHeap s.heap vs) (s.heap.objs.size + 1) vs } (dataKind (sortingHeap (copyHeap s.heap vs) (s.heap.objs.size + 1) vs) (bs.map enc)) vs :=
    SortsAt.data (s := { s with heap := sortingHeap (copyHeap s.heap vs) (s.heap.objs.size + 1) vs }) (each_map (R := fun v d => ∃ as, Reads (sortingHeap (copyHeap s.heap vs) (s.heap.objs.size + 1) vs) v d as) enc er') hal hk (bound_map hu)
  refine call_function_entry_kw kind_sorted plain_sorted entry_sorted (args_sorted1 _) ?_
  unfold Builtin.«sorted»
  refine wpAny_bind (m := checkCount "sorted" 1 1 _) (wpAny_pure ?_)
  refine wpAny_bind (collect_tup hl hL' ?_)
  refine wpAny_bind (wpAny_newList ?_ hL')
  have hsz : ((s.heap.push (seqObj "list" #[] 0)).update s.heap.objs.size (Obj.mapSeq (· ++ vs.toArray))).objs.size = s.heap.objs.size + 1 := by rw [Heap.size_update, size_push']
  show wpAny _ _ _ _ _ { s with heap := copyHeap s.heap vs }
  rw [hsz]
  refine wpAny_bind (wpAny_holding (wpAny_call_entry_kw slot_list_sort ⟨_, copyHeap_at s.heap vs, rfl⟩ entry_list_sort ?body (args_list_sort _)))
  case body =>
    show wpAny (model prog w) A.in1.in1 (Builtin.«list.sort» ⟨[.ref (s.heap.objs.size + 1)], []⟩) _ _ _
    refine wpAny_mono (list_sort_vals (P := fun f s' => f = .done (.ret .none) ∧ Q (.ref (s.heap.objs.size + 1)) s') (s := { s with heap := copyHeap s.heap vs }) (copyHeap_at s.heap vs) S hL' ⟨rfl, h _ (by rw [sortVals_length false rfl]; exact e.length) (sortVals_data false e er' hal)⟩) (fun f s' hf => ?_) fun _ _ q => q
    obtain ⟨rfl, hq⟩ := hf
    exact ⟨_, rfl, wpAny_pure ⟨_, rfl, hq⟩⟩
end
section
variable {G : Gx} {W : WX} {R F H F' H' : Hp} {ρ ρ' : Fr} {σ : L2.St} {X : Cx} {K : Fg} {Q : VK} {pins : List (Addr × Obj)} {s : Shared}
/-- a value that stands for an abstract one that reads as d -/
def Vd (K : Fg) (F : Hp) (u : Value) (p : V × D) : Prop := RelV p.1 u ∧ Rp K F p.1 p.2
theorem each_vd : ∀ {vs : List V} {us : List Value} {ds : List D}, Vals vs us → Rps K F vs ds → PySem.W.EachIs (Vd K F) us (vs.zip ds)
  | _, _, _, .nil, .nil => .nil
  | _, _, _, .cons r rs, .cons h hs => .cons ⟨r, h⟩ (each_vd rs hs)
theorem zip_snd : ∀ {vs : List V} {ds : List D}, Rps K F vs ds → (vs.zip ds).map Prod.snd = ds
  | _, _, .nil => rfl
  | v :: vs, d :: ds, .cons h hs => congrArg (d :: ·) (zip_snd hs)
theorem out_vals : ∀ {us : List Value} {ps : List (V × D)}, PySem.W.EachIs (Vd K F) us ps → Vals (ps.map Prod.fst) us ∧ Rps K F (ps.map Prod.fst) (ps.map Prod.snd)
  | _, _, .nil => ⟨.nil, .nil⟩
  | _, _, .cons h hs => ⟨.cons h.1 (out_vals hs).1, .cons h.2 (out_vals hs).2⟩
theorem each_reads (I : Inv X pins σ H s) (f : Sub F H) : ∀ {ds : List D} {vs : List V} {us : List Value}, Vals vs us → Rps X.K F vs ds → PyData.canLayAll0 ds = true → PySem.W.EachIs (fun v (b : V × D) => ∃ as, Reads s.heap v b.2 as) us (vs.zip ds)
  | _, _, _, .nil, .nil, _ => .nil
  | d :: ds, _, _, .cons r rs, .cons h hs, q => by
    have q' : d.canLay0 = true ∧ PyData.canLayAll0 ds = true := by simpa [PyData.canLayAll0] using q
    exact .cons (Dp.reads I _ _ _ ((h.mono f).dp q'.1) r) (each_reads I f rs hs q'.2)
theorem all_alike {ds : List D} (h : allAlike ds = true) : PySem.W.AllAlike ds := fun d hd e he => (List.all_eq_true.mp ((List.all_eq_true.mp h) d hd)) e he
theorem sortable_of {ds : List D} (h : sortable ds = true) : PySem.W.Sortable ds := by
  unfold sortable at h
  rw [Bool.or_eq_true] at h
  rcases h with h | h
  · refine .inl fun d hd => ?_
    have q := (List.all_eq_true.mp h) d hd
    split at q
    · exact ⟨_, _, rfl⟩
    · cases q
  · refine .inr fun d hd => ?_
    have q := (List.all_eq_true.mp h) d hd
    split at q
    · cases q
    · cases q
    · rename_i h1 h2
      exact ⟨h1, h2⟩
theorem depth_le : ∀ {ds : List D} {d : D}, d ∈ ds → d.depth ≤ PyData.depthAll ds
  | e :: ds, d, h => by
    rcases List.mem_cons.mp h with rfl | h
    · simp only [PyData.depthAll]
      omega
    · have := depth_le h
      simp only [PyData.depthAll]
      omega
theorem cr_sorted' (hK : X.K = G.K) (hu : X.A.units + 67 < cLine) : CallR X (.builtin "sorted") (rBi G.K .sorted) := by
  intro pins s σ H vs us Q I r h
  obtain ⟨F, v, d, f, n, rfl, o, g⟩ := h.one fun _ _ => rfl
  rw [← hK] at o g
  have g : Gv X.K F H ((itemsOf d).bind fun xs => (sortD xs).map .l) Q := g
  obtain ⟨xs, hi, g⟩ := Gv.bind g
  obtain ⟨zs, hs, g⟩ := Gv.map g
  unfold sortD at hs
  obtain ⟨hc, hz⟩ := ite_some hs
  simp only [Bool.and_eq_true, decide_eq_true_eq] at hc
  obtain ⟨⟨⟨c1, c2⟩, c3⟩, c4⟩ := hc
  subst hz
  obtain ⟨a, ws, rfl, rr, q⟩ := items_sq o f hi
  obtain ⟨u, rfl, ru⟩ := vals1 r
  obtain rfl : u = .ref a := ru
  have hcl : PyData.canLayAll0 xs = true := by
    have := SeqAt.canLay_of_shaped c3
    simpa [PyData.canLay0] using this
  have hdp : PyData.depthAll xs ≤ 63 := by
    have := SeqAt.depth_of_shaped c3
    simp only [PyData.depth] at this
    omega
  have hb : big = sizeLine := by rw [sizeLine_eq]; decide
  have zlen : (ws.zip xs).length = xs.length := by simp [rr.len]
  have fin : ∀ (its : List Value), Vals ws its → ∀ out : List Value, out.length = (ws.zip xs).length → PySem.W.EachIs (Vd X.K F) out ((ws.zip xs).mergeSort (PySem.W.dataLe false Prod.snd)) →
      EP X pins σ Q (.ref (s.heap.objs.size + 1)) { s with heap := sortedAll s.heap its (List.toArray out) } := fun its rv out hl ho => by
    obtain ⟨o1, o2⟩ := out_vals ho
    have em : ((ws.zip xs).mergeSort (PySem.W.dataLe false Prod.snd)).map Prod.snd = xs.mergeSort (PySem.W.dataLe false id) := by
      exact (List.map_mergeSort (r := PySem.W.dataLe false Prod.snd) (s := PySem.W.dataLe false id) (f := Prod.snd) (l := ws.zip xs) (fun a _ b _ => rfl)).trans (by rw [zip_snd rr])
    rw [em] at o2
    have hp : H (s.heap.objs.size + 1) = none := I.hok.fresh (Nat.le_succ _)
    obtain ⟨e, he⟩ := sortedAll_at s.heap its (List.toArray out)
    exact ⟨.ref (s.heap.objs.size + 1), _, I.laid (t' := s.toks) (fun b ob q => sortedAll_old q) (Nat.le_succ _) (show ObjOk X.prog X.w _ _ _ (.lst (((ws.zip xs).mergeSort (PySem.W.dataLe false Prod.snd)).map Prod.fst)) from ⟨by rw [o1.length, hl, zlen, ← hb]; exact c4, out, e, o1, he⟩), rfl, g.lst f n hp o2⟩
  have hu' : ∀ b : V × D, b ∈ ws.zip xs → X.A.units + 2 + b.2.depth < cLine := fun b hb => by
    have := depth_le (List.of_mem_zip hb).2
    omega
  rcases q with q | q
  · obtain ⟨its, rv, pl, hz⟩ := I.list q
    exact PySem.W.sorted_data (enc := Prod.snd) pl.isList (each_vd rv rr) (each_reads I f rv rr hcl) (by rw [zip_snd rr]; exact all_alike c1) (by rw [zip_snd rr]; exact sortable_of c2) (by rw [zlen, ← hb]; exact c4) hu' (fin its rv)
  · obtain ⟨its, rv, pl, hz⟩ := I.tuple q
    exact sorted_tup (enc := Prod.snd) (show s.heap.IsTuple a its.toArray from pl) (each_vd rv rr) (each_reads I f rv rr hcl) (by rw [zip_snd rr]; exact all_alike c1) (by rw [zip_snd rr]; exact sortable_of c2) (by rw [zlen, ← hb]; exact c4) hu' (fin its rv)
end
end Ev
end
section
set_option Elab.async false
set_option linter.all false
set_option maxRecDepth 100000
set_option autoImplicit false
namespace Ev
open PySem L2 PySem.Spec PyProof.Rows
section
variable {G : Gx} {W : WX} {R F H F' H' : Hp} {ρ ρ' : Fr} {σ : L2.St} {X : Cx} {K : Fg} {Q : VK} {O : Orc}
variable {e a b : Expr} {es : List Expr} {pos : Pos} {ea eb : Ev1} {ees : Fr → Out (List D)} {et : Fr → Out Bool}
theorem fresh_setv {i : Nat} {d : D} {w : Option V} {c : Addr} (h : Fresh G ρ σ c) : Fresh G (ρ.set i (.v d)) (σ.set i w) c := ⟨fun j o => by
  rcases ownAt_set o with ⟨_, ⟨_, z⟩, _⟩ | ⟨_, o⟩
  · cases z
  · exact h.1 j o, h.2⟩
theorem fresh_setol {i : Nat} {xs : List D} {a c : Addr} (h : Fresh G ρ σ c) (ne : c ≠ a) : Fresh G (ρ.set i (.ol xs)) (σ.set i (some (.ref a))) c := ⟨fun j o => by
  rcases ownAt_set o with ⟨_, _, z⟩ | ⟨_, o⟩
  · cases z
    exact ne rfl
  · exact h.1 j o, h.2⟩
/-- a result stored under a name; another result that waits stays what it is -/
theorem store1 {i : Nat} {own : Bool} {r : Rs} {v : V} (m : Mt G R F ρ σ H) (ok : RsOk G σ R F H ρ r v) (h : asgR (.nm i) own r ρ = some ρ') :
    ∃ F', Ef R F F' ∧ Mt G R F' ρ' (σ.set i (some v)) H ∧ ∀ q u, RsOk G σ (hl R H r v) F H ρ q u → (∀ j, q ≠ .pl j) → RsOk G (σ.set i (some v)) R F' H ρ' q u := by
  cases r with
  | pl j => cases own <;> cases h
  | v d =>
    have h : ρ.put i (.v d) = some ρ' := by cases own <;> exact h
    obtain ⟨h1, rfl⟩ := put_of h
    refine ⟨F, .refl, m.setv h1 ok, fun q u oq nq => ?_⟩
    cases q with
    | v z => exact oq
    | pl j => exact absurd rfl (nq j)
    | l ys =>
      obtain ⟨c, us, rfl, hR, hF, hH, hx, fr⟩ := oq
      exact ⟨c, us, rfl, hR, hF, hH, hx, fresh_setv fr⟩
  | l xs =>
    have ok0 : RsOk G σ R F H ρ (.l xs) v := ok
    obtain ⟨c, us, rfl, hR, hF, hH, hx, fr⟩ := ok
    have ne : ∀ {q : List D} {u : V}, RsOk G σ (hl R H (.l xs) (.ref c)) F H ρ (.l q) u → ∀ c2, u = .ref c2 → c2 ≠ c := fun {q u} oq c2 e z => by
      obtain ⟨c3, us3, e3, hR3, _⟩ := oq
      have e1 : hl R H (.l xs) (.ref c) = upd R c (.lst us) := by
        simp only [hl, hH]
      rw [e1] at hR3
      rw [e] at e3
      cases e3
      rw [z, upd_same] at hR3
      cases hR3
    cases own with
    | true =>
      have h : ρ.put i (.ol xs) = some ρ' := h
      obtain ⟨h1, rfl⟩ := put_of h
      refine ⟨F, .refl, m.setol h1 hF hR hH hx fr, fun q u oq nq => ?_⟩
      cases q with
      | v z => exact oq
      | pl j => exact absurd rfl (nq j)
      | l ys =>
        have n := ne oq
        have low := oq.low ok0
        obtain ⟨c2, us2, rfl, hR2, hF2, hH2, hx2, fr2⟩ := low
        exact ⟨c2, us2, rfl, hR2, hF2, hH2, hx2, fresh_setol fr2 (n c2 rfl)⟩
    | false =>
      have h : ρ.put i (.v (.list xs)) = some ρ' := h
      obtain ⟨h1, rfl⟩ := put_of h
      have ef := ef_frz (o := .lst us) hF hR
      refine ⟨upd F c (.lst us), ef, (m.frz hF hR hH fr).setv h1 (.lst upd_same (hx.mono ef.ff)), fun q u oq nq => ?_⟩
      cases q with
      | v z => exact Rp.mono ef.ff oq
      | pl j => exact absurd rfl (nq j)
      | l ys =>
        have n := ne oq
        have low := oq.low ok0
        obtain ⟨c2, us2, rfl, hR2, hF2, hH2, hx2, fr2⟩ := low
        exact ⟨c2, us2, rfl, hR2, by rw [upd_ne (n c2 rfl)]; exact hF2, hH2, hx2.mono ef.ff, fresh_setv fr2⟩
/-- x, y = a, b -/
theorem s_par {st : Stmt} {i j : Nat} {o p : Bool} (h : PS X st (tPar i j (tAr G W (consR ea (consR eb fun ρ => .ok [] ρ))))) : PS X st (tS G W (parS (.nm i) (.nm j) o p ea eb)) := h.weak fun D σ H h => by
  obtain ⟨R, F, ρ, m, h⟩ := h
  refine ⟨R, F, ρ, m, ?_⟩
  have h : AfS G W R F ((ea ρ).toS fun x ρ1 => match x with
    | .pl _ => .stk
    | _ => (eb ρ1).toS fun y ρ2 => match asgR (.nm i) o x ρ2 with
      | some ρ3 => putO (asgR (.nm j) p y ρ3)
      | none => .stk) D := h
  show Af G W σ R F _ ((ea ρ).bind fun x ρ1 => ((eb ρ1).bind fun y ρ2 => Out.ok [y] ρ2).bind fun ds ρ2 => .ok (x :: ds) ρ2) _
  cases e1 : ea ρ with
  | stk =>
    rw [e1] at h
    exact h
  | ex x ρ1 =>
    rw [e1] at h
    exact fun F' H' c d ef m' hx => h F' H' σ c d ef m' hx
  | ok x ρ1 =>
    rw [e1] at h
    have key : (∀ k, x ≠ .pl k) → AfS G W R F ((eb ρ1).toS fun y ρ2 => match asgR (.nm i) o x ρ2 with
        | some ρ3 => putO (asgR (.nm j) p y ρ3)
        | none => .stk) D → Af G W σ R F (fun R F H ρ rs vs => Pend G σ F H ρ R rs vs) (((eb ρ1).bind fun y ρ2 => Out.ok [y] ρ2).bind fun ds ρ2 => .ok (x :: ds) ρ2) fun vs H1 => ∃ v w, vs = [v, w] ∧ D.nx ((σ.set i (some v)).set j (some w)) H1 := by
      clear h
      intro nx h
      cases e2 : eb ρ1 with
      | stk =>
        rw [e2] at h
        exact h
      | ex z ρ2 =>
        rw [e2] at h
        exact fun F' H' c d ef m' hx => h F' H' σ c d ef m' hx
      | ok y ρ2 =>
        rw [e2] at h
        intro F' H' vs ef m' pe
        have h : AfS G W R F (match asgR (.nm i) o x ρ2 with
          | some ρ3 => putO (asgR (.nm j) p y ρ3)
          | none => .stk) D := h
        match vs, pe with
        | [v, u], pe =>
          obtain ⟨ok1, ok2, _⟩ := pe
          refine ⟨v, u, rfl, ?_⟩
          cases a1 : asgR (.nm i) o x ρ2 with
          | none =>
            rw [a1] at h
            exact h.elim
          | some ρ3 =>
            rw [a1] at h
            have h : AfS G W R F (putO (asgR (.nm j) p y ρ3)) D := h
            obtain ⟨F1, ef1, m1, keep⟩ := store1 m' ok1 a1
            have h := AfS.ef (AfS.ef h ef) ef1
            have ny : ∀ k, y ≠ .pl k := fun k e => by
              subst e
              cases p <;> exact h
            exact tgR_name m1 (keep y u ok2 ny) h

    cases x with
    | pl k => exact h.elim
    | v d => exact key (fun k e => by cases e) h
    | l xs => exact key (fun k e => by cases e) h
/-- x = a if c else x -/
theorem s_keep {st : Stmt} {i : Nat} {o : Bool} {te : TE} (hv : ∀ σ H Q, te σ H Q = tIf (tT G W et) (tE G W ea) (tVar i) σ H Q) (h : PS X st (tAsg te (gName i))) : PS X st (tS G W (keepS i o et ea)) := h.weak fun D σ H h => by
  show te σ H fun x H1 => gName i x σ H1 D.nx
  rw [hv]
  refine tX.mono (tX.toS (ok := fun _ _ _ _ _ (a b : Bool) => a = b) h) fun c H1 ⟨R, F, ρ, c', m, oc, h⟩ => ?_
  subst oc
  cases c' with
  | true =>
    have h : AfS G W R F ((ea ρ).toS fun r ρ2 => putO (asgR (.nm i) o r ρ2)) D := h
    exact tX.mono (tX.toS (ok := RsOk G) ⟨R, F, ρ, m, h⟩) fun v H1 ⟨R, F, ρ, r, m, ok, h⟩ => tgR_name m ok h
  | false =>
    have h : AfS G W R F (match ρ.get i with | .ol _ => .nx ρ | .v _ => .nx ρ | _ => .stk) D := h
    have same : ∀ v, σ[i]? = some (some v) → σ.set i (some v) = σ := fun v e => by
      apply List.ext_getElem?
      intro j
      by_cases hj : i = j
      · subst hj
        rw [List.getElem?_set_self (List.getElem?_eq_some_iff.mp e).1, e]
      · rw [List.getElem?_set_ne hj]
    cases hg : ρ.get i with
    | no =>
      rw [hg] at h
      exact h.elim
    | ex x =>
      rw [hg] at h
      exact h.elim
    | v d =>
      rw [hg] at h
      obtain ⟨v, h1, _⟩ := m.me.at_ i _ (get_v hg)
      refine ⟨v, h1, ?_⟩
      show D.nx (σ.set i (some v)) H1
      rw [same v h1]
      exact AfS.next m h
    | ol xs =>
      rw [hg] at h
      obtain ⟨p, vs, h1, _⟩ := m.me.at_ i _ (get_ol hg)
      refine ⟨_, h1, ?_⟩
      show D.nx (σ.set i (some (.ref p))) H1
      rw [same _ h1]
      exact AfS.next m h
/-- xs[i] = e -/
theorem s_setI {i : Nat} {x : Str} {p2 p3 : Pos} {ix : Expr} {ei : Ev1} (he : PE X e (tE G W ea)) (hx : PE X (.Name x p2) (tVar i)) (hi : PE X ix (tE G W ei)) (hs : swapsWithSole [.Subscript (.Name x p2) ix p3] e pos.line X.env = pure false)
    (hw : swappedStores [.Subscript (.Name x p2) ix p3] e X.env = pure none) (h1 : (assignEach [.Subscript (.Name x p2) ix p3] X.env).map (·.2) = [assign (.Subscript (.Name x p2) ix p3) X.env])
    (ha : ∀ v, assign (.Subscript (.Name x p2) ix p3) X.env v = (do
      let ov ← holding [v] (eval (.Name x p2) X.env)
      let iv ← holding [v, ov] (eval ix X.env)
      standAt p3
      holding [v, ov, iv] (setItem ov iv v)
      release [v, ov, iv] [])) : PS X (.Assign [.Subscript (.Name x p2) ix p3] e pos) (tS G W (setIS i ei ea)) := (ps_asg he (pg_sub hx hi set_list ha) hs hw h1).weak fun D σ H h => by
  refine tX.mono (tX.toS (ok := RsOk G) h) fun v H1 ⟨R, F, ρ, r, m, ok, h⟩ => ?_
  cases r with
  | pl j => exact h.elim
  | l xs => exact h.elim
  | v d =>
    have rp : Rp G.K F v d := ok
    cases hg : ρ.get i with
    | no =>
      simp only [hg, isOl] at h
      exact h.elim
    | ex x =>
      simp only [hg, isOl] at h
      exact h.elim
    | v d =>
      simp only [hg, isOl] at h
      exact h.elim
    | ol xs0 =>
      simp only [hg, isOl] at h
      obtain ⟨c, vs0, hσ, _⟩ := m.me.at_ i _ (get_ol hg)
      refine ⟨_, hσ, ?_⟩
      refine tX.nextS (r := .v d) (ok := RsOk G) m rp h _ fun F2 H2 ρ2 k w m2 rp2 ok2 h2 => ?_
      have rp2 : Rp G.K F2 v d := rp2
      cases k with
      | pl j => exact h2.elim
      | l xs => exact h2.elim
      | v z =>
        cases z with
        | int n =>
          cases hg2 : ρ2.get i with
          | ol xs =>
            simp only [hg2] at h2
            cases hj : ixOf xs.length n with
            | none =>
              rw [hj] at h2
              exact h2.elim
            | some j =>
              rw [hj] at h2
              obtain ⟨c2, vs, hσ2, q2, q3, q4, q5⟩ := m2.me.at_ i _ (get_ol hg2)
              rw [hσ] at hσ2
              cases hσ2
              have ew : w = .int n := by
                cases ok2
                rfl
              refine ⟨c, vs, n, j, rfl, ew, q4, by rw [q5.len]; exact hj, ?_⟩
              exact AfS.next (m2.write (vs := vs) hg2 hσ (q5.set rp2 j)) h2
          | no =>
            simp only [hg2] at h2
            exact h2.elim
          | v _ =>
            simp only [hg2] at h2
            exact h2.elim
          | ex _ =>
            simp only [hg2] at h2
            exact h2.elim
        | _ => exact h2.elim
/-- x += e, x -= e -/
theorem s_aug {st : Stmt} {i : Nat} {o : BOp} {op : Int → Int → Int} (ho : ∀ c d z, augF o c d = some z → ∃ m n, c = .int m ∧ d = .int n ∧ z = .int (op m n)) (h : PS X st (tAug i (tE G W ea) (ipI op))) : PS X st (tS G W (augS i o ea)) := h.weak fun D σ H h => by
  obtain ⟨R, F, ρ, m, h⟩ := h
  unfold augS at h
  cases hg : ρ.get i with
  | no =>
    simp only [hg, isV] at h
    exact h.elim
  | ex x =>
    simp only [hg, isV] at h
    exact h.elim
  | ol xs =>
    simp only [hg, isV] at h
    exact h.elim
  | v c0 =>
    simp only [hg, isV] at h
    obtain ⟨x, hσ, _⟩ := m.me.at_ i _ (get_v hg)
    refine ⟨x, hσ, ?_⟩
    refine tX.mono (tX.toS (ok := RsOk G) ⟨R, F, ρ, m, h⟩) fun v H1 ⟨R, F, ρ, r, m, ok, h⟩ => ?_
    cases r with
    | pl j => exact h.elim
    | l xs => exact h.elim
    | v d =>
      cases hg2 : ρ.get i with
      | v c =>
        simp only [hg2] at h
        cases ha : augF o c d with
        | none =>
          rw [ha] at h
          exact h.elim
        | some z =>
          rw [ha] at h
          obtain ⟨k, n, rfl, rfl, rfl⟩ := ho c d z ha
          obtain ⟨y, hσ2, q⟩ := m.me.at_ i _ (get_v hg2)
          rw [hσ] at hσ2
          cases hσ2
          cases q
          cases ok
          refine ⟨k, n, rfl, rfl, ?_⟩
          have h : AfS G W R F (putO (ρ.put i (.v (.int (op k n))))) D := h
          cases hp : ρ.put i (.v (.int (op k n))) with
          | none =>
            rw [hp] at h
            exact h.elim
          | some ρ' =>
            rw [hp] at h
            obtain ⟨h1, rfl⟩ := put_of hp
            exact AfS.next (m.setv h1 (.int _)) h
      | no =>
        simp only [hg2] at h
        exact h.elim
      | ol _ =>
        simp only [hg2] at h
        exact h.elim
      | ex _ =>
        simp only [hg2] at h
        exact h.elim
theorem aug_add (c d z : Ev.D) (h : augF .add c d = some z) : ∃ m n, c = .int m ∧ d = .int n ∧ z = .int (m + n) := by
  cases c <;> cases d <;> cases h <;> exact ⟨_, _, rfl, rfl, rfl⟩
theorem aug_sub (c d z : Ev.D) (h : augF .sub c d = some z) : ∃ m n, c = .int m ∧ d = .int n ∧ z = .int (m - n) := by
  cases c <;> cases d <;> cases h <;> exact ⟨_, _, rfl, rfl, rfl⟩
/-- xs.append(e), xs.extend(e) -/
def mmName : MM → String
  | .append => "append" | .extend => "extend" | .remove => "remove"
theorem s_mutA {i : Nat} {x : Str} {p2 apos cpos : Pos} (hK : X.K = G.K) (hx : PE X (.Name x p2) (tVar i)) (he : PE X e (tE G W ea)) (hsw : swapsWith (.Call (.Attribute (.Name x p2) "append" apos) [e] [] cpos) none pos.line X.env = pure false)
    (hbase : attributeBase (.Name x p2) "append" X.env (eval (.Name x p2) X.env) = eval (.Name x p2) X.env)
    (hfew : ((backTo cpos (starEach [e] X.env)).all (fun x => !x.1) && (backToKw cpos (keywordEach [] X.env)).all (fun x => x.1.isSome)
      && decide ([e].length + ([] : List Keyword).length + (if ([] : List Keyword).isEmpty then 0 else 1) < 30)) = true)
    (hline : (apos.endLine == cpos.line) = true) (hs : starEach [e] X.env = (false, eval e X.env) :: starEach [] X.env) :
    PS X (.Expr (.Call (.Attribute (.Name x p2) "append" apos) [e] [] cpos) pos) (tS G W (mutS .append i ea)) :=
  (ps_expr (pe_bm PySem.F.plainAttrs_list PySem.F.slot_list_append PySem.F.type_list_append mt_append hx (pa_cons he pa_nil hs) hbase hfew hline hs rfl) hsw).weak fun D σ H h => by
  obtain ⟨R, F, ρ, m, h⟩ := h
  unfold mutS at h
  cases hg : ρ.get i with
  | no =>
    simp only [hg, isOl] at h
    exact h.elim
  | ex x =>
    simp only [hg, isOl] at h
    exact h.elim
  | v d =>
    simp only [hg, isOl] at h
    exact h.elim
  | ol xs0 =>
    simp only [hg, isOl] at h
    obtain ⟨c, vs0, hσ, _, _, h40, _⟩ := m.me.at_ i _ (get_ol hg)
    refine ⟨_, hσ, .inl ⟨rfl, vs0, SqL.of h40⟩, ?_⟩
    refine tX.mono (tX.toS (ok := RsOk G) ⟨R, F, ρ, m, h⟩) fun v H1 ⟨R, F, ρ, r, m, ok, h⟩ => ?_
    show ∃ l xs y, V.ref c = .ref l ∧ [v] = [y] ∧ _
    cases hg2 : ρ.get i with
    | ol xs =>
      simp only [hg2] at h
      obtain ⟨c2, vs, hσ2, q2, q3, q4, q5⟩ := m.me.at_ i _ (get_ol hg2)
      rw [hσ] at hσ2
      cases hσ2
      have h : AfS G W R F (match (match r.fz with | some d => if xs.length < big then some (xs ++ [d]) else none | none => none) with | some ys => .nx (ρ.set i (.ol ys)) | none => .stk) D := h
      cases hz : r.fz with
      | none =>
        rw [hz] at h
        exact h.elim
      | some d =>
        rw [hz] at h
        have h : AfS G W R F (match (if xs.length < big then some (xs ++ [d]) else none) with | some ys => .nx (ρ.set i (.ol ys)) | none => .stk) D := h
        by_cases hl : xs.length < big
        · rw [if_pos hl] at h
          obtain ⟨F1, ef, m1, rp⟩ := fz1 m ok hz
          have hb : big = sizeLine := by rw [sizeLine_eq]; decide
          refine ⟨c, vs, v, rfl, rfl, q4, by rw [q5.len, ← hb]; exact hl, ?_⟩
          exact AfS.next (m1.write (vs := vs) hg2 hσ ((q5.mono ef.ff).app (.cons rp .nil))) (AfS.ef h ef)
        · rw [if_neg hl] at h
          exact h.elim
    | no =>
      simp only [hg2] at h
      exact h.elim
    | v _ =>
      simp only [hg2] at h
      exact h.elim
    | ex _ =>
      simp only [hg2] at h
      exact h.elim
theorem s_mutX {i : Nat} {x : Str} {p2 apos cpos : Pos} (hK : X.K = G.K) (hx : PE X (.Name x p2) (tVar i)) (he : PE X e (tE G W ea)) (hsw : swapsWith (.Call (.Attribute (.Name x p2) "extend" apos) [e] [] cpos) none pos.line X.env = pure false)
    (hbase : attributeBase (.Name x p2) "extend" X.env (eval (.Name x p2) X.env) = eval (.Name x p2) X.env)
    (hfew : ((backTo cpos (starEach [e] X.env)).all (fun x => !x.1) && (backToKw cpos (keywordEach [] X.env)).all (fun x => x.1.isSome)
      && decide ([e].length + ([] : List Keyword).length + (if ([] : List Keyword).isEmpty then 0 else 1) < 30)) = true)
    (hline : (apos.endLine == cpos.line) = true) (hs : starEach [e] X.env = (false, eval e X.env) :: starEach [] X.env) :
    PS X (.Expr (.Call (.Attribute (.Name x p2) "extend" apos) [e] [] cpos) pos) (tS G W (mutS .extend i ea)) :=
  (ps_expr (pe_bm PySem.F.plainAttrs_list PySem.F.slot_list_extend PySem.F.type_list_extend mt_extend hx (pa_cons he pa_nil hs) hbase hfew hline hs rfl) hsw).weak fun D σ H h => by
  obtain ⟨R, F, ρ, m, h⟩ := h
  unfold mutS at h
  cases hg : ρ.get i with
  | no =>
    simp only [hg, isOl] at h
    exact h.elim
  | ex x =>
    simp only [hg, isOl] at h
    exact h.elim
  | v d =>
    simp only [hg, isOl] at h
    exact h.elim
  | ol xs0 =>
    simp only [hg, isOl] at h
    obtain ⟨c, vs0, hσ, _, _, h40, _⟩ := m.me.at_ i _ (get_ol hg)
    refine ⟨_, hσ, .inl ⟨rfl, vs0, SqL.of h40⟩, ?_⟩
    refine tX.mono (tX.toS (ok := RsOk G) ⟨R, F, ρ, m, h⟩) fun v H1 ⟨R, F, ρ, r, m, ok, h⟩ => ?_
    show ∃ l b xs zs, V.ref c = .ref l ∧ [v] = [.ref b] ∧ _
    cases hg2 : ρ.get i with
    | ol xs =>
      simp only [hg2] at h
      obtain ⟨c2, vs, hσ2, q2, q3, q4, q5⟩ := m.me.at_ i _ (get_ol hg2)
      rw [hσ] at hσ2
      cases hσ2
      cases r with
      | pl j => exact h.elim
      | v d => exact h.elim
      | l ys =>
        have h : AfS G W R F (match (if xs.length + ys.length ≤ big then some (xs ++ ys) else none) with | some ys => .nx (ρ.set i (.ol ys)) | none => .stk) D := h
        by_cases hl : xs.length + ys.length ≤ big
        · rw [if_pos hl] at h
          obtain ⟨b, us, rfl, hR, hF, hH, hx2, fr⟩ := ok
          have hb : big = sizeLine := by rw [sizeLine_eq]; decide
          exact ⟨c, b, vs, us, rfl, rfl, q4, hH, by rw [q5.len, hx2.len, ← hb]; exact hl, AfS.next (m.write (vs := vs) hg2 hσ (q5.app hx2)) h⟩
        · rw [if_neg hl] at h
          exact h.elim
    | no =>
      simp only [hg2] at h
      exact h.elim
    | v _ =>
      simp only [hg2] at h
      exact h.elim
    | ex _ =>
      simp only [hg2] at h
      exact h.elim
end
end Ev
end
section
set_option Elab.async false
set_option linter.all false
set_option maxRecDepth 100000
set_option autoImplicit false
namespace Ev
open PySem L2 PySem.Spec PyProof.Rows
section
variable {G : Gx} {W : WX} {R F H F' H' : Hp} {ρ ρ' : Fr} {σ : L2.St} {X : Cx} {K : Fg} {Q : VK} {O : Orc}
variable {e a b : Expr} {es : List Expr} {pos : Pos} {ea eb : Ev1} {ees : Fr → Out (List D)} {et : Fr → Out Bool}
/-! #### raise -/
/-- X(), an own class of exceptions -/
theorem pmk_z {C : Addr} {bmB : List Value} {B newId initId : String} {x : Str} {p : Pos} (FB : ExcBaseFacts B newId initId bmB) (q : PySem.W.excIn X.K C bmB newId = true) (gC : X.mg x = some (.ref C)) (kC : PySem.W.keepIn X.K (.ref C) = true) (r : Raises X (.ref C)) (hg : Gl X x)
    (hdb : (x == ("__debug__" : Str)) = false) : PMk X (.Call (.Name x p) [] [] pos) (fun _ H Q => Q (.ref C) none H) := by
  intro pins s σ H Q I h
  refine wpAny_Call_Name_kw (ld_glob I hg gC ?_ hdb)
  refine PySem.W.callWith_K0 I.kIn kC ?_
  obtain ⟨bm, N, nm, qn, bs, hdct, sn, sub, ab, col, dd, k0, k1, k2, k3, k5, mN, hC, hN, hni, T⟩ := exc_obj I.kIn q
  refine wpAny_call_exc_subT FB T hC hN hni (fun h' e hm => ?_) (Nat.zero_le _)
  exact mk_of I hm r h (I.hok.gone hm.new)
theorem s_raise {C : Addr} {c : Nat} {bmB : List Value} {B newId initId : String} {x : Str} {p cp : Pos} (hc : X.calm = true) (tk : Takes X W) (hC : G.C c = .ref C) (FB : ExcBaseFacts B newId initId bmB) (q : PySem.W.excIn X.K C bmB newId = true) (gC : X.mg x = some (.ref C)) (kC : PySem.W.keepIn X.K (.ref C) = true)
    (r : Raises X (.ref C)) (hg : Gl X x) (hdb : (x == ("__debug__" : Str)) = false) : PS X (.Raise (some (.Call (.Name x p) [] [] cp)) none pos) (tS G W fun ρ => .ex ⟨c, none⟩ ρ) :=
  (ps_raise hc tk (pmk_z FB q gC kC r hg hdb)).weak fun D σ H h => by
  obtain ⟨R, F, ρ, m, h⟩ := h
  exact h F H σ _ _ .refl m ⟨hC.symm, rfl⟩
/-! #### try -/
def hdsT (G : Gx) (O : Orc) : S → List (Value × (Addr → Value → Option Addr → TS))
  | .hcons c none b r => (G.C c, fun _ _ _ => tS G Wn (evS O b)) :: hdsT G O r
  | _ => []
/-- handlers without a name -/
def plainH : S → Bool
  | .hnil => true
  | .hcons _ none _ r => plainH r
  | _ => false
theorem wMany_of {D : Ends} {x : Exn} {cls : Value} {d : Option Addr} (hx : ∀ i c, PySem.W.exmOne X.K (G.C i) (G.C c) = some (O.exi i c)) : ∀ {hs : S}, plainH hs = true → Mt G R F ρ σ H → XOk G.C x cls d H → AfS G W R F (evH O hs x ρ) D → wMany X.K W D (hdsT G O hs) cls d σ H
  | .hnil, _, m, ox, h => h F H σ cls d .refl m ox
  | .hcons c none b r, hp, m, ox, h => by
    have h : AfS G W R F (if O.exi x.cls c then (match evS O b ρ with | .nx ρ2 => .nx ρ2 | .rt q ρ2 => .rt q ρ2 | _ => .stk) else evH O r x ρ) D := h
    refine ⟨O.exi x.cls c, by rw [ox.1]; exact hx _ _, fun hb a _ => ?_, fun hb => ?_⟩
    · rw [if_pos hb] at h
      refine ⟨R, F, ρ, m, ?_⟩
      cases e : evS O b ρ with
      | nx ρ2 =>
        rw [e] at h
        exact h
      | rt q ρ2 =>
        rw [e] at h
        exact h
      | bk ρ2 =>
        rw [e] at h
        exact h.elim
      | ex x ρ2 =>
        rw [e] at h
        exact h.elim
      | stk =>
        rw [e] at h
        exact h.elim
    · rw [if_neg (by rw [hb]; decide)] at h
      exact wMany_of hx (show plainH r = true from hp) m ox h
  | .hcons _ (some _) _ _, hp, _, _, _ => by cases hp
  | .skip, hp, _, _, _ => by cases hp
  | .seq _ _, hp, _, _, _ => by cases hp
  | .asg _ _ _, hp, _, _, _ => by cases hp
  | .keepIf _ _ _ _, hp, _, _, _ => by cases hp
  | .par _ _ _ _ _ _, hp, _, _, _ => by cases hp
  | .setI _ _ _, hp, _, _, _ => by cases hp
  | .aug _ _ _, hp, _, _, _ => by cases hp
  | .augI _ _ _ _, hp, _, _, _ => by cases hp
  | .ex _, hp, _, _, _ => by cases hp
  | .mut _ _ _, hp, _, _, _ => by cases hp
  | .ins _ _ _, hp, _, _, _ => by cases hp
  | .ite _ _ _, hp, _, _, _ => by cases hp
  | .fori _ _ _, hp, _, _, _ => by cases hp
  | .whl _ _, hp, _, _, _ => by cases hp
  | .brk, hp, _, _, _ => by cases hp
  | .ret _ _, hp, _, _, _ => by cases hp
  | .retN, hp, _, _, _ => by cases hp
  | .raise _, hp, _, _, _ => by cases hp
  | .raise1 _ _, hp, _, _, _ => by cases hp
  | .tryS _ _, hp, _, _, _ => by cases hp
  | .forget _, hp, _, _, _ => by cases hp
theorem s_try {body : List Stmt} {h₀ : ExceptHandler} {hds : List ExceptHandler} {b hs : S} (hx : ∀ i c, PySem.W.exmOne X.K (G.C i) (G.C c) = some (O.exi i c)) (hst : X.stack = X.env :: X.outer) (hf : X.env.frame = some X.env.locals) (tk : Takes X W)
    (hb : ∀ (W : WX) (pn : List (Addr × Obj)) (xe : Value → Shared → Prop), Takes (X.tr pn xe) W → PassesOwn (model X.prog X.w) X.A X.env xe → PSs (X.tr pn xe) body (tS G W (evS O b)))
    (hp : plainH hs = true) (hh : HdsOk X (h₀ :: hds) (hdsT G O hs)) : PS X (.Try body (h₀ :: hds) [] [] pos) (tS G W (evS O (.tryS b hs))) := (ps_try_many hst hf tk hb hh).weak fun D σ H h => by
  obtain ⟨R, F, ρ, m, h⟩ := h
  refine ⟨R, F, ρ, m, ?_⟩
  have h : AfS G W R F (match evS O b ρ with | .ex x ρ1 => evH O hs x ρ1 | o => o) D := h
  cases e : evS O b ρ with
  | nx ρ2 =>
    rw [e] at h
    exact h
  | rt q ρ2 =>
    rw [e] at h
    exact h
  | bk ρ2 =>
    rw [e] at h
    exact h
  | stk =>
    rw [e] at h
    exact h
  | ex x ρ2 =>
    rw [e] at h
    exact fun F' H' σ' cls d ef m' ox => wMany_of hx hp m' ox (AfS.ef h ef)
/-- what is no longer looked at -/
theorem s_forget {st : Stmt} {s1 : EvS} {l : List Nat} (h : PS X st (tS G W s1)) : PS X st (tS G W fun ρ => (s1 ρ).bind fun ρ1 => .nx (ρ1.wipe l)) := h.weak fun D σ H h => by
  obtain ⟨R, F, ρ, m, h⟩ := h
  refine ⟨R, F, ρ, m, ?_⟩
  have h : AfS G W R F ((s1 ρ).bind fun ρ1 => .nx (ρ1.wipe l)) D := h
  cases e : s1 ρ with
  | nx ρ2 =>
    rw [e] at h
    exact fun F' H' σ' ef m' => h F' H' σ' ef m'.wipe
  | rt q ρ2 =>
    rw [e] at h
    exact h
  | bk ρ2 =>
    rw [e] at h
    exact h
  | stk =>
    rw [e] at h
    exact h
  | ex x ρ2 =>
    rw [e] at h
    exact h
/-! #### list(range(..)) -/
theorem rg_of {vs : Int × Int} : True := trivial
theorem rg_rps : ∀ (lo hi : Int), Rps K F (rgV lo hi) (rangeD lo hi) := fun lo hi => by
  unfold rgV rangeD
  induction List.range (hi - lo).toNat with
  | nil => exact .nil
  | cons x xs ih => exact .cons (.int _) ih
theorem rg_ok {m n : Int} (h : (rngOk m && rngOk n) = true) : RgOk m n := by
  unfold rngOk at h
  simp only [Bool.and_eq_true, decide_eq_true_eq] at h
  unfold RgOk
  omega
theorem snd_lrg1 {p p2 rp : Pos} (hc : X.calm = true) (hg : Gl X "list") (hm : X.mg "list" = none) (hg2 : Gl X "range") (hm2 : X.mg "range" = none) (ha : PE X a (tE G W ea)) (na : starEach [a] X.env = (false, eval a X.env) :: starEach [] X.env)
    (nb : starEach [.Call (.Name "range" p2) [a] [] rp] X.env = (false, eval (.Call (.Name "range" p2) [a] [] rp) X.env) :: starEach [] X.env) : PE X (.Call (.Name "list" p) [.Call (.Name "range" p2) [a] [] rp] [] pos) (tE G W (lrg1F ea)) :=
  (pe_listRg hc hg hm (prg_1 hg2 hm2 ha na) nb).weak fun σ H Q q => by
  refine tX.mono (tX.bind (ok := RsOk G) q) fun v H1 ⟨R, F, ρ, r, m, o, h⟩ => ?_
  cases r with
  | v d =>
    cases d with
    | int n =>
      cases o
      by_cases hz : rngOk n = true
      · simp only [hz, if_true] at h
        exact ⟨n, rfl, rg_ok (by rw [hz]; decide), fun q hq => Af.own m h hq (rg_rps 0 n)⟩
      · simp only [hz] at h
        exact h.elim
    | _ => exact h.elim
  | _ => exact h.elim
theorem snd_lrg {p p2 rp : Pos} (hc : X.calm = true) (hg : Gl X "list") (hm : X.mg "list" = none) (hg2 : Gl X "range") (hm2 : X.mg "range" = none) (ha : PE X a (tE G W ea)) (hb : PE X b (tE G W eb)) (na : starEach [a, b] X.env = (false, eval a X.env) :: starEach [b] X.env) (nb : starEach [b] X.env = (false, eval b X.env) :: starEach [] X.env)
    (nc : starEach [.Call (.Name "range" p2) [a, b] [] rp] X.env = (false, eval (.Call (.Name "range" p2) [a, b] [] rp) X.env) :: starEach [] X.env) : PE X (.Call (.Name "list" p) [.Call (.Name "range" p2) [a, b] [] rp] [] pos) (tE G W (lrgF ea eb)) :=
  (pe_listRg hc hg hm (prg_2 hg2 hm2 ha hb na nb (by rw [nb]; rfl)) nc).weak fun σ H Q q => by
  refine tX.mono (tE.two q) fun v H1 h1 => tX.mono h1 fun u H2 ⟨R, F, ρ, r, r2, m, o, o2, h⟩ => ?_
  cases r with
  | v d =>
    cases d with
    | int i =>
      cases o
      cases r2 with
      | v d2 =>
        cases d2 with
        | int n =>
          cases o2
          have h : Af G W σ R F (RsOk G σ) (if rngOk i && rngOk n then .ok (.l (rangeD i n)) ρ else .stk) Q := h
          by_cases hz : (rngOk i && rngOk n) = true
          · rw [if_pos hz] at h
            exact ⟨i, n, rfl, rfl, rg_ok hz, fun q hq => Af.own m h hq (rg_rps i n)⟩
          · rw [if_neg hz] at h
            exact h.elim
        | _ => exact h.elim
      | _ => exact h.elim
    | _ => exact h.elim
  | _ => exact h.elim
end
end Ev
end
section
set_option Elab.async false
set_option linter.all false
set_option maxRecDepth 100000
set_option maxHeartbeats 1000000
set_option autoImplicit false
namespace Ev
open PySem L2 PySem.Spec PyProof.Rows LamX
section
variable {X : Cx} {pins : List (Addr × Obj)} {σ : L2.St} {H : Hp} {s : Shared}
/-- x(), x a parameter that holds a lambda; what is raised is wished for at the slots of the def that calls -/
theorem lam_act {CXg : CXT} {Eg : XK} {Ng : List Str} {qg : Str} {sg : Scope} {g f c' : Addr} {cdg pm ctv : Value} {params : Arguments} {body : Expr} {scope : Scope} {k i : Nat} {a : Str} {pn : List (Addr × Obj)} {xe : Value → Shared → Prop} {W : WX} {tb : XK → TE} {p1 p2 : Pos}
    (I : Inv X pins σ H s) (L : LamS X.env.scope scope) (hf : s.heap.get? f = some (PySem.W.kla_obj "<lambda>" (X.env.qual ++ "<lambda>") params body scope (cloFrom X.env.cells scope.names []) pm c' ctv)) (hfn : H f = none) (hfr : f ∉ frs X.stack)
    (hbind : ∀ (q : Str) (cl : List (Str × Addr)) (pm cv ctv : Value), bindArgs (PySem.W.kla_fn "<lambda>" q params body scope cl pm cv ctv) ⟨[], []⟩ = pure [])
    (tk : Takes ((cxOf CXg X.prog X.w X.K X.mg X.base Ng qg sg g cdg X.A X.stack s H Eg).tr pn xe) W) (hr : Room (k + 1) (X.A.deeper (envOfC qg sg s.heap.objs.size g cdg)))
    (hbody : ∀ (E : XK) (A : Around) (outer : List Env) (s2 : Shared) (H2 : Hp), Room k (A.deeper (lamEnv X scope s2.heap.objs.size f c')) → PE (lamCx X A outer s2 H2 E scope f c') body (tb E))
    (hN : Ng[i]? = some a) (hv : Vis sg a) (hd : (a == ("__debug__" : Str)) = false) (hcd : (a == ("__classdict__" : Str)) = false) :
    PE ((cxOf CXg X.prog X.w X.K X.mg X.base Ng qg sg g cdg X.A X.stack s H Eg).tr pn xe) (.Call (.Name a p1) [] [] p2)
      (fun σZ HZ Q => σZ[i]? = some (some (.ref f)) ∧ HZ c' = some (CodeO c' (X.env.qual ++ "<lambda>")) ∧ tb (fun cls d H' => W cls d σZ H') σ HZ Q) := by
  refine ⟨fun pz sz σz Hz Q Iz hyp => ?_⟩
  obtain ⟨slot, code, rd⟩ := hyp
  have nm := (pe_var (pos := p1) (i := i) hN hv hd hcd).run pz sz σz Hz (fun v H1 => v = V.ref f ∧ H1 = Hz) Iz ⟨V.ref f, slot, rfl, rfl⟩
  refine wpAny_Call_Name_kw (thn nm fun u t1 ⟨v, H1, I1, rel, ev, eH⟩ => ?_)
  subst ev
  subst eH
  obtain rfl : u = Value.ref f := rel
  have at1 : t1.heap.get? f = some (PySem.W.kla_obj "<lambda>" (X.env.qual ++ "<lambda>") params body scope (cloFrom X.env.cells scope.names []) pm c' ctv) := I1.base.keep f _ hf hfn hfr fun z => nomatch (show f ∈ ([] : List Addr) from z)
  refine PySem.W.callWith_F0 ⟨_, _, _, _, at1⟩ ?_
  have old : Un (frs X.stack) [] H H1 s.heap t1.heap := I1.base
  obtain ⟨⟨oc, cvs, ct, hoc, hdc, hvc⟩, -, -⟩ := I1.hok c' _ code
  have run : codeAny (model X.prog X.w) (X.A.deeper (envOfC qg sg s.heap.objs.size g cdg)) (.call (.ref f) ⟨[], []⟩)
      (CR (L2.CX X.prog X.w) (envOfC qg sg s.heap.objs.size g cdg :: X.stack) X.prog X.w H1 t1 Q (fun cls d H' => W cls d σz H')) t1 := by
    refine PySem.W.kla_callFunE hr.depth at1 rfl L.co L.gen rfl ⟨c', oc, cvs, ct, rfl, hoc, hdc, hvc⟩ ?_
    rw [hbind]
    refine wpAny_pure (wpAny_newFunctionEnv (fun y hy => (L.own y hy).2) (fun y hy => absurd hy (by simp)) (fun g1 ns1 sb1 => ⟨I1.nolimit.fresh _ sb1, ?_⟩) L.kind)
    show codeAny _ _ (.expr body (lamEnv X scope t1.heap.objs.size f c')) _ _
    have kept : ∀ b o, t1.heap.get? b = some o → g1.get? b = some o := fun b o e => sb1.extBut b o (Nat.ne_of_lt (Heap.lt_size e)) (Heap.get?_push_of_some _ e)
    have J := lam_start2 (f := f) (c' := c') (tk := t1.toks + ([] : List (Str × Value)).length) (E := fun cls d H' => W cls d σz H') I L I1.env0 hr.hd old ns1 kept
    refine PySem.W.kla_codeExpr (wpAny_mono ((hbody _ _ _ t1 H1 (hr.deeper _)).run [] _ σ H1 Q J rd) (fun v t2 hq => ?_) fun e t2 hq => hq)
    obtain ⟨w2, H2, J2, rv, q⟩ := hq
    exact ⟨w2, H2, J2.os, J2.bare, J2.base, J2.hok, rv, q⟩
  refine wpAny_call (codeAny_mono run fun r t2 hq => ?_)
  cases r with
  | error e => exact (passAt tk σz) pz H1 t1 e t2 I1 hq
  | ok fl =>
    cases fl with
    | ret u => exact I1.after hq
    | next => exact hq.elim
    | brk => exact hq.elim
    | cont => exact hq.elim
end
end Ev
end
section
set_option Elab.async false
set_option linter.all false
set_option maxRecDepth 100000
set_option maxHeartbeats 1000000
set_option autoImplicit false
namespace Ev
open PySem L2 PySem.Spec PyProof.Rows LamX
section
variable {G : Gx} {W : WX} {R F H F' H' : Hp} {ρ ρ' : Fr} {σ σz : L2.St} {X : Cx} {K : Fg} {Q : VK} {O : Orc}
/-- the context of a def that got a lambda: f the lambda's object, c its code object, σ the slots of the maker -/
def Gx.clo (G : Gx) (f c : Addr) (q : Str) (σ : L2.St) : Gx := { G.base with u := some (f, σ), io := some f, cd := [(c, CodeO c q)] }
theorem Ms.toG {G G' : Gx} {sl : List Sl} (m : Ms G R F sl σ H) (hK : G.K = G'.K) (he : G.e = none) : Ms G' R F sl σ H := by
  refine ⟨m.len, fun j s e => ?_, m.dj⟩
  have q := m.at_ j s e
  cases s with
  | no => trivial
  | v d =>
    obtain ⟨v, h1, h2⟩ := q
    exact ⟨v, h1, hK ▸ h2⟩
  | ol xs =>
    obtain ⟨b, vs, h1, h2, h3, h4, h5⟩ := q
    exact ⟨b, vs, h1, h2, h3, h4, hK ▸ h5⟩
  | ex x =>
    obtain ⟨a, cls, d, h1, _⟩ := q
    rw [he] at h1
    cases h1
def OwnA (ρ : Fr) (σ : L2.St) (a : Addr) : Prop := ∃ j, ownAt ρ.sl σ j a
theorem OwnA.is {a : Addr} (m : Mt G R F ρ σ H) (h : OwnA ρ σ a) : F a = none ∧ R a = none ∧ ∃ vs, H a = some (.lst vs) := by
  obtain ⟨j, o⟩ := h
  exact m.me.free o
/-- the lambda called -/
theorem callC_of {f c : Addr} {q : Str} {clo : Fr → Out Rs} (hO : ∀ e, O.clo e = clo) (h : tE (G.clo f c q σ) W (callCF O) σz H Q) :
    σz[0]? = some (some (.ref f)) ∧ H c = some (CodeO c q) ∧ tE G.base (fun cls d _ H' => W cls d σz H') clo σ H Q := by
  obtain ⟨R, F, ρ, m, h⟩ := h
  unfold callCF at h
  cases hio : ρ.io with
  | false =>
    rw [if_neg (by rw [hio]; decide)] at h
    exact h.elim
  | true =>
    rw [if_pos hio] at h
    obtain ⟨a, ha, hs⟩ := m.io hio
    have ha : some f = some a := ha
    cases ha
    refine ⟨hs, m.r _ _ (m.kn (c, CodeO c q) List.mem_cons_self), ?_⟩
    cases hup : ρ.up with
    | none =>
      rw [hup] at h
      exact h.elim
    | some p =>
      obtain ⟨u, b⟩ := p
      have h : Af (G.clo f c q σ) W σz R F (RsOk (G.clo f c q σ) σz) (match O.clo b { sl := u } with
        | .ok (.pl _) _ => .stk
        | .ok r ρ1 => .ok r { ρ with up := some (ρ1.sl, b) } | .ex x ρ1 => .ex x { ρ with up := some (ρ1.sl, b) } | .stk => .stk) Q := by
        rw [hup] at h
        exact h
      rw [hO] at h
      have mu := m.up
      rw [hup] at mu
      obtain ⟨mu, du⟩ : Ms (G.clo f c q σ) R F u σ H ∧ ∀ i j a, ownAt ρ.sl σz i a → ¬ ownAt u σ j a := mu
      have sR : Sub (Rw R (OwnA ρ σz) H) H := fun a o e => by
        by_cases z : OwnA ρ σz a
        · rw [Rw.pos z] at e
          exact e
        · rw [Rw.neg z] at e
          exact m.r _ _ e
      have nR : NoT (Rw R (OwnA ρ σz) H) := fun a ps e => by
        by_cases z : OwnA ρ σz a
        · rw [Rw.pos z] at e
          obtain ⟨_, _, vs, z2⟩ := z.is m
          rw [z2] at e
          cases e
        · rw [Rw.neg z] at e
          exact m.nr _ _ e
      have hR : ∀ a, OwnA ρ σz a → R a = none := fun a z => (z.is m).2.1
      have low : ∀ {a}, Rw R (OwnA ρ σz) H a = none → R a = none ∧ ¬ OwnA ρ σz a := fun {a} h => by
        by_cases z : OwnA ρ σz a
        · rw [Rw.pos z] at h
          obtain ⟨_, _, vs, z2⟩ := z.is m
          rw [z2] at h
          cases h
        · rw [Rw.neg z] at h
          exact ⟨h, z⟩
      have m2 : Mt G.base (Rw R (OwnA ρ σz) H) F { sl := u } σ H := ⟨sR, m.f, nR, m.nf, m.tab, (fun p hp => nomatch hp), (mu.hold2 fun j a o => by
        have n : ¬ OwnA ρ σz a := fun ⟨i, oi⟩ => du i j a oi o
        rw [Rw.neg n]
        exact (mu.free o).2.1).toG rfl rfl, (fun z => nomatch z), trivial⟩
      -- the frame that waits, behind the lambda
      have back : ∀ {F' H' ρ1}, Ef (Rw R (OwnA ρ σz) H) F F' → Mt G.base (Rw R (OwnA ρ σz) H) F' ρ1 σ H' → Ef R F F' ∧ Mt (G.clo f c q σ) R F' { ρ with up := some (ρ1.sl, b) } σz H' := fun {F' H' ρ1} ef m' => by
        refine ⟨ef.ofRw hR, m'.r.ofRw hR, m'.f, m.nr, m'.nf, m'.tab, m.kn, m.me.called (fun j a o => ⟨j, o⟩) m'.r ef rfl, m.io, ?_⟩
        show Ms (G.clo f c q σ) R F' ρ1.sl σ H' ∧ ∀ i j a, ownAt ρ.sl σz i a → ¬ ownAt ρ1.sl σ j a
        exact ⟨(m'.me.hold2 fun j a o => (low (m'.me.free o).2.1).1).toG rfl rfl, fun i j a o o2 => (low (m'.me.free o2).2.1).2 ⟨i, o⟩⟩
      refine ⟨_, F, { sl := u }, m2, ?_⟩
      cases e : clo { sl := u } with
      | stk =>
        rw [e] at h
        exact h
      | ex x ρ1 =>
        rw [e] at h
        intro F' H' cls d ef m' hx
        obtain ⟨b1, b2⟩ := back ef m'
        exact h F' H' cls d b1 b2 hx
      | ok r ρ1 =>
        rw [e] at h
        intro F' H' v ef m' ok
        obtain ⟨b1, b2⟩ := back ef m'
        cases r with
        | pl i => exact h.elim
        | v d => exact h F' H' v b1 b2 ok
        | l xs =>
          obtain ⟨a, vs, rfl, h1, h2, h3, h4, fr⟩ := ok
          obtain ⟨l1, l2⟩ := low h1
          refine h F' H' _ b1 b2 ⟨a, vs, rfl, l1, h2, h3, h4, fun j o => l2 ⟨j, o⟩, fun sc b' p σc e1 e2 j o => ?_⟩
          cases e1
          cases e2
          exact fr.1 j o
/-! #### x(lambda: ..) -/
theorem Mt.extN {H1 : Hp} (m : Mt G R F ρ σ H) (he : G.e = none) (e : ExtN H H1) (hT : NdefX.TabsN G.T H1) : Mt G R F ρ σ H1 := by
  have ms : ∀ {sl : List Sl} {τ : L2.St}, Ms G R F sl τ H → Ms G R F sl τ H1 := fun {sl τ} m => by
    refine ⟨m.len, fun j s z => ?_, m.dj⟩
    have q := m.at_ j s z
    cases s with
    | no => trivial
    | v d => exact q
    | ol xs =>
      obtain ⟨b, vs, h1, h2, h3, h4, h5⟩ := q
      exact ⟨b, vs, h1, h2, h3, e _ _ h4 (fun ps z => by cases z), h5⟩
    | ex x =>
      obtain ⟨a, cls, d, h1, _⟩ := q
      rw [he] at h1
      cases h1
  refine ⟨fun a o z => e a o (m.r _ _ z) fun ps z2 => m.nr a ps (z2 ▸ z), fun a o z => e a o (m.f _ _ z) fun ps z2 => m.nf a ps (z2 ▸ z), m.nr, m.nf, hT, m.kn, ms m.me, m.io, ?_⟩
  exact up_sub (P' := fun sc σc => Ms G R F sc σc H1 ∧ ∀ j k c, ownAt ρ.sl σ j c → ¬ ownAt sc σc k c) m.up fun sc b p σc e1 e2 ⟨g1, g2⟩ => ⟨ms g1, g2⟩
theorem tabs_to {T : List NdefX.NTab} {Tq : List (Addr × Str)} (hT : T = Tq.map fun p => (p.1, fun _ _ => p.2)) : NdefX.TabsN T H ↔ Tabs Tq H := by
  subst hT
  constructor
  · intro h p hp
    exact h (p.1, fun _ _ => p.2) (List.mem_map.mpr ⟨p, hp, rfl⟩)
  · intro h p hp
    obtain ⟨q, hq, rfl⟩ := List.mem_map.mp hp
    exact h q hq
theorem start_len (N : List Str) (vs : List V) (h : vs.length ≤ N.length) : (L2.start N vs).length = N.length := by
  unfold L2.start
  simp
  try omega
theorem snd_callL {Tq : List (Addr × Str)} {x a : Str} {g c P : Addr} {k fi : Nat} {fd : FuncData} {pg : Arguments} {bg : List Stmt} {sg : Scope} {Ng : List Str} {params : Arguments} {body : Expr} {scope : Scope} {p lpos pos : Pos} {O2 : Orc} {clo : Fr → Out Rs} {St : S} {b : E}
    (he : G.e = none) (hg : Gl X x) (hm : X.mg x = some (.ref g)) (FD : FunD X.K x x pg bg sg [] [] g fd) (hb : Binds X.K fd [a] []) (Sg : FnScope Ng [a] sg) (hNg : Ng[0]? = some a) (hva : Vis sg a)
    (TB : TabB X.base X.mg c P) (hcode : X.env.code = .ref c) (hmT : (P, X.env.qual ++ "<lambda>") ∈ Tq) (hu : ∀ p ∈ Tq, p.1 = P → p.2 = X.env.qual ++ "<lambda>") (hT : G.T = Tq.map fun p => (p.1, fun _ _ => p.2)) (hr : Room (k + 2) X.A) (L : LamS X.env.scope scope) (hdef : defaultsOf params X.env = ([], []))
    (hbind : ∀ (q : Str) (cl : List (Str × Addr)) (pm cv ctv : Value), bindArgs (PySem.W.kla_fn "<lambda>" q params body scope cl pm cv ctv) ⟨[], []⟩ = pure [])
    (hbody : ∀ (E : XK) (A : Around) (outer : List Env) (s : Shared) (H : Hp) (f c' : Addr), Room k (A.deeper (lamEnv X scope s.heap.objs.size f c')) → PE (lamCx X A outer s H E scope f c') body (tE G.base (fun cls d _ H' => E cls d H') clo))
    (hO2 : ∀ e, O2.clo e = clo)
    (hclo : ∀ (cdv : Value) (s : Shared) (H : Hp) (f c' : Addr) (q : Str) (σ : L2.St), Room (k + 1) (X.A.deeper (envOfC x sg s.heap.objs.size g cdv)) →
      (∀ (W : WX) (pn : List (Addr × Obj)) (xe : Value → Shared → Prop) (p1 p2 : Pos), Takes ((cxOf C8.CX0 X.prog X.w X.K X.mg X.base Ng x sg g cdv X.A X.stack s H C8.E0).tr pn xe) W →
        PE ((cxOf C8.CX0 X.prog X.w X.K X.mg X.base Ng x sg g cdv X.A X.stack s H C8.E0).tr pn xe) (.Call (.Name a p1) [] [] p2) (tE (G.clo f c' q σ) W (callCF O2))) →
      PSs (cxOf C8.CX0 X.prog X.w X.K X.mg X.base Ng x sg g cdv X.A X.stack s H C8.E0).nox bg (tS (G.clo f c' q σ) Wn (evS O2 St)))
    (hcall : ∀ sl, O.call fi [] (some (sl, b)) = endC (evS O2 St ⟨List.replicate Ng.length .no, true, some (sl, b)⟩))
    (hdb : (x == ("__debug__" : Str)) = false) (hd : (a == ("__debug__" : Str)) = false) (hcd : (a == ("__classdict__" : Str)) = false) :
    PE X (.Call (.Name x p) [.Lambda params body scope lpos] [] pos) (tE G W (callLF O fi b)) := by
  have keep := FD.kp
  obtain ⟨oc, od, dV, kV, doc, pm0, an, cdv, ct, osl, rfl, lk, hcg, -, -⟩ := FD.ex
  refine ⟨fun pins s σ H Q I hyp => ?_⟩
  obtain ⟨R, F, ρ, m, hyp⟩ := hyp
  unfold callLF at hyp
  cases hup : ρ.up with
  | some u =>
    rw [if_pos (by rw [hup]; rfl)] at hyp
    exact hyp.elim
  | none =>
  rw [if_neg (by rw [hup]; decide)] at hyp
  rw [hcall] at hyp
  have gu : G.u = none := by
    have z := m.up
    rw [hup] at z
    cases q : G.u with
    | none => rfl
    | some u =>
      rw [q] at z
      exact z.elim
  refine wpAny_Call_Name_kw (ld_glob I hg hm ?_ hdb)
  refine PySem.W.callWith_K (h₀ := X.base) I.ok.mod.kin keep ?_ rfl rfl
  show wpAny _ _ (spliced ((false, eval (.Lambda params body scope lpos) X.env) :: backTo pos (starEach [] X.env))) _ _ s
  refine Calls.spliced_cons (lam_make2 I TB hcode hmT hu ((tabs_to hT).mp m.tab) hdef (L.has I.ok) fun f c' pm' ctv H1 s' I1 eN T1 hf hfn hfr hco => ?_)
  refine Calls.spliced_nil ⟨I1.kIn, ?_⟩
  have m1 := m.extN he eN ((tabs_to hT).mpr T1)
  -- the def that got it, at its start
  have own : ∀ {sl : List Sl}, Ms G R F sl σ H1 → ∀ j d, ownAt sl σ j d → (upd R c' (CodeO c' (X.env.qual ++ "<lambda>"))) d = none := fun {sl} ms j d o => by
    obtain ⟨_, z1, vs, z2⟩ := ms.free o
    rw [upd_ne fun e => by rw [e, hco] at z2; cases z2]
    exact z1
  have mz : Mt (G.clo f c' (X.env.qual ++ "<lambda>") σ) (upd R c' (CodeO c' (X.env.qual ++ "<lambda>"))) F ⟨List.replicate Ng.length .no, true, some (ρ.sl, b)⟩ (L2.start Ng [.ref f]) H1 := by
    have hl : (L2.start Ng [V.ref f]).length = Ng.length := start_len _ _ (by
      have := (List.getElem?_eq_some_iff.mp hNg).1
      show 1 ≤ _
      omega)
    refine ⟨sub_upd m1.r hco, m1.f, m1.nr.upd fun ps z => codeO_ne ps z, m1.nf, m1.tab, fun p hp => ?_, ⟨by simp [hl], fun j s z => ?_, fun i j d o1 _ => ?_⟩, fun _ => ⟨f, rfl, ?_⟩, ?_⟩
    · rcases List.mem_singleton.mp (show p ∈ [(c', CodeO c' (X.env.qual ++ "<lambda>"))] from hp) with rfl
      exact upd_same
    · rw [List.getElem?_replicate] at z
      split at z
      · cases z
        trivial
      · cases z
    · obtain ⟨xs, o1, _⟩ := o1
      rw [List.getElem?_replicate] at o1
      split at o1 <;> cases o1
    · cases Ng with
      | nil => cases hNg
      | cons n Ng => rfl
    · refine ⟨(m1.me.hold2 (own m1.me)).toG rfl he, fun i j d o1 => ?_⟩
      obtain ⟨xs, o1, _⟩ := o1
      rw [List.getElem?_replicate] at o1
      split at o1 <;> cases o1
  have efR : ∀ {F'}, Ef (upd R c' (CodeO c' (X.env.qual ++ "<lambda>"))) F F' → Ef R F F' := fun {F'} e => ⟨e.ff, fun d h1 h2 => e.nw d (by
    by_cases z : d = c'
    · rw [z, upd_same]
      simp
    · rw [upd_ne z]
      exact h1) h2⟩
  have subR : ∀ {H'}, Sub (upd R c' (CodeO c' (X.env.qual ++ "<lambda>"))) H' → Sub R H' := fun {H'} e d o z => by
    by_cases q : d = c'
    · have z1 := m1.r _ _ z
      rw [q, hco] at z1
      rw [q]
      cases z1
      exact e _ _ upd_same
    · exact e d o (by rw [upd_ne q]; exact z)
  have lowR : ∀ {d}, (upd R c' (CodeO c' (X.env.qual ++ "<lambda>"))) d = none → R d = none := fun {d} z => by
    by_cases q : d = c'
    · rw [q, upd_same] at z
      cases z
    · rw [upd_ne q] at z
      exact z
  -- the frame that waits, behind the def
  have back : ∀ {F' H' ρ' σ' u b'}, ρ'.up = some (u, b') → Mt (G.clo f c' (X.env.qual ++ "<lambda>") σ) (upd R c' (CodeO c' (X.env.qual ++ "<lambda>"))) F' ρ' σ' H' → Mt G R F' { ρ with sl := u } σ H' := fun {F' H' ρ' σ' u b'} e m' => by
    have z := m'.up
    rw [e] at z
    obtain ⟨z1, _⟩ : Ms (G.clo f c' (X.env.qual ++ "<lambda>") σ) (upd R c' (CodeO c' (X.env.qual ++ "<lambda>"))) F' u σ H' ∧ _ := z
    refine ⟨subR m'.r, m'.f, m.nr, m'.nf, m'.tab, m.kn, (z1.hold2 fun j d o => lowR (z1.free o).2.1).toG rfl rfl, m.io, ?_⟩
    show UpOk _ ρ.up G.u
    rw [hup, gu]
    trivial
  have upz : ∀ {F' H' ρ' σ'}, Mt (G.clo f c' (X.env.qual ++ "<lambda>") σ) (upd R c' (CodeO c' (X.env.qual ++ "<lambda>"))) F' ρ' σ' H' → ∃ u b', ρ'.up = some (u, b') := fun {F' H' ρ' σ'} m' => by
    have z := m'.up
    cases q : ρ'.up with
    | none =>
      rw [q] at z
      exact z.elim
    | some p => exact ⟨p.1, p.2, rfl⟩
  have rc : codeAny (model X.prog X.w) X.A (.call (.ref g) ⟨[.ref f], []⟩) (CR C8.CX0 X.stack X.prog X.w H1 s' Q C8.E0) s' := by
    refine run_ofS (N := Ng) (ps := [a]) (us := [.ref f]) (vs := [.ref f]) lk hcg Sg hr I1.env0 (hb s' [.ref f] I1.kIn rfl) (.cons rfl .nil) rfl fun hr' => ?_
    have body' := hclo cdv s' H1 f c' (X.env.qual ++ "<lambda>") σ hr' fun W2 pn xe p1 p2 tk => ?_
    · refine ⟨_, body'.nox, _, F, _, mz, ?_⟩
      cases e : evS O2 St ⟨List.replicate Ng.length .no, true, some (ρ.sl, b)⟩ with
      | stk =>
        rw [e] at hyp
        exact hyp.elim
      | bk ρ' =>
        rw [e] at hyp
        exact hyp.elim
      | ex x ρ' =>
        rw [e] at hyp
        exact hyp.elim
      | nx ρ' =>
        rw [e] at hyp
        intro F' H' σ' ef m'
        obtain ⟨u, b', hu2⟩ := upz m'
        have hyp : Af G W σ R F (RsOk G σ) (.ok (.v .none) { ρ with sl := (match ρ'.up with | some (u, _) => u | none => []) }) Q := hyp
        rw [hu2] at hyp
        exact hyp F' H' .non (efR ef) (back hu2 m') .non
      | rt r ρ' =>
        rw [e] at hyp
        intro F' H' σ' v ef m' ok
        obtain ⟨u, b', hu2⟩ := upz m'
        cases r with
        | pl j => exact hyp.elim
        | v d =>
          have hyp : Af G W σ R F (RsOk G σ) (.ok (.v d) { ρ with sl := (match ρ'.up with | some (u, _) => u | none => []) }) Q := hyp
          rw [hu2] at hyp
          exact hyp F' H' v (efR ef) (back hu2 m') ok
        | l xs =>
          have hyp : Af G W σ R F (RsOk G σ) (.ok (.l xs) { ρ with sl := (match ρ'.up with | some (u, _) => u | none => []) }) Q := hyp
          rw [hu2] at hyp
          obtain ⟨d, vs, rfl, h1, h2, h3, h4, fr⟩ := ok
          refine hyp F' H' _ (efR ef) (back hu2 m') ⟨d, vs, rfl, lowR h1, h2, h3, h4, fun j o => fr.2 u b' f σ hu2 rfl j o, fun sc b2 p2 σc e1 e2 => ?_⟩
          have e1 : ρ.up = some (sc, b2) := e1
          rw [hup] at e1
          cases e1
    · refine (lam_act (X := X) (k := k) (i := 0) (tb := fun E => tE G.base (fun cls d _ H' => E cls d H') clo) I1 L hf hfn hfr hbind tk hr' (fun E A outer s2 H2 hr2 => hbody E A outer s2 H2 f c' hr2) hNg hva hd hcd).weak fun σz Hz Qz q => callC_of hO2 q
  refine wpAny_call (codeAny_mono rc fun r s2 hq => ?_)
  cases r with
  | error e => exact (show False from hq).elim
  | ok fl =>
    cases fl with
    | ret u => exact I1.after hq
    | next => exact hq.elim
    | brk => exact hq.elim
    | cont => exact hq.elim
end
end Ev
end
section
set_option Elab.async false
set_option linter.all false
set_option maxRecDepth 100000
set_option maxHeartbeats 1000000
set_option autoImplicit false
namespace Ev
open PySem L2 PySem.Spec PyProof.Rows LamX
/-! #### sorted(a, key=lambda x: (len(x), x)) -/
mutual
theorem noLst_reads {h : Heap} : ∀ {d : D} {v : Value} {as : List Addr}, noLst d = true → Reads h v d as → as = []
  | .none, _, _, _, .none => rfl
  | .bool _, _, _, _, .bool _ => rfl
  | .int _, _, _, _, .int _ _ => rfl
  | .str _, _, _, _, .str _ _ => rfl
  | .tuple xs, _, _, n, .tuple _ _ _ r => noLsts_reads (show noLsts xs = true by simpa [noLst] using n) r
theorem noLsts_reads {h : Heap} : ∀ {ds : List D} {vs : List Value} {as : List Addr}, noLsts ds = true → ReadsAll h vs ds as → as = []
  | [], _, _, _, .nil => rfl
  | d :: ds, _, _, n, .cons r rs => by
    have n' : noLst d = true ∧ noLsts ds = true := by simpa [noLsts] using n
    rw [noLst_reads n'.1 r, noLsts_reads n'.2 rs]
    rfl
end
section
variable {prog : Program} {w : World} {A : Around} {s : Shared}
/-- the key function's call -/
theorem lenKey_call {mg mb : Str → Option Value} {f c' t : Addr} {x q : Str} {params : Arguments} {scope : Scope} {cl : List (Str × Addr)} {pm ctv : Value} {kk : Nat} {p1 p2 p3 p4 p5 : Pos} {its : Array Value} {ds : List D}
    (gN : s.heap.Ns mainGlobals mg) (gm : mg "len" = none) (bN : s.heap.Ns builtinsNs mb) (bl : mb "len" = some (.builtin "len")) (lim : s.heap.NoLimit) (room : A.depth < recursionLimit)
    (of : s.heap.get? f = some (PySem.W.kla_obj "<lambda>" q params (.Tuple [.Call (.Name "len" p1) [.Name x p2] [] p3, .Name x p4] kk p5) scope cl pm c' ctv)) (oc : s.heap.CodeRec (.ref c') q)
    (hbind : ∀ v : Value, bindArgs (PySem.W.kla_fn "<lambda>" q params (.Tuple [.Call (.Name "len" p1) [.Name x p2] [] p3, .Name x p4] kk p5) scope cl pm (.ref c') ctv) ⟨[v], []⟩ = pure [(x, v)])
    (sk : scope.kind = .function) (sco : scope.isCoroutine = false) (sg : scope.isGenerator = false) (sx : scope.names.lookup x = some .local) (sc : ∀ y ∈ scope.names, y.2 ≠ .cell) (sl : scope.names.lookup ("len" : Str) = some .globalImplicit) (hd : (x == ("__debug__" : Str)) = false)
    (hT : IsTup s.heap t its) (hz : its.size ≤ sizeLine) (hr : Reads s.heap (.ref t) (.tuple ds) []) (hlen : its.size = ds.length) :
    wpAny (model prog w) A (call (.ref f) [.ref t]) (PySem.W.KeyPure (.tuple [.int ds.length, .tuple ds]) s) (fun _ _ => False) s := by
  have rc : codeAny (model prog w) A (.call (.ref f) ⟨[.ref t], []⟩) (fun r s' => match r with | .ok (.ret v) => PySem.W.KeyPure (.tuple [.int ds.length, .tuple ds]) s v s' | _ => False) s := by
    refine PySem.W.kla_callFunE room of rfl sco sg rfl oc ?_
    rw [hbind]
    refine wpAny_pure (wpAny_newFunctionEnv sc (fun y hy => ?_) (fun g1 ns1 sb1 => ⟨lim.fresh _ sb1, ?_⟩) sk)
    · rcases List.mem_singleton.mp hy with rfl
      exact sx
    have kept : ∀ b o, s.heap.get? b = some o → g1.get? b = some o := fun b o e => sb1.extBut b o (Nat.ne_of_lt (Heap.lt_size e)) (Heap.get?_push_of_some _ e)
    have ldx : ∀ {A2 : Around} {E : Value → Shared → Prop} {Q : Value → Shared → Prop} {tk : Nat} {pp : Pos}, Q (.ref t) { s with heap := g1, toks := tk } →
        wpAny (model prog w) A2 (eval (.Name x pp) (newEnv scope s.heap.objs.size mainGlobals cl (q ++ ".<locals>.") (some f) (.ref c') none builtinsNs)) Q E { s with heap := g1, toks := tk } := fun {A2 E Q tk pp} hq => by
      refine wpAny_Name (wpAny_loadName_local (m := fun y => ([(x, Value.ref t)] : List (Str × Value)).reverse.lookup y) sk sx ns1 ?_ hq) hd
      show List.lookup x [(x, Value.ref t)] = some (Value.ref t)
      simp [List.lookup]
    refine PySem.W.kla_codeExpr (Tuple_ ?_)
    refine Calls.spliced_cons ?_
    refine wpAny_Call_Name_kw (Calls.Name_function_global sk sl (Calls.loadGlobal_builtin (gN.keeps kept) gm (bN.keeps kept) bl ?_))
    refine PyProof.Rows.callWith_builtin1 ?_ rfl rfl
    refine Calls.spliced_cons (ldx ?_)
    refine Calls.spliced_nil ?_
    have T1 : IsTup g1 t its := hT.keeps kept
    refine len_tuple T1 (by have := sizeLine_eq; omega) ?_
    refine Calls.spliced_cons (ldx ?_)
    refine Calls.spliced_nil ?_
    refine wpAny_newTuple ?_
    have k2 : ∀ b o, s.heap.get? b = some o → (g1.push { cls := .type "tuple", data := .seq #[.int its.size (s.toks + ([(x, Value.ref t)] : List (Str × Value)).length + 1), .ref t] }).get? b = some o := fun b o e => Heap.get?_push_of_some _ (kept b o e)
    refine ⟨_, _, rfl, k2, ?_⟩
    have hn : (its.size : Int) = (ds.length : Int) := by rw [hlen]
    rw [← hn]
    exact .tuple (Heap.get?_push_size _ rfl) rfl rfl (.cons (.int _ _) (.cons (PyProof.Rows.Reads.keeps (fun b o e => k2 b o e) hr) .nil))
  refine wpAny_call (codeAny_mono rc fun r s2 hq => ?_)
  cases r with
  | error e => exact hq.elim
  | ok fl =>
    cases fl with
    | ret u => exact hq
    | next => exact hq.elim
    | brk => exact hq.elim
    | cont => exact hq.elim
end
section
variable {G : Gx} {W : WX} {R F H F' H' : Hp} {ρ ρ' : Fr} {σ : L2.St} {X : Cx} {K : Fg} {Q : VK} {O : Orc} {ea : Ev1}
theorem isTup_of {d : D} (h : isTup d = true) : ∃ xs, d = .tuple xs := by
  cases d with
  | tuple xs => exact ⟨xs, rfl⟩
  | _ => cases h
theorem lenKey_len (ds : List D) : (ds.map lenKey).length = ds.length := List.length_map ..
theorem noLsts_mem : ∀ {ds : List D} {d : D}, noLsts ds = true → d ∈ ds → noLst d = true
  | e :: ds, d, h, hm => by
    have h' : noLst e = true ∧ noLsts ds = true := by simpa [noLsts] using h
    rcases List.mem_cons.mp hm with rfl | hm
    · exact h'.1
    · exact noLsts_mem h'.2 hm
theorem lay_mem : ∀ {ds : List D} {d : D}, PyData.canLayAll0 ds = true → d ∈ ds → d.canLay0 = true
  | e :: ds, d, h, hm => by
    have h' : e.canLay0 = true ∧ PyData.canLayAll0 ds = true := by simpa [PyData.canLayAll0] using h
    rcases List.mem_cons.mp hm with rfl | hm
    · exact h'.1
    · exact lay_mem h'.2 hm
theorem snd_sortL {Tq : List (Addr × Str)} {c P : Addr} {x : Str} {a : Expr} {params : Arguments} {scope : Scope} {kk : Nat} {p p1 p2 p3 p4 p5 lp kp pos : Pos}
    (hK : X.K = G.K) (he : G.e = none) (ha : PE X a (tE G W ea)) (hs : starEach [a] X.env = (false, eval a X.env) :: starEach [] X.env) (hg : Gl X "sorted") (hm : X.mg "sorted" = none) (gm : X.mg "len" = none)
    (TB : TabB X.base X.mg c P) (hcode : X.env.code = .ref c) (hmT : (P, X.env.qual ++ "<lambda>") ∈ Tq) (hu : ∀ p ∈ Tq, p.1 = P → p.2 = X.env.qual ++ "<lambda>") (hT : G.T = Tq.map fun p => (p.1, fun _ _ => p.2)) (hr : Room 0 X.A) (hdef : defaultsOf params X.env = ([], []))
    (hfree : ∀ y ∈ scope.names, y.2 ≠ .free)
    (hbind : ∀ (q : Str) (cl : List (Str × Addr)) (pm cv ctv v : Value), bindArgs (PySem.W.kla_fn "<lambda>" q params (.Tuple [.Call (.Name "len" p1) [.Name x p2] [] p3, .Name x p4] kk p5) scope cl pm cv ctv) ⟨[v], []⟩ = pure [(x, v)])
    (sk : scope.kind = .function) (sco : scope.isCoroutine = false) (sg : scope.isGenerator = false) (sx : scope.names.lookup x = some .local) (sc : ∀ y ∈ scope.names, y.2 ≠ .cell) (sl : scope.names.lookup ("len" : Str) = some .globalImplicit) (hd : (x == ("__debug__" : Str)) = false) :
    PE X (.Call (.Name "sorted" p) [a] [⟨some "key", .Lambda params (.Tuple [.Call (.Name "len" p1) [.Name x p2] [] p3, .Name x p4] kk p5) scope lp, kp⟩] pos) (tE G W (sortLF ea)) := by
  refine ⟨fun pins s σ H Q I h => ?_⟩
  refine wpAny_Call_Name_kw (ld_blt I hg hm PyProof.Rows.boot_sorted ?_)
  have hb0 : backTo pos (starEach [a] X.env) = (false, eval a X.env) :: backTo pos (starEach [] X.env) := by rw [hs]; rfl
  refine PyProof.Rows.callWith_kw ?_ hb0 (by rw [hs]; rfl) rfl rfl
  rw [hb0]
  have h := tX.bind (ok := RsOk G) h
  refine Calls.spliced_cons (thn (ha.run pins s σ H _ I h) fun u s1 ⟨v, H1, I1, r1, R, F, ρ, r, m, o, h⟩ => Calls.spliced_nil ?_)
  show wpAny _ _ (evalAll ((do let v ← eval _ X.env; standAt pos; pure v) :: [])) _ _ s1
  refine wpAny_evalAll_cons (wpAny_bind (lam_make2 I1 TB hcode hmT hu ((tabs_to hT).mp m.tab) hdef (fun y hy e => absurd e (hfree y hy)) fun f c' pm' ctv H2 s2 I2 eN T1 hf hfn hfr hco => wpAny_bind (wpAny_standAt (wpAny_pure (wpAny_evalAll_nil ?_)))))
  show wpAny _ _ (call (.builtin "sorted") [u] [(Str.ofString "key", .ref f)]) _ _ _
  have m2 := m.extN he eN ((tabs_to hT).mpr T1)
  cases hz : r.get ρ with
  | none =>
    rw [hz] at h
    exact h.elim
  | some d =>
  rw [hz] at h
  have h : Af G W σ R F (RsOk G σ) (match lstOf d with | some ds => opt ((sortL ds).map .l) ρ | none => .stk) Q := h
  cases d with
  | list ds =>
    have h : Af G W σ R F (RsOk G σ) (opt ((sortL ds).map .l) ρ) Q := h
    have o2 : RsOk G σ R F H2 ρ r v := by
      cases r with
      | v d => exact o
      | pl i => exact o
      | l xs =>
        obtain ⟨a, vs, h1, h2, h3, h4, h5, h6⟩ := o
        exact ⟨a, vs, h1, h2, h3, eN _ _ h4 (fun ps z => by cases z), h5, h6⟩
    have g := gv_of m2 h
    obtain ⟨zs, hzs, g⟩ := Gv.map g
    unfold sortL at hzs
    obtain ⟨hc, e⟩ := ite_some hzs
    subst e
    simp only [Bool.and_eq_true, decide_eq_true_eq] at hc
    obtain ⟨⟨⟨⟨c1, c2⟩, c3⟩, c4⟩, c5⟩ := hc
    have op := o2.opn m2 hz
    obtain ⟨b, ws, rfl, hws, rr⟩ := op.lst m2.f
    obtain rfl : u = .ref b := r1
    obtain ⟨its, rv, pl, hzl⟩ := I2.list (SqL.of hws)
    have rr' : Rps X.K F ws ds := by
      rw [hK]
      exact rr
    have klay : PyData.canLayAll0 (ds.map lenKey) = true := by
      have := SeqAt.canLay_of_shaped c3
      simpa [PyData.canLay0] using this
    have kdep : PyData.depthAll (ds.map lenKey) ≤ 63 := by
      have := SeqAt.depth_of_shaped c3
      simp only [PyData.depth] at this
      omega
    have hb : big = sizeLine := by rw [sizeLine_eq]; decide
    have zlen : (ws.zip ds).length = ds.length := by simp [rr.len]
    have kmap : (ws.zip ds).map (fun p => lenKey p.2) = ds.map lenKey := by
      exact (List.map_map (f := Prod.snd) (g := lenKey) (l := ws.zip ds)).symm.trans (by rw [zip_snd rr])
    obtain ⟨mb, hb1, hb2⟩ := I2.mod.blt
    refine PySem.W.sorted_key_data (b := false) (R := Vd X.K F) (fun p : V × D => lenKey p.2) pl.isList (each_vd rv rr') (by rw [kmap]; exact all_alike c2) ?_ (by rw [zlen, ← hb]; exact c5) (fun z hz => ?_) (PyProof.Rows.ksk_s1 _ _) (fun _ => PyProof.Rows.ksk_l1 _ _) (fun _ => PyProof.Rows.ksk_t1 _ _) (fun v z hv hz h tk kp => ?_) fun out cc h' tk kp hN hD hl ho => ?_
    · rw [kmap]
      refine .inl fun d hd => ?_
      obtain ⟨e, he, rfl⟩ := List.mem_map.mp hd
      obtain ⟨xs, rfl⟩ := isTup_of ((List.all_eq_true.mp c1) e he)
      exact ⟨_, _, rfl⟩
    · have q := depth_le (List.mem_map.mpr ⟨z.2, (List.of_mem_zip hz).2, rfl⟩ : lenKey z.2 ∈ ds.map lenKey)
      have q2 := hr.un
      show X.A.units + 2 + (lenKey z.2).depth < cLine
      omega
    · -- the key
      obtain ⟨zv, zd⟩ := z
      have hmem : zd ∈ ds := (List.of_mem_zip hz).2
      obtain ⟨xs, rfl⟩ := isTup_of ((List.all_eq_true.mp c1) _ hmem)
      obtain ⟨rel, rp⟩ := hv
      have rel : RelV zv v := rel
      have rp : Rp X.K F zv (.tuple xs) := rp
      have lay : (PyData.tuple xs).canLay0 = true := by
        have q := lay_mem klay (List.mem_map.mpr ⟨_, hmem, rfl⟩ : lenKey (.tuple xs) ∈ ds.map lenKey)
        simp only [lenKey, PyData.canLay0, PyData.canLayAll0, Bool.and_true, Bool.true_and] at q ⊢
        exact q
      obtain ⟨as, rd⟩ := Dp.reads I2 _ _ _ ((rp.mono m2.f).dp lay) rel
      have nl := noLsts_mem c4 hmem
      obtain rfl := noLst_reads nl rd
      obtain ⟨ta, tvs, hz1, h1, h2⟩ : ∃ ta tvs, zv = .ref ta ∧ SqT X.K F ta tvs ∧ Rps X.K F tvs xs := by
        cases rp with
        | tup h1 h2 => exact ⟨_, _, rfl, h1, h2⟩
      subst hz1
      obtain rfl : v = .ref ta := rel
      obtain ⟨tits, trv, tpl, tz⟩ := I2.tuple (Same.seqT m2.f h1)
      have hl2 : tits.toArray.size = xs.length := by
        rw [List.size_toArray, ← trv.length, h2.len]
      obtain ⟨⟨oc, cvs, ct, hoc, hdc, hvc⟩, -, -⟩ := I2.hok c' _ hco
      exact lenKey_call (s := { s2 with heap := h, toks := tk }) (mg := X.mg) (mb := mb) ((I2.mod.glob.keeps I2.bk).keeps kp) gm ((hb1.keeps I2.bk).keeps kp) ((hb2 "len" (by decide)).trans (by decide +kernel)) (I2.nolimit.keeps kp) (by have := hr.dp; show X.A.depth < _; omega) (kp _ _ hf) ⟨c', oc, cvs, ct, rfl, kp _ _ hoc, hdc, hvc⟩ (fun v => hbind _ _ _ _ _ v) sk sco sg sx sc sl hd (tpl.keeps kp) (by rw [List.size_toArray, ← trv.length]; exact tz) (PyProof.Rows.Reads.keeps kp rd) hl2
    · obtain ⟨o1, o2'⟩ := out_vals ho
      have em : ((ws.zip ds).mergeSort (PySem.W.dataLe false fun p => lenKey p.2)).map Prod.snd = ds.mergeSort (PySem.W.dataLe false lenKey) :=
        (List.map_mergeSort (r := PySem.W.dataLe false fun p : V × D => lenKey p.2) (s := PySem.W.dataLe false lenKey) (f := Prod.snd) (l := ws.zip ds) (fun a _ b _ => rfl)).trans (by rw [zip_snd rr])
      rw [em] at o2'
      have hp : H2 (s2.heap.objs.size + 1) = none := I2.hok.fresh (Nat.le_succ _)
      rw [hK] at o2'
      exact ⟨.ref (s2.heap.objs.size + 1), _, I2.laid (t' := tk) kp (Nat.le_succ _) (show ObjOk X.prog X.w _ _ _ (.lst (((ws.zip ds).mergeSort (PySem.W.dataLe false fun p => lenKey p.2)).map Prod.fst)) from ⟨by rw [o1.length, hl, zlen, ← hb]; exact c5, out, cc, o1, hD⟩), rfl, g.lst m2.f m2.nf hp o2'⟩
  | _ => exact h.elim
end
end Ev
end
section
set_option Elab.async false
set_option linter.all false
set_option maxRecDepth 100000
set_option autoImplicit false
namespace Ev
open PySem L2 PySem.Spec PyProof.Rows
/-! #### small facts of the tree -/
def notStar : Expr → Bool
  | .Starred _ _ => false
  | _ => true
theorem star_cons {e : Expr} {es : List Expr} {env : Env} (h : notStar e = true) : starEach (e :: es) env = (false, eval e env) :: starEach es env := by
  cases e <;> first | rfl | cases h
theorem star_any {env : Env} {pos : Pos} : ∀ {es : List Expr}, es.all notStar = true → (backTo pos (starEach es env)).any (·.1) = false
  | [], _ => rfl
  | e :: es, h => by
    rw [List.all_cons, Bool.and_eq_true] at h
    rw [star_cons h.1]
    show (false || (backTo pos (starEach es env)).any (·.1)) = false
    rw [star_any h.2]
    rfl
theorem asgn_cons {e : Expr} {es : List Expr} {env : Env} (h : notStar e = true) : (assignEach (e :: es) env).map (·.2) = assign e env :: (assignEach es env).map (·.2) := by
  cases e <;> first | rfl | cases h
theorem asgn_len {env : Env} : ∀ {es : List Expr}, (assignEach es env).length = es.length
  | [] => rfl
  | e :: es => by
    cases e <;> (show (assignEach es env).length + 1 = _; rw [asgn_len]; rfl)
theorem asgn_eq {e : Expr} {es : List Expr} {env : Env} (h : notStar e = true) : assignEach (e :: es) env = (false, assign e env) :: assignEach es env := by
  cases e <;> first | rfl | cases h
theorem asgn_star {env : Env} : ∀ {es : List Expr}, es.all notStar = true → (assignEach es env).findIdx? (·.1) = none
  | [], _ => rfl
  | e :: es, h => by
    rw [List.all_cons, Bool.and_eq_true] at h
    have q := asgn_star (env := env) h.2
    have e1 : assignEach (e :: es) env = (false, assign e env) :: assignEach es env := asgn_eq h.1
    rw [e1, List.findIdx?_cons, q]
    rfl
def plainIx : Expr → Bool
  | .Slice _ _ none _ => false
  | _ => true
theorem plainIx_of {e : Expr} (h : plainIx e = true) : PlainIx e := fun o i => by
  cases e with
  | Slice a b c p => cases c with
    | none => cases h
    | some _ => rfl
  | _ => rfl
def plainT : Expr → Bool
  | .UnaryOp .Not _ _ => false
  | .BoolOp _ _ _ => false
  | .IfExp _ _ _ _ => false
  | .Compare _ _ _ _ => false
  | _ => true
theorem plainT_of {e : Expr} {env : Env} (h : plainT e = true) : ∀ whole, isTrue e env whole = (do let v ← whole; standAt e.pos; holding [v] (PySem.truthy v)) := fun whole => by
  cases e with
  | UnaryOp op a p => cases op <;> first | rfl | cases h
  | BoolOp _ _ _ => cases h
  | IfExp _ _ _ _ => cases h
  | Compare _ _ _ _ => cases h
  | _ => rfl
def notSet : Expr → Bool
  | .Set _ _ _ => false
  | _ => true
theorem marks_of {e : Expr} {op : CmpOp} (h : notSet e = true) : behindInMarks op e = false := by
  cases e <;> first | rfl | cases h
theorem lastMarks_of {a b : Expr} {o p : CmpOp} (h : notSet b = true) : lastMarks [o, p] [a, b] = false := marks_of h
theorem folded_of {e : Expr} {env : Env} (h : notSet e = true) : ∀ x, foldedSetIterable e env x = pure x := fun x => by
  cases e <;> first | rfl | cases h
def notComp : Expr → Bool
  | .ListComp _ _ _ _ => false
  | .SetComp _ _ _ _ => false
  | .DictComp _ _ _ _ _ => false
  | _ => true
theorem swaps_of {e : Expr} {t : Option Expr} {n : Nat} {env : Env} (h : notComp e = true) : swapsWith e t n env = pure false := by
  cases e <;> first | rfl | cases h
def notCall0 : Expr → Bool
  | .Call _ [] [] _ => false
  | _ => true
theorem base_of {x : Str} {p : Pos} {m : Str} {env : Env} {whole : Sem Value} : attributeBase (.Name x p) m env whole = whole := rfl
/-! #### names -/
def visB (sc : Scope) (x : Str) : Bool := match sc.names.lookup x with
  | some .local => true
  | some .cell => true
  | some .free => true
  | _ => false
theorem vis_of {sc : Scope} {x : Str} (h : visB sc x = true) : Vis sc x := by
  unfold visB at h
  unfold Vis
  split at h
  · exact .inl ‹_›
  · exact .inr (.inl ‹_›)
  · exact .inr (.inr ‹_›)
  · cases h
def locB (sc : Scope) (x : Str) : Bool := match sc.names.lookup x with
  | some .local => true
  | some .cell => true
  | _ => false
theorem loc_of {sc : Scope} {x : Str} (h : locB sc x = true) : L2.Loc sc x := by
  unfold locB at h
  unfold L2.Loc
  split at h
  · exact .inl ‹_›
  · exact .inr ‹_›
  · cases h
def glB (sc : Scope) (x : Str) : Bool := decide (sc.names.lookup x = some .globalImplicit)
/-! #### what the check knows -/
structure Pg where
  fns : List (Str × Nat × Bool)
  glb : List Str
  cls : List Str
structure Pc where
  N : List Str
  sc : Scope
  fnB : Str → Bool
  calm : Bool
  act : Option Str := none
  tab : Bool := false
def dbg : Str := Str.ofString "__debug__"
def cdc : Str := Str.ofString "__classdict__"
def varB (c : Pc) (i : Nat) (x : Str) : Bool := decide (c.N[i]? = some x) && visB c.sc x && !(x == dbg) && !(x == cdc)
def bltB (c : Pc) (x : Str) (n : String) : Bool := decide (x = Str.ofString n) && glB c.sc x
def tyStr (ty : Ty) : String := tyName ty
def biName : Bi → String
  | .len => "len" | .abs => "abs" | .sum => "sum" | .min => "min" | .max => "max" | .min2 => "min" | .max2 => "max" | .all => "all" | .any => "any"
  | .sorted => "sorted" | .list => "list" | .tuple => "tuple" | .int => "int" | .repr => "repr"
def biCalm : Bi → Bool
  | .sum => true | .min => true | .max => true | .min2 => true | .max2 => true | .all => true | .any => true
  | _ => false
def biArity : Bi → Nat
  | .min2 => 2 | .max2 => 2 | _ => 1
def bltNames : List String := ["len", "abs", "sum", "min", "max", "all", "any", "sorted", "list", "tuple", "int", "repr", "range", "enumerate", "zip", "isinstance", "bool", "str"]
end Ev
end
section
set_option Elab.async false
set_option linter.all false
set_option maxRecDepth 100000
set_option autoImplicit false
namespace Ev
open PySem L2 PySem.Spec PyProof.Rows LamX
/-! #### the check of a tree against the small language -/
mutual
def chkG (c : Pc) : Tg → Expr → Bool
  | .nm i, e => (match e with
    | .Name x _ => decide (c.N[i]? = some x) && locB c.sc x && (c.fnB x || decide (c.sc.names.lookup x = some .local))
    | _ => false)
  | .nl, e => (match e with
    | .Tuple [] _ _ => c.calm
    | _ => false)
  | .cn g r, e => (match e with
    | .Tuple (x :: xs) _ _ => c.calm && (notStar x && xs.all notStar) && (chkG c g x && chkGs c r xs)
    | _ => false)
def chkGs (c : Pc) : Tg → List Expr → Bool
  | .nm _, _ => false
  | .nl, es => es.isEmpty
  | .cn g r, es => (match es with
    | x :: xs => notStar x && (chkG c g x && chkGs c r xs)
    | [] => false)
end
def blkPc (c : Pc) (scope : Scope) : Pc := { N := c.N, sc := relS scope c.sc, fnB := fun x => decide (scope.names.lookup x = some .cell), calm := c.calm }
def lamPc (c : Pc) (scope : Scope) : Pc := { N := c.N, sc := scope, fnB := fun _ => false, calm := true }
def ownN (c : Pc) (own : List Nat) : List (Str × Nat) := own.map fun i => ((c.N[i]?).getD Str.empty, i)
theorem ownN_snd {c : Pc} {own : List Nat} : (ownN c own).map (·.2) = own := by
  unfold ownN
  rw [List.map_map]
  induction own with
  | nil => rfl
  | cons x xs ih => exact congrArg (x :: ·) ih
def fnNm (p : Pg) (f : Nat) (x : Str) (clo : Bool) : Bool := match p.fns[f]? with
  | some (y, _, b) => decide (y = x) && (b == clo)
  | none => false
def gloB (c : Pc) (x : Str) : Bool := glB c.sc x && !(x == dbg)
def isTT : T → Bool
  | .tt => true
  | _ => false
def keyScope (sc : Scope) (x : Str) : Bool := decide (sc.kind = .function) && !sc.isCoroutine && !sc.isGenerator && decide (sc.names.lookup x = some .local) && decide (sc.names.lookup ("len" : Str) = some .globalImplicit) &&
  (sc.names.all fun y => !decide (y.2 = .cell) && !decide (y.2 = .free)) && !(x == dbg)
mutual
def chkE (p : Pg) : E → Pc → Expr → Bool
  | .var i, c, e => (match e with | .Name x _ => varB c i x | _ => false)
  | .pk i, c, e => (match e with | .Name x _ => varB c i x | _ => false)
  | .glb g, c, e => (match e with | .Name x _ => decide (p.glb[g]? = some x) && gloB c x | _ => false)
  | .cst d, _, e => (match e with
    | .Constant .none _ _ => (match d with | .none => true | _ => false)
    | .Constant (.bool b) _ _ => (match d with | .bool b' => decide (b = b') | _ => false)
    | .Constant (.int i) _ _ => (match d with | .int j => decide (i = j) | _ => false)
    | .Constant (.str s) _ _ => (match d with | .str t => decide (s = t) | _ => false)
    | _ => false)
  | .tup es, c, e => (match e with | .Tuple l _ _ => chkEs p es c l | _ => false)
  | .lst es, c, e => (match e with | .List l _ => chkEs p es c l | _ => false)
  | .dic, _, _ => false
  | .bin o a b, c, e => (match e with | .BinOp x op y _ => decide (op = opOf o) && (chkE p a c x && chkE p b c y) | _ => false)
  | .neg a, c, e => (match e with | .UnaryOp .USub x _ => chkE p a c x | _ => false)
  | .notV a, c, e => (match e with | .UnaryOp .Not x _ => chkE p a c x | _ => false)
  | .cmp o a b, c, e => (match e with | .Compare x [op] [y] _ => decide (op = copOf o) && notSet y && (chkE p a c x && chkE p b c y) | _ => false)
  | .chain o q a b d, c, e => (match e with | .Compare x [op, oq] [y, z] _ => decide (op = copOf o) && decide (oq = copOf q) && notSet z && (chkE p a c x && (chkE p b c y && chkE p d c z)) | _ => false)
  | .and a b, c, e => (match e with
    | .BoolOp .And [x, y] _ => chkE p a c x && chkE p b c y
    | .BoolOp .And (x :: y :: z :: r) pos => chkE p a c x && chkE p b c (.BoolOp .And (y :: z :: r) pos)
    | _ => false)
  | .or a b, c, e => (match e with
    | .BoolOp .Or [x, y] _ => chkE p a c x && chkE p b c y
    | .BoolOp .Or (x :: y :: z :: r) pos => chkE p a c x && chkE p b c (.BoolOp .Or (y :: z :: r) pos)
    | _ => false)
  | .tst _, _, _ => false
  | .ite t a b, c, e => (match e with | .IfExp x y z _ => chkT p t c x && (chkE p a c y && chkE p b c z) | _ => false)
  | .idx a i, c, e => (match e with | .Subscript x y _ => plainIx y && (chkE p a c x && chkE p i c y) | _ => false)
  | .slc a lo hi, c, e => (match e with
    | .Subscript x (.Slice l h none _) _ => chkE p a c x && ((match l with | none => isAbs lo | some y => !isAbs lo && chkE p lo c y) && (match h with | none => isAbs hi | some y => !isAbs hi && chkE p hi c y))
    | _ => false)
  | .call f es, c, e => (match e with
    | .Call (.Name x _) (y :: ys) [] _ => fnNm p f x false && gloB c x && c.calm && (notStar y && ys.all notStar) && chkEs p es c (y :: ys)
    | _ => false)
  | .callM f i es, c, e => (match e with
    | .Call (.Name x _) (.Name y _ :: ys) [] _ => fnNm p f x false && gloB c x && c.calm && varB c i y && ys.all notStar && chkEs p es c ys
    | _ => false)
  | .callL f b, c, e => (match e with
    | .Call (.Name x _) [.Lambda ⟨[], [], none, [], [], none, []⟩ body scope _] [] _ => fnNm p f x true && gloB c x && c.calm && c.tab && lamSB c.sc scope && chkE p b (lamPc c scope) body
    | _ => false)
  | .callC i, c, e => (match e with
    | .Call (.Name a _) [] [] _ => decide (c.act = some a) && decide (i = 0)
    | _ => false)
  | .bi b es, c, e => (match e with
    | .Call (.Name x _) (y :: ys) [] _ => bltB c x (biName b) && (notStar y && ys.all notStar) && (!biCalm b || c.calm) && chkEr p es c (y :: ys)
    | _ => false)
  | .lrg a b, c, e => (match e with
    | .Call (.Name x _) [.Call (.Name r _) [y, z] [] _] [] _ => bltB c x "list" && bltB c r "range" && c.calm && notStar y && notStar z && (chkE p a c y && chkE p b c z)
    | _ => false)
  | .lrg1 a, c, e => (match e with
    | .Call (.Name x _) [.Call (.Name r _) [y] [] _] [] _ => bltB c x "list" && bltB c r "range" && c.calm && notStar y && chkE p a c y
    | _ => false)
  | .isi a ty, c, e => (match e with
    | .Call (.Name x _) [y, .Name t _] [] _ => bltB c x "isinstance" && bltB c t (tyName ty) && notStar y && chkE p a c y
    | _ => false)
  | .mth _ _ _, _, _ => false
  | .pop _ _, _, _ => false
  | .comp own g it t d, c, e => (match e with
    | .ListComp elt [⟨tg, iter, ifs, .ofNat 0⟩] scope _ => c.calm && notSet iter && blkC c.N c.sc scope (ownN c own) && ((tgSlots g).all fun i => own.contains i) &&
        (chkI p it c tg iter && (chkG (blkPc c scope) g tg && (chkE p d (blkPc c scope) elt && (match ifs with
        | [] => isTT t
        | [x] => chkT p t (blkPc c scope) x
        | _ => false))))
    | _ => false)
  | .sortL a, c, e => (match e with
    | .Call (.Name x _) [y] [⟨some k, .Lambda ⟨[], [⟨z, none, _⟩], none, [], [], none, []⟩ (.Tuple [.Call (.Name l _) [.Name z1 _] [] _, .Name z2 _] _ _) scope _, _⟩] _ =>
        bltB c x "sorted" && decide (k = ("key" : Str)) && decide (l = ("len" : Str)) && decide (z = ("lot" : Str)) && decide (z1 = z) && decide (z2 = z) && notStar y && c.calm && c.tab && keyScope scope z && chkE p a c y
    | _ => false)
  | .exi _ _, _, _ => false
def chkT (p : Pg) : T → Pc → Expr → Bool
  | .tt, _, _ => false
  | .val a, c, e => plainT e && chkE p a c e
  | .cmp o a b, c, e => (match e with | .Compare x [op] [y] _ => decide (op = copOf o) && notSet y && (chkE p a c x && chkE p b c y) | _ => false)
  | .chain o q a b d, c, e => (match e with | .Compare x [op, oq] [y, z] _ => decide (op = copOf o) && decide (oq = copOf q) && notSet z && (chkE p a c x && (chkE p b c y && chkE p d c z)) | _ => false)
  | .and a b, c, e => (match e with
    | .BoolOp .And [x, y] _ => chkT p a c x && chkT p b c y
    | .BoolOp .And (x :: y :: z :: r) pos => chkT p a c x && chkT p b c (.BoolOp .And (y :: z :: r) pos)
    | _ => false)
  | .or a b, c, e => (match e with
    | .BoolOp .Or [x, y] _ => chkT p a c x && chkT p b c y
    | .BoolOp .Or (x :: y :: z :: r) pos => chkT p a c x && chkT p b c (.BoolOp .Or (y :: z :: r) pos)
    | _ => false)
  | .not a, c, e => (match e with | .UnaryOp .Not x _ => chkT p a c x | _ => false)
def chkEs (p : Pg) : Es → Pc → List Expr → Bool
  | .nil, _, l => l.isEmpty
  | .cons a r, c, l => (match l with | x :: xs => notStar x && (chkE p a c x && chkEs p r c xs) | [] => false)
def chkEr (p : Pg) : Es → Pc → List Expr → Bool
  | .nil, _, l => l.isEmpty
  | .cons a r, c, l => (match l with | x :: xs => notStar x && (chkE p a c x && chkEr p r c xs) | [] => false)
def chkI (p : Pg) : It → Pc → Expr → Expr → Bool
  | .seq a, c, _, e => chkE p a c e
  | .rng1 a, c, _, e => (match e with | .Call (.Name x _) [y] [] _ => bltB c x "range" && notStar y && chkE p a c y | _ => false)
  | .rng2 a b, c, _, e => (match e with | .Call (.Name x _) [y, z] [] _ => bltB c x "range" && notStar y && notStar z && (chkE p a c y && chkE p b c z) | _ => false)
  | .pks i, c, _, e => (match e with | .Name x _ => varB c i x | _ => false)
  | .enum a, c, tg, e => (match tg with | .Tuple _ _ _ => (match e with | .Call (.Name x _) [y] [] _ => bltB c x "enumerate" && notStar y && chkE p a c y | _ => false) | _ => false)
  | .zip a b, c, tg, e => (match tg with | .Tuple _ _ _ => (match e with | .Call (.Name x _) [y, z] [] _ => bltB c x "zip" && notStar y && notStar z && (chkE p a c y && chkE p b c z) | _ => false) | _ => false)
end
end Ev
end
section
set_option Elab.async false
set_option linter.all false
set_option maxRecDepth 100000
set_option maxHeartbeats 1000000
set_option autoImplicit false
namespace Ev
open PySem L2 PySem.Spec PyProof.Rows LamX
/-- what the head told, with what O's calls promise at room k -/
structure Wo (p : Pg) (P : Program) (w : World) (K : Fg) (mg : Str → Option Value) (base : Heap) (B : Gx) (O : Orc) (k : Nat) : Prop where
  fns : ∀ f x n, p.fns[f]? = some (x, n, false) → ∃ (fa : Addr) (fd : FuncData) (ps : List Str), mg x = some (.ref fa) ∧ PySem.W.keepIn K (.ref fa) = true ∧
    FnOk P w K mg base (L2.CX P w) k fa fd ps (spF B ps.length fun as => O.call f as none) ∧ Binds K fd ps [] ∧ ∀ as, as.length ≠ ps.length → O.call f as none = .stk
  glb : ∀ g x, p.glb[g]? = some x → ∃ (d : D) (u : Value) (v : V), O.glb g = some d ∧ mg x = some u ∧ RelV v u ∧ ∀ F, Rp K F v d
  cls : ∀ c x, p.cls[c]? = some x → ∃ C : Addr, B.C c = .ref C ∧ mg x = some (.ref C) ∧ PySem.W.keepIn K (.ref C) = true ∧ PySem.W.excIn K C He.veBase "ValueError.__new__" = true ∧
    PySem.W.subIn K (.ref C) (.type "BaseException") = some true ∧ PySem.W.typeIn K (.ref C) = some (.type "type")
  exm : ∀ i c, PySem.W.exmOne K (B.C i) (B.C c) = some (O.exi i c)
  blt : ∀ n ∈ bltNames, mg (Str.ofString n) = none
/-- a context that the check's facts hold of -/
structure OkX (p : Pg) (P : Program) (w : World) (K : Fg) (mg : Str → Option Value) (base : Heap) (B : Gx) (O : Orc) (k : Nat) (c : Pc) (W : WX) (G : Gx) (X : Cx) : Prop where
  eP : X.prog = P
  ew : X.w = w
  eK : X.K = K
  em : X.mg = mg
  eb : X.base = base
  eB : G.base = B
  bK : B.K = K
  he : G.e = none
  eN : X.N = c.N
  nd : c.N.Nodup
  es : X.env.scope = c.sc
  kd : c.sc.kind = .function
  fn : ∀ x, c.fnB x = true → X.fn x = true
  cal : c.calm = true → X.calm = true
  room : c.calm = true → Room k X.A
  un : X.A.units + 100 < cLine
  tk : Takes X W
  act : ∀ a, c.act = some a → ∀ (pn : List (Addr × Obj)) (xe : Value → Shared → Prop) (W : WX) (p1 p2 : Pos), Takes (X.tr pn xe) W → PE (X.tr pn xe) (.Call (.Name a p1) [] [] p2) (tE G W (callCF O))
  tab : c.tab = true → ∃ (cA Pt : Addr) (Tq : List (Addr × Str)), TabB X.base X.mg cA Pt ∧ X.env.code = .ref cA ∧ (Pt, X.env.qual ++ "<lambda>") ∈ Tq ∧ (∀ q ∈ Tq, q.1 = Pt → q.2 = X.env.qual ++ "<lambda>") ∧ G.T = Tq.map fun q => (q.1, fun _ _ => q.2)
section
variable {p : Pg} {P : Program} {w : World} {K : Fg} {mg : Str → Option Value} {base : Heap} {B : Gx} {O : Orc} {k : Nat} {c : Pc} {W : WX} {G : Gx} {X : Cx}
theorem OkX.GK (ok : OkX p P w K mg base B O k c W G X) : X.K = G.K := by
  have h : G.base.K = B.K := congrArg Gx.K ok.eB
  have h : G.K = B.K := h
  rw [ok.eK, h, ok.bK]
theorem and2 {a b : Bool} (h : (a && b) = true) : a = true ∧ b = true := Bool.and_eq_true_iff.mp h
theorem OkX.var (ok : OkX p P w K mg base B O k c W G X) {i : Nat} {x : Str} {pos : Pos} (h : varB c i x = true) : PE X (.Name x pos) (tVar i) := by
  obtain ⟨h, h4⟩ := and2 h
  obtain ⟨h, h3⟩ := and2 h
  obtain ⟨h1, h2⟩ := and2 h
  exact pe_var (by rw [ok.eN]; exact of_decide_eq_true h1) (by rw [ok.es]; exact vis_of h2) (by simpa [dbg] using h3) (by simpa [cdc] using h4)
theorem OkX.glo (ok : OkX p P w K mg base B O k c W G X) {x : Str} (h : gloB c x = true) : Gl X x ∧ (x == ("__debug__" : Str)) = false := by
  obtain ⟨h1, h2⟩ := and2 h
  exact ⟨by
    show X.env.scope.names.lookup x = _
    rw [ok.es]
    exact of_decide_eq_true h1, by simpa [dbg] using h2⟩
theorem OkX.blt (ok : OkX p P w K mg base B O k c W G X) (wo : Wo p P w K mg base B O k) {x : Str} {n : String} (h : bltB c x n = true) (hn : n ∈ bltNames) : x = Str.ofString n ∧ Gl X (Str.ofString n) ∧ X.mg (Str.ofString n) = none := by
  obtain ⟨h1, h2⟩ := and2 h
  have e := of_decide_eq_true h1
  subst e
  exact ⟨rfl, by
    show X.env.scope.names.lookup _ = _
    rw [ok.es]
    exact of_decide_eq_true h2, by
    rw [ok.em]
    exact wo.blt n hn⟩
/-! #### targets -/
mutual
theorem chkG_ok (ok : OkX p P w K mg base B O k c W G X) : ∀ (g : Tg) {e : Expr}, chkG c g e = true → PG X e (tgG G g)
  | .nm i, e, h => by
    unfold chkG at h
    split at h
    · rename_i x pos
      obtain ⟨h, h3⟩ := and2 h
      obtain ⟨h1, h2⟩ := and2 h
      refine g_name (pg_name (by rw [ok.eN]; exact ok.nd) (by rw [ok.eN]; exact of_decide_eq_true h1) (by rw [ok.es]; exact loc_of h2) ?_)
      rw [Bool.or_eq_true] at h3
      rcases h3 with h3 | h3
      · exact .inl (ok.fn x h3)
      · exact .inr (by rw [ok.es]; exact of_decide_eq_true h3)
    · cases h
  | .nl, e, h => by
    unfold chkG at h
    split at h
    · exact g_tup (ts := []) ok.GK (ok.cal h) rfl gs_nil rfl rfl
    · cases h
  | .cn g r, e, h => by
    unfold chkG at h
    split at h
    · rename_i x xs _ _
      obtain ⟨h, h3⟩ := and2 h
      obtain ⟨h1, h2⟩ := and2 h
      obtain ⟨h4, h5⟩ := and2 h3
      obtain ⟨h6, h7⟩ := and2 h2
      have hl : ∃ ts, tuplesTo (.cn g r) = some ts ∧ ts.length = (x :: xs).length := by
        obtain ⟨ts, e1, e2⟩ := chkGs_len r h5
        exact ⟨g :: ts, by unfold tuplesTo; rw [e1]; rfl, by simp [e2]⟩
      obtain ⟨ts, e1, e2⟩ := hl
      exact g_tup (ts := ts) ok.GK (ok.cal h1) e1 (gs_cons (chkG_ok ok g h4) (chkGs_ok ok r h5) (asgn_cons h6)) (by rw [asgn_len, e2]) (asgn_star (by rw [List.all_cons, h6, h7]; rfl))
    · cases h
theorem chkGs_ok (ok : OkX p P w K mg base B O k c W G X) : ∀ (g : Tg) {es : List Expr}, chkGs c g es = true → PGs X es (tgGs G g)
  | .nm i, es, h => by
    unfold chkGs at h
    cases h
  | .nl, es, h => by
    unfold chkGs at h
    cases es with
    | nil => exact gs_nil
    | cons _ _ => cases h
  | .cn g r, es, h => by
    unfold chkGs at h
    split at h
    · obtain ⟨h1, h2⟩ := and2 h
      obtain ⟨h3, h4⟩ := and2 h2
      exact gs_cons (chkG_ok ok g h3) (chkGs_ok ok r h4) (asgn_cons h1)
    · cases h
theorem chkGs_len : ∀ (g : Tg) {es : List Expr}, chkGs c g es = true → ∃ ts, tuplesTo g = some ts ∧ ts.length = es.length
  | .nm i, es, h => by
    unfold chkGs at h
    cases h
  | .nl, es, h => by
    unfold chkGs at h
    cases es with
    | nil => exact ⟨[], rfl, rfl⟩
    | cons _ _ => cases h
  | .cn g r, es, h => by
    unfold chkGs at h
    split at h
    · obtain ⟨h1, h2⟩ := and2 h
      obtain ⟨h3, h4⟩ := and2 h2
      obtain ⟨ts, e1, e2⟩ := chkGs_len r h4
      exact ⟨g :: ts, by unfold tuplesTo; rw [e1]; rfl, by simp [e2]⟩
    · cases h
end
/-! #### derived contexts -/
theorem OkX.blk (ok : OkX p P w K mg base B O k c W G X) {scope : Scope} (hk : scope.kind = .function) (s : Shared) (H : Hp) (C : Addr) (cl : List (Str × Addr)) (fp : List Addr) :
    OkX p P w K mg base B O k (blkPc c scope) Wn G (X.blk s H scope (compEnvC scope cl C X.env) fp) where
  eP := ok.eP
  ew := ok.ew
  eK := ok.eK
  em := ok.em
  eb := ok.eb
  eB := ok.eB
  bK := ok.bK
  he := ok.he
  eN := ok.eN
  nd := ok.nd
  es := by
    show relS scope X.env.scope = relS scope c.sc
    rw [ok.es]
  kd := hk
  fn := fun x h => by
    have h2 := of_decide_eq_true h
    show (scope.names.lookup x == some .cell) = true
    rw [h2]
    rfl
  cal := ok.cal
  room := ok.room
  un := ok.un
  tk := takes_none5
  act := fun a h => by cases h
  tab := fun h => by cases h
theorem OkX.lam {scope : Scope} {E : XK} (ok : OkX p P w K mg base B O k c W G X) (L : LamS X.env.scope scope) (A : Around) (outer : List Env) (s : Shared) (H : Hp) (f c' : Addr) {O' : Orc} {k' : Nat} (hr : Room k' (A.deeper (lamEnv X scope s.heap.objs.size f c'))) :
    OkX p P w K mg base B O' k' (lamPc c scope) (fun cls d _ H' => E cls d H') G.base (lamCx X A outer s H E scope f c') where
  eP := ok.eP
  ew := ok.ew
  eK := ok.eK
  em := ok.em
  eb := ok.eb
  eB := by
    rw [← ok.eB]
    rfl
  bK := ok.bK
  he := rfl
  eN := ok.eN
  nd := ok.nd
  es := rfl
  kd := L.kind
  fn := fun x h => by cases h
  cal := fun _ => rfl
  room := fun _ => hr
  un := by
    have := hr.un
    show (A.deeper (lamEnv X scope s.heap.objs.size f c')).units + 100 < cLine
    omega
  tk := L2.takes_of rfl rfl rfl rfl
  act := fun a h => by cases h
  tab := fun h => by cases h
end
end Ev
end
section
set_option Elab.async false
set_option linter.all false
set_option maxRecDepth 100000
set_option maxHeartbeats 1000000
set_option autoImplicit false
namespace Ev
open PySem L2 PySem.Spec PyProof.Rows LamX
def cloO (Pr : Prog) (fuel j : Nat) (b : E) : Orc := { orc Pr fuel j with clo := fun _ ρ => (orc Pr fuel j).clo b ρ }
structure AtL (Pr : Prog) (fuel n : Nat) (O : Orc) : Prop where
  call : O.call = (orc Pr fuel n).call
  exi : O.exi = (orc Pr fuel n).exi
  glb : O.glb = (orc Pr fuel n).glb
  fuel_ : O.fuel = (orc Pr fuel n).fuel
/-- a def that gets a lambda -/
def CloF (p : Pg) (Pr : Prog) (fuel : Nat) (P : Program) (w : World) (K : Fg) (mg : Str → Option Value) (base : Heap) (B : Gx) (m : Nat) : Prop :=
  ∀ f x n', p.fns[f]? = some (x, n', true) → ∃ (g : Addr) (fd : FuncData) (pg : Arguments) (bg : List Stmt) (sg : Scope) (Ng : List Str) (a : Str) (St : S), mg x = some (.ref g) ∧ FunD K x x pg bg sg [] [] g fd ∧ Binds K fd [a] [] ∧ FnScope Ng [a] sg ∧ Ng[0]? = some a ∧ Vis sg a ∧
    (a == ("__debug__" : Str)) = false ∧ (a == ("__classdict__" : Str)) = false ∧ ∀ j, m = j + 1 → ∀ b, (∀ sl, (orc Pr fuel m).call f [] (some (sl, b)) = endC (evS (cloO Pr fuel j b) St ⟨List.replicate Ng.length .no, true, some (sl, b)⟩)) ∧
      ∀ (A : Around) (stack : List Env) (cdv : Value) (s : Shared) (H : Hp) (G : Gx) (f' c' : Addr) (q : Str) (σ : L2.St), G.base = B → Room (j + 1) (A.deeper (envOfC x sg s.heap.objs.size g cdv)) →
        (∀ (W : WX) (pn : List (Addr × Obj)) (xe : Value → Shared → Prop) (p1 p2 : Pos), Takes ((cxOf C8.CX0 P w K mg base Ng x sg g cdv A stack s H C8.E0).tr pn xe) W →
          PE ((cxOf C8.CX0 P w K mg base Ng x sg g cdv A stack s H C8.E0).tr pn xe) (.Call (.Name a p1) [] [] p2) (tE (G.clo f' c' q σ) W (callCF (cloO Pr fuel j b)))) →
        PSs (cxOf C8.CX0 P w K mg base Ng x sg g cdv A stack s H C8.E0).nox bg (tS (G.clo f' c' q σ) Wn (evS (cloO Pr fuel j b) St))
structure Lv (p : Pg) (Pr : Prog) (fuel : Nat) (P : Program) (w : World) (K : Fg) (mg : Str → Option Value) (base : Heap) (B : Gx) (n : Nat) : Prop where
  wo : ∀ m, m ≤ n → Wo p P w K mg base B (orc Pr fuel m) (m + 1)
  clo : ∀ m, m ≤ n → CloF p Pr fuel P w K mg base B m
theorem Lv.mono {p : Pg} {Pr : Prog} {fuel : Nat} {P : Program} {w : World} {K : Fg} {mg : Str → Option Value} {base : Heap} {B : Gx} {n m : Nat} (l : Lv p Pr fuel P w K mg base B n) (h : m ≤ n) : Lv p Pr fuel P w K mg base B m :=
  ⟨fun i hi => l.wo i (Nat.le_trans hi h), fun i hi => l.clo i (Nat.le_trans hi h)⟩
theorem Wo.at {p : Pg} {Pr : Prog} {fuel n k : Nat} {O : Orc} {P : Program} {w : World} {K : Fg} {mg : Str → Option Value} {base : Heap} {B : Gx} (h : Wo p P w K mg base B (orc Pr fuel n) k) (a : AtL Pr fuel n O) : Wo p P w K mg base B O k :=
  ⟨by rw [a.call]; exact h.fns, by rw [a.glb]; exact h.glb, h.cls, by rw [a.exi]; exact h.exm, h.blt⟩
theorem pe_false {X : Cx} {e : Expr} {t : TE} (h : ∀ σ H Q, ¬ t σ H Q) : PE X e t := ⟨fun _ _ σ H Q _ q => (h σ H Q q).elim⟩
theorem tE_stk {G : Gx} {W : WX} {σ : L2.St} {H : Hp} {Q : VK} {ev : Ev1} (h : ∀ ρ, ev ρ = .stk) : ¬ tE G W ev σ H Q := fun ⟨R, F, ρ, _, q⟩ => by
  rw [h] at q
  exact q
section
variable {p : Pg} {Pr : Prog} {fuel : Nat} {P : Program} {w : World} {K : Fg} {mg : Str → Option Value} {base : Heap} {B : Gx}
theorem OkX.fnok {O : Orc} {k : Nat} {c : Pc} {W : WX} {G : Gx} {X : Cx} (ok : OkX p P w K mg base B O k c W G X) (wo : Wo p P w K mg base B O k) {f : Nat} {x : Str} (h : fnNm p f x false = true) :
    ∃ (fa : Addr) (fd : FuncData) (ps : List Str), X.mg x = some (.ref fa) ∧ PySem.W.keepIn X.K (.ref fa) = true ∧
    FnOk X.prog X.w X.K X.mg X.base (L2.CX X.prog X.w) k fa fd ps (spF G.base ps.length fun as => O.call f as none) ∧ Binds X.K fd ps [] ∧ ∀ as, as.length ≠ ps.length → O.call f as none = .stk := by
  unfold fnNm at h
  split at h
  · rename_i y n b e
    obtain ⟨h1, h2⟩ := and2 h
    have h1 := of_decide_eq_true h1
    have h2 : b = false := by simpa using h2
    subst h1 h2
    rw [ok.eP, ok.ew, ok.eK, ok.em, ok.eb, ok.eB]
    exact wo.fns f _ n e
  · cases h
theorem lam_bind0 {params : Arguments} (h : params = ⟨[], [], none, [], [], none, []⟩) (body : Expr) (scope : Scope) (q : Str) (cl : List (Str × Addr)) (pm cv ctv : Value) : bindArgs (PySem.W.kla_fn "<lambda>" q params body scope cl pm cv ctv) ⟨[], []⟩ = pure [] := by
  subst h
  rfl
theorem lam_bind1 {ap : Pos} (body : Expr) (scope : Scope) (q : Str) (cl : List (Str × Addr)) (pm cv ctv v : Value) : bindArgs (PySem.W.kla_fn "<lambda>" q ⟨[], [⟨("lot" : Str), none, ap⟩], none, [], [], none, []⟩ body scope cl pm cv ctv) ⟨[v], []⟩ = pure [(("lot" : Str), v)] := by
  rfl
theorem pe_bi {O : Orc} {k : Nat} {c : Pc} {W : WX} {G : Gx} {X : Cx} (ok : OkX p P w K mg base B O k c W G X) (wo : Wo p P w K mg base B O k) {b : Bi} {x : Str} {y : Expr} {ys : List Expr} {q pos : Pos} {eer : Fr → Out (List Rs)}
    (h1 : bltB c x (biName b) = true) (h2 : notStar y = true) (h3 : ys.all notStar = true) (h4 : (!biCalm b || c.calm) = true) (ha : PA X (y :: ys) (tAr G W eer)) : PE X (.Call (.Name x q) (y :: ys) [] pos) (tE G W (biF b eer)) := by
  obtain ⟨rfl, hg, hm⟩ := ok.blt wo h1 (by cases b <;> decide)
  have un := ok.un
  have cal : biCalm b = true → X.calm = true := fun z => ok.cal (by
    rw [z] at h4
    simpa using h4)
  cases b with
  | len => exact (pe_callB (cr_len' ok.GK) hg hm (by decide +kernel) ha (by decide) (by decide) (star_cons h2) (star_any h3)).weak fun σ H Q q => tCB_of q
  | abs => exact (pe_callB (cr_abs' ok.GK) hg hm (by decide +kernel) ha (by decide) (by decide) (star_cons h2) (star_any h3)).weak fun σ H Q q => tCB_of q
  | sum => exact (pe_callB (cr_sum' ok.GK (cal rfl)) hg hm (by decide +kernel) ha (by decide) (by decide) (star_cons h2) (star_any h3)).weak fun σ H Q q => tCB_of q
  | min => exact (pe_callB (cr_min' ok.GK (cal rfl)) hg hm (by decide +kernel) ha (by decide) (by decide) (star_cons h2) (star_any h3)).weak fun σ H Q q => tCB_of q
  | max => exact (pe_callB (cr_max' ok.GK (cal rfl)) hg hm (by decide +kernel) ha (by decide) (by decide) (star_cons h2) (star_any h3)).weak fun σ H Q q => tCB_of q
  | min2 => exact (pe_callB (cr_min2' ok.GK (cal rfl)) hg hm (by decide +kernel) ha (by decide) (by decide) (star_cons h2) (star_any h3)).weak fun σ H Q q => tCB_of q
  | max2 => exact (pe_callB (cr_max2' ok.GK (cal rfl)) hg hm (by decide +kernel) ha (by decide) (by decide) (star_cons h2) (star_any h3)).weak fun σ H Q q => tCB_of q
  | all => exact (pe_callB (cr_all' ok.GK (cal rfl)) hg hm (by decide +kernel) ha (by decide) (by decide) (star_cons h2) (star_any h3)).weak fun σ H Q q => tCB_of q
  | any => exact (pe_callB (cr_any' ok.GK (cal rfl)) hg hm (by decide +kernel) ha (by decide) (by decide) (star_cons h2) (star_any h3)).weak fun σ H Q q => tCB_of q
  | sorted => exact (pe_callB (cr_sorted' ok.GK (by omega)) hg hm (by decide +kernel) ha (by decide) (by decide) (star_cons h2) (star_any h3)).weak fun σ H Q q => tCB_of q
  | list => exact (pe_callTy (cr_list' ok.GK) hg hm (by decide +kernel) ha (by decide) (by decide) (star_cons h2) (star_any h3)).weak fun σ H Q q => tCB_of q
  | tuple => exact (pe_callTy (cr_tuple' ok.GK) hg hm (by decide +kernel) ha (by decide) (by decide) (star_cons h2) (star_any h3)).weak fun σ H Q q => tCB_of q
  | int => exact (pe_callTy (cr_int' ok.GK) hg hm (by decide +kernel) ha (by decide) (by decide) (star_cons h2) (star_any h3)).weak fun σ H Q q => tCB_of q
  | repr => exact (pe_callB (cr_repr' ok.GK) hg hm (by decide +kernel) ha (by decide) (by decide) (star_cons h2) (star_any h3)).weak fun σ H Q q => tCB_of q
variable {N0 : Nat}
mutual
theorem chkE_ok (lv : Lv p Pr fuel P w K mg base B N0) : ∀ (ir : E) {n : Nat} {O : Orc} {c : Pc} {W : WX} {G : Gx} {X : Cx} {e : Expr}, n ≤ N0 → AtL Pr fuel n O → OkX p P w K mg base B O (n + 1) c W G X → chkE p ir c e = true → PE X e (tE G W (evE O ir))
  | .var i, n, O, c, W, G, X, e, hn, ha, ok, h => by
    unfold chkE at h
    split at h
    · exact snd_var (ok.var h)
    · cases h
  | .pk i, n, O, c, W, G, X, e, hn, ha, ok, h => by
    unfold chkE at h
    split at h
    · exact snd_pk (ok.var h)
    · cases h
  | .glb g, n, O, c, W, G, X, e, hn, ha, ok, h => by
    unfold chkE at h
    split at h
    · obtain ⟨h1, h2⟩ := and2 h
      obtain ⟨d, u, v, e1, e2, r, rp⟩ := ((lv.wo n hn).at ha).glb _ _ (of_decide_eq_true h1)
      obtain ⟨hg, hd⟩ := ok.glo h2
      show PE X _ (tE G W fun ρ => match O.glb g with | some d => .ok (.v d) ρ | none => .stk)
      rw [e1]
      refine snd_c (pe_glob hg (by rw [ok.em]; exact e2) r hd) fun F => ?_
      rw [← ok.GK, ok.eK]
      exact rp F
    · cases h
  | .cst d, n, O, c, W, G, X, e, hn, ha, ok, h => by
    unfold chkE at h
    split at h
    · split at h
      · exact snd_c pe_non fun F => .non
      · cases h
    · split at h
      · have h := of_decide_eq_true h
        subst h
        exact snd_c pe_bl fun F => .bl _
      · cases h
    · split at h
      · have h := of_decide_eq_true h
        subst h
        exact snd_c pe_int fun F => .int _
      · cases h
    · split at h
      · have h := of_decide_eq_true h
        subst h
        exact snd_c pe_str fun F => .str _
      · cases h
    · cases h
  | .tup es, n, O, c, W, G, X, e, hn, ha, ok, h => by
    unfold chkE at h
    split at h
    · exact snd_tup (chkEs_ok lv es hn ha ok h)
    · cases h
  | .lst es, n, O, c, W, G, X, e, hn, ha, ok, h => by
    unfold chkE at h
    split at h
    · exact snd_lst (chkEs_ok lv es hn ha ok h)
    · cases h
  | .dic, n, O, c, W, G, X, e, hn, ha, ok, h => by
    unfold chkE at h
    cases h
  | .bin o a b, n, O, c, W, G, X, e, hn, ha, ok, h => by
    unfold chkE at h
    split at h
    · obtain ⟨h1, h2⟩ := and2 h
      obtain ⟨h3, h4⟩ := and2 h2
      have h1 := of_decide_eq_true h1
      subst h1
      exact snd_bin (op_all ok.GK o) (chkE_ok lv a hn ha ok h3) (chkE_ok lv b hn ha ok h4)
    · cases h
  | .neg a, n, O, c, W, G, X, e, hn, ha, ok, h => by
    unfold chkE at h
    split at h
    · exact snd_neg (chkE_ok lv a hn ha ok h)
    · cases h
  | .notV a, n, O, c, W, G, X, e, hn, ha, ok, h => by
    unfold chkE at h
    split at h
    · exact snd_notV (chkE_ok lv a hn ha ok h)
    · cases h
  | .cmp o a b, n, O, c, W, G, X, e, hn, ha, ok, h => by
    unfold chkE at h
    split at h
    · obtain ⟨h1, h2⟩ := and2 h
      obtain ⟨h3, h4⟩ := and2 h2
      obtain ⟨h5, h6⟩ := and2 h1
      have h5 := of_decide_eq_true h5
      subst h5
      exact snd_cmp ok.GK (by have := ok.un; omega) (chkE_ok lv a hn ha ok h3) (chkE_ok lv b hn ha ok h4) (marks_of h6)
    · cases h
  | .chain o q a b d, n, O, c, W, G, X, e, hn, ha, ok, h => by
    unfold chkE at h
    split at h
    · obtain ⟨h1, h2⟩ := and2 h
      obtain ⟨h3, h4⟩ := and2 h2
      obtain ⟨h5, h6⟩ := and2 h4
      obtain ⟨h7, h8⟩ := and2 h1
      obtain ⟨h9, h10⟩ := and2 h7
      have h9 := of_decide_eq_true h9
      have h10 := of_decide_eq_true h10
      subst h9 h10
      exact snd_chain ok.GK (by have := ok.un; omega) (chkE_ok lv a hn ha ok h3) (chkE_ok lv b hn ha ok h5) (chkE_ok lv d hn ha ok h6) (lastMarks_of h8)
    · cases h
  | .and a b, n, O, c, W, G, X, e, hn, ha, ok, h => by
    unfold chkE at h
    split at h
    · obtain ⟨h1, h2⟩ := and2 h
      exact snd_and (chkE_ok lv a hn ha ok h1) (snd_one (chkE_ok lv b hn ha ok h2))
    · obtain ⟨h1, h2⟩ := and2 h
      exact snd_and (chkE_ok lv a hn ha ok h1) (chkE_ok lv b hn ha ok h2)
    · cases h
  | .or a b, n, O, c, W, G, X, e, hn, ha, ok, h => by
    unfold chkE at h
    split at h
    · obtain ⟨h1, h2⟩ := and2 h
      exact snd_or (chkE_ok lv a hn ha ok h1) (snd_one (chkE_ok lv b hn ha ok h2))
    · obtain ⟨h1, h2⟩ := and2 h
      exact snd_or (chkE_ok lv a hn ha ok h1) (chkE_ok lv b hn ha ok h2)
    · cases h
  | .tst _, n, O, c, W, G, X, e, hn, ha, ok, h => by
    unfold chkE at h
    cases h
  | .ite t a b, n, O, c, W, G, X, e, hn, ha, ok, h => by
    unfold chkE at h
    split at h
    · obtain ⟨h1, h2⟩ := and2 h
      obtain ⟨h3, h4⟩ := and2 h2
      exact snd_ite (ec := evE O a) (chkT_ok lv t hn ha ok h1).1 (chkE_ok lv a hn ha ok h3) (chkE_ok lv b hn ha ok h4)
    · cases h
  | .idx a i, n, O, c, W, G, X, e, hn, ha, ok, h => by
    unfold chkE at h
    split at h
    · obtain ⟨h1, h2⟩ := and2 h
      obtain ⟨h3, h4⟩ := and2 h2
      exact snd_idx ok.GK (chkE_ok lv a hn ha ok h3) (chkE_ok lv i hn ha ok h4) (plainIx_of h1)
    · cases h
  | .slc a lo hi, n, O, c, W, G, X, e, hn, ha, ok, h => by
    unfold chkE at h
    split at h
    · rename_i x l hh _ _
      obtain ⟨h1, h2⟩ := and2 h
      obtain ⟨h3, h4⟩ := and2 h2
      refine snd_slc ok.GK (chkE_ok lv a hn ha ok h1) (snd_part (ab := isAbs lo) (ea := evE O lo) ?_) (snd_part (ab := isAbs hi) (ea := evE O hi) ?_)
      · cases l with
        | none => exact h3
        | some y =>
          obtain ⟨h5, h6⟩ := and2 h3
          exact ⟨by simpa using h5, chkE_ok lv lo hn ha ok h6⟩
      · cases hh with
        | none => exact h4
        | some y =>
          obtain ⟨h5, h6⟩ := and2 h4
          exact ⟨by simpa using h5, chkE_ok lv hi hn ha ok h6⟩
    · cases h
  | .call f es, n, O, c, W, G, X, e, hn, ha, ok, h => by
    unfold chkE at h
    split at h
    · obtain ⟨h, h6⟩ := and2 h
      obtain ⟨h, h5⟩ := and2 h
      obtain ⟨h, h4⟩ := and2 h
      obtain ⟨h1, h2⟩ := and2 h
      obtain ⟨h7, h8⟩ := and2 h5
      obtain ⟨fa, fd, ps, m1, m2, m3, m4, m5⟩ := ok.fnok ((lv.wo n hn).at ha) h1
      obtain ⟨hg, hd⟩ := ok.glo h2
      exact snd_call m3 (ok.room h4) ok.tk ok.he hg m1 m2 m4 (chkEs_ok lv es hn ha ok h6) m5 hd (star_cons h7) (star_any h8)
    · cases h
  | .callM f i es, n, O, c, W, G, X, e, hn, ha, ok, h => by
    unfold chkE at h
    split at h
    · obtain ⟨h, h6⟩ := and2 h
      obtain ⟨h, h5⟩ := and2 h
      obtain ⟨h, h4⟩ := and2 h
      obtain ⟨h, h3⟩ := and2 h
      obtain ⟨h1, h2⟩ := and2 h
      obtain ⟨fa, fd, ps, m1, m2, m3, m4, m5⟩ := ok.fnok ((lv.wo n hn).at ha) h1
      obtain ⟨hg, hd⟩ := ok.glo h2
      exact snd_callM m3 (ok.room h3) ok.tk ok.he hg m1 m2 m4 (ok.var h4) (chkEs_ok lv es hn ha ok h6) m5 hd (star_any h5)
    · cases h
  | .callL f b, n, O, c, W, G, X, e, hn, ha, ok, h => by
    unfold chkE at h
    split at h
    · rename_i x q body scope lp pos
      obtain ⟨h, h6⟩ := and2 h
      obtain ⟨h, h5⟩ := and2 h
      obtain ⟨h, h4⟩ := and2 h
      obtain ⟨h, h3⟩ := and2 h
      obtain ⟨h1, h2⟩ := and2 h
      obtain ⟨hg, hd⟩ := ok.glo h2
      have hL : LamS X.env.scope scope := lamS_by (by rw [ok.es]; exact h5)
      cases n with
      | zero =>
        refine pe_false fun σ H Q => tE_stk fun ρ => ?_
        show callLF O f b ρ = .stk
        unfold callLF
        rw [ha.call]
        split
        · rfl
        · rfl
      | succ j =>
        have hf : ∃ n', p.fns[f]? = some (x, n', true) := by
          unfold fnNm at h1
          split at h1
          · rename_i y n' b' e'
            obtain ⟨q1, q2⟩ := and2 h1
            have q1 := of_decide_eq_true q1
            have q2 : b' = true := by simpa using q2
            subst q1 q2
            exact ⟨n', e'⟩
          · cases h1
        obtain ⟨n', hf⟩ := hf
        obtain ⟨g, fd, pg, bg, sg, Ng, a, St, c1, c2, c3, c4, c5, c6, c7, c8, c9⟩ := lv.clo (j + 1) hn f x n' hf
        obtain ⟨d1, d2⟩ := c9 j rfl b
        obtain ⟨cA, Pt, Tq, t1, t2, t3, t4, t5⟩ := ok.tab h4
        have hcall : ∀ sl, O.call f [] (some (sl, b)) = endC (evS (cloO Pr fuel j b) St ⟨List.replicate Ng.length .no, true, some (sl, b)⟩) := by
          rw [ha.call]
          exact d1
        have base0 := ok.eB
        have := ok.eP
        have := ok.ew
        have := ok.eK
        have := ok.em
        have := ok.eb
        refine snd_callL (k := j) (O2 := cloO Pr fuel j b) (clo := fun ρ => (orc Pr fuel j).clo b ρ) (St := St) ok.he hg (by rw [ok.em]; exact c1) (by rw [ok.eK]; exact c2) (by rw [ok.eK]; exact c3) c4 c5 c6 t1 t2 t3 t4 t5 (ok.room h3) hL rfl
          (fun q cl pm cv ctv => lam_bind0 rfl body scope q cl pm cv ctv) (fun E A outer s H f' c' hr => ?_) (fun _ => rfl) (fun cdv s H f' c' q σ hr hact => ?_) hcall hd c7 c8
        · cases j with
          | zero => exact pe_false fun σ H Q => tE_stk fun ρ => rfl
          | succ i => exact chkE_ok lv b (n := i) (O := orc Pr fuel i) (by omega) ⟨rfl, rfl, rfl, rfl⟩ (ok.lam hL A outer s H f' c' hr) h6
        · have z := d2 X.A X.stack cdv s H G f' c' q σ base0 hr
          rw [← ok.eP, ← ok.ew, ← ok.eK, ← ok.em, ← ok.eb] at z
          exact z hact
    · cases h
  | .callC i, n, O, c, W, G, X, e, hn, ha, ok, h => by
    unfold chkE at h
    split at h
    · obtain ⟨h1, h2⟩ := and2 h
      exact ok.act _ (of_decide_eq_true h1) X.pn X.xe W _ _ ok.tk
    · cases h
  | .bi b es, n, O, c, W, G, X, e, hn, ha, ok, h => by
    unfold chkE at h
    split at h
    · obtain ⟨h, h4⟩ := and2 h
      obtain ⟨h, h3⟩ := and2 h
      obtain ⟨h1, h2⟩ := and2 h
      obtain ⟨h5, h6⟩ := and2 h2
      exact pe_bi ok ((lv.wo n hn).at ha) h1 h5 h6 h3 (chkEr_ok lv es hn ha ok h4)
    · cases h
  | .lrg a b, n, O, c, W, G, X, e, hn, ha, ok, h => by
    unfold chkE at h
    split at h
    · obtain ⟨h, h6⟩ := and2 h
      obtain ⟨h, h5⟩ := and2 h
      obtain ⟨h, h4⟩ := and2 h
      obtain ⟨h, h3⟩ := and2 h
      obtain ⟨h1, h2⟩ := and2 h
      obtain ⟨h7, h8⟩ := and2 h6
      obtain ⟨rfl, g1, m1⟩ := ok.blt ((lv.wo n hn).at ha) h1 (by decide)
      obtain ⟨rfl, g2, m2⟩ := ok.blt ((lv.wo n hn).at ha) h2 (by decide)
      exact snd_lrg (ok.cal h3) g1 m1 g2 m2 (chkE_ok lv a hn ha ok h7) (chkE_ok lv b hn ha ok h8) (star_cons h4) (star_cons h5) rfl
    · cases h
  | .lrg1 a, n, O, c, W, G, X, e, hn, ha, ok, h => by
    unfold chkE at h
    split at h
    · obtain ⟨h, h5⟩ := and2 h
      obtain ⟨h, h4⟩ := and2 h
      obtain ⟨h, h3⟩ := and2 h
      obtain ⟨h1, h2⟩ := and2 h
      obtain ⟨rfl, g1, m1⟩ := ok.blt ((lv.wo n hn).at ha) h1 (by decide)
      obtain ⟨rfl, g2, m2⟩ := ok.blt ((lv.wo n hn).at ha) h2 (by decide)
      exact snd_lrg1 (ok.cal h3) g1 m1 g2 m2 (chkE_ok lv a hn ha ok h5) (star_cons h4) rfl
    · cases h
  | .isi a ty, n, O, c, W, G, X, e, hn, ha, ok, h => by
    unfold chkE at h
    split at h
    · obtain ⟨h, h4⟩ := and2 h
      obtain ⟨h, h3⟩ := and2 h
      obtain ⟨h1, h2⟩ := and2 h
      obtain ⟨rfl, g1, m1⟩ := ok.blt ((lv.wo n hn).at ha) h1 (by decide)
      obtain ⟨rfl, g2, m2⟩ := ok.blt ((lv.wo n hn).at ha) h2 (by cases ty <;> decide)
      exact snd_isi ok.GK (chkE_ok lv a hn ha ok h4) g1 m1 g2 m2 (star_cons h3)
    · cases h
  | .mth _ _ _, n, O, c, W, G, X, e, hn, ha, ok, h => by
    unfold chkE at h
    cases h
  | .pop _ _, n, O, c, W, G, X, e, hn, ha, ok, h => by
    unfold chkE at h
    cases h
  | .comp own g it t d, n, O, c, W, G, X, e, hn, ha, ok, h => by
    unfold chkE at h
    split at h
    · rename_i elt tg iter ifs scope pos
      obtain ⟨h, h5⟩ := and2 h
      obtain ⟨h, h4⟩ := and2 h
      obtain ⟨h, h3⟩ := and2 h
      obtain ⟨h1, h2⟩ := and2 h
      obtain ⟨h6, h7⟩ := and2 h5
      obtain ⟨h8, h9⟩ := and2 h7
      obtain ⟨h10, h11⟩ := and2 h9
      have hb : BlkOk X.N X.env.scope scope (ownN c own) := blkOk_by (by rw [ok.eN, ok.es]; exact h3)
      have okb := fun s H C cl fp => ok.blk (scope := scope) hb.kind s H C cl fp
      have pc := pe_lc (ifs := ifs) (pos := pos) (ok.cal h1) (by rw [ok.eN]; exact ok.nd) (chkI_ok lv it hn ha ok h6) hb (fun s H C cl fp => chkG_ok (okb s H C cl fp) g h8)
        (tt := tT G Wn (evT O t)) (fun s H C cl fp => by
          split at h11
          · cases t with
            | tt => exact ts_nil
            | _ => cases h11
          · exact ts_one (chkT_ok lv t hn ha (okb s H C cl fp) h11).1
          · cases h11) (fun s H C cl fp => chkE_ok lv d hn ha (okb s H C cl fp) h10) (folded_of h2)
      rw [ownN_snd] at pc
      exact pc.weak fun σ H Q q => comp_of ok.he ok.GK (fun i hi => by
        have z := (List.all_eq_true.mp h4) i hi
        simpa using z) q
    · cases h
  | .sortL a, n, O, c, W, G, X, e, hn, ha, ok, h => by
    unfold chkE at h
    split at h
    · obtain ⟨h, h12⟩ := and2 h
      obtain ⟨h, h11⟩ := and2 h
      obtain ⟨h, h10⟩ := and2 h
      obtain ⟨h, h9⟩ := and2 h
      obtain ⟨h, h8⟩ := and2 h
      obtain ⟨h, h7⟩ := and2 h
      obtain ⟨h, h6⟩ := and2 h
      obtain ⟨h, h5⟩ := and2 h
      obtain ⟨h, h4⟩ := and2 h
      obtain ⟨h1, h2⟩ := and2 h
      have h2 := of_decide_eq_true h2
      have h4 := of_decide_eq_true h4
      have h5 := of_decide_eq_true h5
      have h6 := of_decide_eq_true h6
      have h7 := of_decide_eq_true h7
      subst h2 h4 h5
      subst h6 h7
      obtain ⟨rfl, g1, m1⟩ := ok.blt ((lv.wo n hn).at ha) h1 (by decide)
      obtain ⟨cA, Pt, Tq, t1, t2, t3, t4, t5⟩ := ok.tab h10
      unfold keyScope at h11
      simp only [Bool.and_eq_true, decide_eq_true_eq, List.all_eq_true, Bool.not_eq_true', decide_eq_false_iff_not] at h11
      obtain ⟨⟨⟨⟨⟨⟨k1, k2⟩, k3⟩, k4⟩, k5⟩, k6⟩, k7⟩ := h11
      exact snd_sortL ok.GK ok.he (chkE_ok lv a hn ha ok h12) (star_cons h8) g1 m1 (by rw [ok.em]; exact (lv.wo n hn).blt "len" (by decide)) t1 t2 t3 t4 t5 ((ok.room h9).mono (Nat.zero_le _)) rfl (fun y hy => (k6 y hy).2)
        (fun q cl pm cv ctv v => lam_bind1 _ _ q cl pm cv ctv v) k1 k2 k3 k4 (fun y hy => (k6 y hy).1) k5 (by simpa [dbg] using k7)
    · cases h
  | .exi _ _, n, O, c, W, G, X, e, hn, ha, ok, h => by
    unfold chkE at h
    cases h
theorem chkT_ok (lv : Lv p Pr fuel P w K mg base B N0) : ∀ (ir : T) {n : Nat} {O : Orc} {c : Pc} {W : WX} {G : Gx} {X : Cx} {e : Expr}, n ≤ N0 → AtL Pr fuel n O → OkX p P w K mg base B O (n + 1) c W G X → chkT p ir c e = true →
    PT X e (tT G W (evT O ir)) ∧ (plainT e = false → (∃ op l q, e = .BoolOp op l q) → PW X e (tT G W (evT O ir)))
  | .tt, n, O, c, W, G, X, e, hn, ha, ok, h => by
    unfold chkT at h
    cases h
  | .val a, n, O, c, W, G, X, e, hn, ha, ok, h => by
    unfold chkT at h
    obtain ⟨h1, h2⟩ := and2 h
    exact ⟨snd_val (chkE_ok lv a hn ha ok h2) ok.GK (plainT_of h1), fun z => by rw [z] at h1; cases h1⟩
  | .cmp o a b, n, O, c, W, G, X, e, hn, ha, ok, h => by
    unfold chkT at h
    split at h
    · obtain ⟨h1, h2⟩ := and2 h
      obtain ⟨h3, h4⟩ := and2 h2
      obtain ⟨h5, h6⟩ := and2 h1
      have h5 := of_decide_eq_true h5
      subst h5
      exact ⟨snd_cmpT ok.GK (by have := ok.un; omega) (chkE_ok lv a hn ha ok h3) (chkE_ok lv b hn ha ok h4) (marks_of h6), fun _ z => by obtain ⟨_, _, _, z⟩ := z; cases z⟩
    · cases h
  | .chain o q a b d, n, O, c, W, G, X, e, hn, ha, ok, h => by
    unfold chkT at h
    split at h
    · obtain ⟨h1, h2⟩ := and2 h
      obtain ⟨h3, h4⟩ := and2 h2
      obtain ⟨h5, h6⟩ := and2 h4
      obtain ⟨h7, h8⟩ := and2 h1
      obtain ⟨h9, h10⟩ := and2 h7
      have h9 := of_decide_eq_true h9
      have h10 := of_decide_eq_true h10
      subst h9 h10
      exact ⟨snd_chainT ok.GK (by have := ok.un; omega) (chkE_ok lv a hn ha ok h3) (chkE_ok lv b hn ha ok h5) (chkE_ok lv d hn ha ok h6) (lastMarks_of h8), fun _ z => by obtain ⟨_, _, _, z⟩ := z; cases z⟩
    · cases h
  | .and a b, n, O, c, W, G, X, e, hn, ha, ok, h => by
    unfold chkT at h
    split at h
    · rename_i x y q
      obtain ⟨h1, h2⟩ := and2 h
      have z := snd_wand (pos := q) (chkT_ok lv a hn ha ok h1).1 (pw_and1 (chkT_ok lv b hn ha ok h2).1)
      exact ⟨z.pt, fun _ _ => z⟩
    · rename_i x y z0 r q
      obtain ⟨h1, h2⟩ := and2 h
      have z := snd_wand (pos := q) (chkT_ok lv a hn ha ok h1).1 ((chkT_ok lv b hn ha ok h2).2 rfl ⟨_, _, _, rfl⟩)
      exact ⟨z.pt, fun _ _ => z⟩
    · cases h
  | .or a b, n, O, c, W, G, X, e, hn, ha, ok, h => by
    unfold chkT at h
    split at h
    · rename_i x y q
      obtain ⟨h1, h2⟩ := and2 h
      have z := snd_wor (pos := q) (chkT_ok lv a hn ha ok h1).1 (pw_or1 (chkT_ok lv b hn ha ok h2).1)
      exact ⟨z.pt, fun _ _ => z⟩
    · rename_i x y z0 r q
      obtain ⟨h1, h2⟩ := and2 h
      have z := snd_wor (pos := q) (chkT_ok lv a hn ha ok h1).1 ((chkT_ok lv b hn ha ok h2).2 rfl ⟨_, _, _, rfl⟩)
      exact ⟨z.pt, fun _ _ => z⟩
    · cases h
  | .not a, n, O, c, W, G, X, e, hn, ha, ok, h => by
    unfold chkT at h
    split at h
    · exact ⟨snd_not (chkT_ok lv a hn ha ok h).1, fun _ z => by obtain ⟨_, _, _, z⟩ := z; cases z⟩
    · cases h
theorem chkEs_ok (lv : Lv p Pr fuel P w K mg base B N0) : ∀ (ir : Es) {n : Nat} {O : Orc} {c : Pc} {W : WX} {G : Gx} {X : Cx} {es : List Expr}, n ≤ N0 → AtL Pr fuel n O → OkX p P w K mg base B O (n + 1) c W G X → chkEs p ir c es = true → PA X es (tAs G W (evEs O ir))
  | .nil, n, O, c, W, G, X, es, hn, ha, ok, h => by
    unfold chkEs at h
    cases es with
    | nil => exact snd_nil
    | cons _ _ => cases h
  | .cons a r, n, O, c, W, G, X, es, hn, ha, ok, h => by
    unfold chkEs at h
    split at h
    · obtain ⟨h1, h2⟩ := and2 h
      obtain ⟨h3, h4⟩ := and2 h2
      exact snd_cons (chkE_ok lv a hn ha ok h3) (chkEs_ok lv r hn ha ok h4) (star_cons h1)
    · cases h
theorem chkEr_ok (lv : Lv p Pr fuel P w K mg base B N0) : ∀ (ir : Es) {n : Nat} {O : Orc} {c : Pc} {W : WX} {G : Gx} {X : Cx} {es : List Expr}, n ≤ N0 → AtL Pr fuel n O → OkX p P w K mg base B O (n + 1) c W G X → chkEr p ir c es = true → PA X es (tAr G W (evEr O ir))
  | .nil, n, O, c, W, G, X, es, hn, ha, ok, h => by
    unfold chkEr at h
    cases es with
    | nil => exact snd_nilR
    | cons _ _ => cases h
  | .cons a r, n, O, c, W, G, X, es, hn, ha, ok, h => by
    unfold chkEr at h
    split at h
    · obtain ⟨h1, h2⟩ := and2 h
      obtain ⟨h3, h4⟩ := and2 h2
      exact snd_consR (chkE_ok lv a hn ha ok h3) (chkEr_ok lv r hn ha ok h4) (star_cons h1)
    · cases h
theorem chkI_ok (lv : Lv p Pr fuel P w K mg base B N0) : ∀ (ir : It) {n : Nat} {O : Orc} {c : Pc} {W : WX} {G : Gx} {X : Cx} {tg e : Expr}, n ≤ N0 → AtL Pr fuel n O → OkX p P w K mg base B O (n + 1) c W G X → chkI p ir c tg e = true → PI X tg e (tI G W (hid ir) (evI O ir))
  | .seq a, n, O, c, W, G, X, tg, e, hn, ha, ok, h => by
    unfold chkI at h
    exact i_seq ok.GK (chkE_ok lv a hn ha ok h)
  | .rng1 a, n, O, c, W, G, X, tg, e, hn, ha, ok, h => by
    unfold chkI at h
    split at h
    · obtain ⟨h, h3⟩ := and2 h
      obtain ⟨h1, h2⟩ := and2 h
      obtain ⟨rfl, g1, m1⟩ := ok.blt ((lv.wo n hn).at ha) h1 (by decide)
      exact i_rng1 g1 m1 (chkE_ok lv a hn ha ok h3) (star_cons h2)
    · cases h
  | .rng2 a b, n, O, c, W, G, X, tg, e, hn, ha, ok, h => by
    unfold chkI at h
    split at h
    · obtain ⟨h, h4⟩ := and2 h
      obtain ⟨h, h3⟩ := and2 h
      obtain ⟨h1, h2⟩ := and2 h
      obtain ⟨h5, h6⟩ := and2 h4
      obtain ⟨rfl, g1, m1⟩ := ok.blt ((lv.wo n hn).at ha) h1 (by decide)
      exact i_rng2 g1 m1 (chkE_ok lv a hn ha ok h5) (chkE_ok lv b hn ha ok h6) (by rw [star_cons h2, star_cons h3]; rfl) (star_cons h3)
    · cases h
  | .pks i, n, O, c, W, G, X, tg, e, hn, ha, ok, h => by
    unfold chkI at h
    split at h
    · exact i_pks ok.GK (ok.var h)
    · cases h
  | .enum a, n, O, c, W, G, X, tg, e, hn, ha, ok, h => by
    unfold chkI at h
    split at h
    · split at h
      · obtain ⟨h, h3⟩ := and2 h
        obtain ⟨h1, h2⟩ := and2 h
        obtain ⟨rfl, g1, m1⟩ := ok.blt ((lv.wo n hn).at ha) h1 (by decide)
        exact i_enum ok.GK g1 m1 (chkE_ok lv a hn ha ok h3) (star_cons h2)
      · cases h
    · cases h
  | .zip a b, n, O, c, W, G, X, tg, e, hn, ha, ok, h => by
    unfold chkI at h
    split at h
    · split at h
      · obtain ⟨h, h4⟩ := and2 h
        obtain ⟨h, h3⟩ := and2 h
        obtain ⟨h1, h2⟩ := and2 h
        obtain ⟨h5, h6⟩ := and2 h4
        obtain ⟨rfl, g1, m1⟩ := ok.blt ((lv.wo n hn).at ha) h1 (by decide)
        exact i_zip ok.GK g1 m1 (chkE_ok lv a hn ha ok h5) (chkE_ok lv b hn ha ok h6) (star_cons h2) (star_cons h3)
      · cases h
    · cases h
end
end
end Ev
end
section
set_option Elab.async false
set_option linter.all false
set_option maxRecDepth 100000
set_option maxHeartbeats 1000000
set_option autoImplicit false
namespace Ev
open PySem L2 PySem.Spec PyProof.Rows LamX
/-! #### statements: small facts -/
theorem swapped_of {x y : Str} {px py pt pt2 : Pos} {kt k2 : Nat} {a b : Expr} {env : Env} (hk : env.scope.kind = .function) (hx : env.scope.names.lookup x = some .local) (hy : env.scope.names.lookup y = some .local) (hl : py.line = px.line) (hne : x ≠ y) (na : notStar a = true) (nb : notStar b = true)
    (hf : (foldedForSure 8 a && foldedForSure 8 b) = false) (hc : (constantsAlone 8 a && constantsAlone 8 b) = false) : swappedStores [.Tuple [.Name x px, .Name y py] kt pt] (.Tuple [a, b] k2 pt2) env = pure (some [x, y]) := by
  have hb : env.blockKind = .function := by
    unfold Env.blockKind
    rw [hk]
    rfl
  have e1 : env.kindOf x = some .local := hx
  have e2 : env.kindOf y = some .local := hy
  have hd : [x, y].eraseDups = [x, y] := by
    simp [List.eraseDups_cons, Ne.symm hne]
  have f2 : [a, b].all (foldedForSure 8) = false := by
    show (foldedForSure 8 a && (foldedForSure 8 b && true)) = false
    rw [Bool.and_true]
    exact hf
  have c2 : [a, b].all (constantsAlone 8) = false := by
    show (constantsAlone 8 a && (constantsAlone 8 b && true)) = false
    rw [Bool.and_true]
    exact hc
  simp [swappedStores, hb, f2, c2, e1, e2, hl, hd, Expr.pos]
  intro h
  exfalso
  rcases h with h | h
  · cases a <;> first | (cases na; done) | (cases h; done)
  · cases b <;> first | (cases nb; done) | (cases h; done)
def notTup : Expr → Bool
  | .Tuple _ _ _ => false
  | _ => true
def isNameE : Expr → Bool
  | .Name _ _ => true
  | _ => false
theorem unswapped_of {tg e : Expr} {env : Env} (h : (isNameE tg || notTup e) = true) : swappedStores [tg] e env = pure none := by
  rw [Bool.or_eq_true] at h
  rcases h with h | h
  · cases tg <;> first | rfl | cases h
  · cases e <;> first | (cases tg <;> rfl) | cases h
/-- some name on the left is no plain local -/
def captB (sc : Scope) : Expr → Bool
  | .Tuple ts _ _ => ts.any fun t => match t with
    | .Name x _ => !decide (sc.names.lookup x = some .local)
    | _ => true
  | _ => false
theorem filter_short {α β : Type} {f : α → Option β} : ∀ {l : List α}, (l.filterMap f).length ≤ l.length ∧ ((l.any fun a => (f a).isNone) = true → (l.filterMap f).length < l.length)
  | [] => ⟨Nat.le_refl _, fun h => by cases h⟩
  | a :: l => by
    have ⟨q1, q2⟩ := @filter_short α β f l
    cases e : f a with
    | none =>
      rw [List.filterMap_cons_none e]
      exact ⟨Nat.le_succ_of_le q1, fun _ => Nat.lt_succ_of_le q1⟩
    | some b =>
      rw [List.filterMap_cons_some e]
      refine ⟨Nat.succ_le_succ q1, fun h => Nat.succ_lt_succ (q2 ?_)⟩
      rw [List.any_cons, e] at h
      exact h
theorem captured_of {tg e : Expr} {env : Env} (h : captB env.scope tg = true) : swappedStores [tg] e env = pure none := by
  cases tg with
  | Tuple ts k p =>
    cases e with
    | Tuple vs k2 p2 =>
      have h : (ts.any fun t => match t with | .Name x _ => !decide (env.scope.names.lookup x = some .local) | _ => true) = true := h
      unfold swappedStores
      dsimp only
      split
      · rfl
      · split
        · rfl
        · generalize hl : ((ts.head?.map (·.pos.line)).getD 0) = line
          have hs := (filter_short (f := fun (t : Expr) => match t with | .Name id pos => if env.kindOf id == some .local && pos.line == line then some id else none | _ => none) (l := ts)).2 (by
            rw [List.any_eq_true] at h ⊢
            obtain ⟨t, h1, h2⟩ := h
            refine ⟨t, h1, ?_⟩
            cases t <;> first | rfl | skip
            rename_i id pos
            have h2 : (!decide (env.scope.names.lookup id = some .local)) = true := h2
            have h3 : ¬ env.kindOf id = some .local := by
              intro e
              have e : env.scope.names.lookup id = some .local := e
              rw [e] at h2
              simp at h2
            show (if (env.kindOf id == some .local && pos.line == line) = true then some id else none).isNone = true
            rw [if_neg]
            · rfl
            · intro q
              exact h3 (by simpa using (and2 q).1))
          have hs : ((ts.filterMap _).length != ts.length) = true := bne_iff_ne.mpr (Nat.ne_of_lt hs)
          split
          · rfl
          · rename_i hx
            exact absurd (by rw [Bool.or_eq_true]; exact Or.inl hs) hx
    | _ => rfl
  | _ => cases h
theorem unsw_of {c : Pc} {tg e : Expr} {env : Env} (es : env.scope = c.sc) (h : (isNameE tg || notTup e || captB c.sc tg) = true) : swappedStores [tg] e env = pure none := by
  rw [Bool.or_eq_true] at h
  rcases h with h | h
  · exact unswapped_of h
  · exact captured_of (by rw [es]; exact h)
theorem assign_sub {x : Str} {p2 p3 : Pos} {ix : Expr} {env : Env} (h : plainIx ix = true) : ∀ v, assign (.Subscript (.Name x p2) ix p3) env v = (do
      let ov ← holding [v] (eval (.Name x p2) env)
      let iv ← holding [v, ov] (eval ix env)
      standAt p3
      holding [v, ov, iv] (setItem ov iv v)
      release [v, ov, iv] []) := fun v => by
  cases ix with
  | Slice a b c p => cases c with
    | none => cases h
    | some _ => rfl
  | _ => rfl
def suitePc (c : Pc) : Pc := { c with calm := false, act := none, tab := false }
def notPks : It → Bool
  | .pks _ => false
  | _ => true
def ownTg : Tg → Bool → Bool
  | .nm _, _ => true
  | _, own => !own
/-- [..] stored at once under a plain local name -/
def swapB (c : Pc) (y : Str) (py pos : Pos) (scope : Scope) : Bool := decide (c.sc.names.lookup y = some .local) && (py.line == pos.line) && !(scope.names.any fun (n, k) => n == y && (k == .local || k == .cell))
mutual
def chkS (p : Pg) : S → Pc → Stmt → Bool
  | .skip, _, st => (match st with | .Pass _ => true | _ => false)
  | .seq _ _, _, _ => false
  | .asg g own e, c, st => (match st with
    | .Assign [tg] v pos => ownTg g own && notStar tg && chkG c g tg && chkE p e c v && (match tg, v with
      | .Name y py, .ListComp _ _ scope lp => swapB c y py lp scope
      | _, _ => notComp v && (isNameE tg || notTup v || captB c.sc tg))
    | _ => false)
  | .keepIf i _ t e, c, st => (match st with
    | .Assign [.Name y _] (.IfExp x v (.Name y2 _) _) _ => decide (y = y2) && chkG c (.nm i) (.Name y ⟨0, 0, 0, 0⟩) && varB c i y && (chkT p t c x && chkE p e c v)
    | _ => false)
  | .par g h _ _ a b, c, st => (match st with
    | .Assign [.Tuple [.Name x px, .Name y py] _ _] (.Tuple [u, v] _ _) _ => (match g, h with
      | .nm i, .nm j => c.calm && decide (c.N[i]? = some x) && decide (c.N[j]? = some y) && decide (i ≠ j) && decide (x ≠ y) && decide (c.sc.names.lookup x = some .local) && decide (c.sc.names.lookup y = some .local) && decide (py.line = px.line) &&
          notStar u && notStar v && !(foldedForSure 8 u && foldedForSure 8 v) && !(constantsAlone 8 u && constantsAlone 8 v) && (chkE p a c u && chkE p b c v)
      | _, _ => false)
    | _ => false)
  | .setI i ix e, c, st => (match st with
    | .Assign [.Subscript (.Name x _) y _] v _ => varB c i x && plainIx y && notComp v && (chkE p ix c y && chkE p e c v)
    | _ => false)
  | .aug i o e, c, st => (match st with
    | .AugAssign (.Name x _) op v _ => chkG c (.nm i) (.Name x ⟨0, 0, 0, 0⟩) && decide (op = opOf o) && (decide (o = .add) || decide (o = .sub)) && chkE p e c v
    | _ => false)
  | .augI _ _ _ _, _, _ => false
  | .ex e, c, st => (match st with | .Expr v _ => notComp v && chkE p e c v | _ => false)
  | .mut m i e, c, st => (match st with
    | .Expr (.Call (.Attribute (.Name x _) nm apos) [v] [] cpos) _ => (match m with
      | .append => decide (nm = ("append" : Str)) && varB c i x && notStar v && (apos.endLine == cpos.line) && chkE p e c v
      | .extend => decide (nm = ("extend" : Str)) && varB c i x && notStar v && (apos.endLine == cpos.line) && chkE p e c v
      | .remove => false)
    | _ => false)
  | .ins _ _ _, _, _ => false
  | .ite t a b, c, st => (match st with | .If x l r _ => chkT p t c x && (chkB p a c l && chkB p b c r) | _ => false)
  | .fori g it b, c, st => (match st with | .For tg iter l [] _ => c.calm && notPks it && notSet iter && (chkI p it c tg iter && (chkG c g tg && chkB p b c l)) | _ => false)
  | .whl t b, c, st => (match st with | .While x l [] _ => chkT p t c x && chkB p b c l | _ => false)
  | .brk, _, st => (match st with | .Break _ => true | _ => false)
  | .ret _ e, c, st => (match st with | .Return (some v) _ => chkE p e c v | _ => false)
  | .retN, _, st => (match st with | .Return none _ => true | _ => false)
  | .raise k, c, st => (match st with | .Raise (some (.Call (.Name x _) [] [] _)) none _ => c.calm && decide (p.cls[k]? = some x) && gloB c x | _ => false)
  | .raise1 _ _, _, _ => false
  | .tryS b hs, c, st => (match st with | .Try l (h₀ :: hds) [] [] _ => chkB p b c l && (plainH hs && chkH p hs c (h₀ :: hds)) | _ => false)
  | .hnil, _, _ => false
  | .hcons _ _ _ _, _, _ => false
  | .forget _, _, _ => false
def chkB (p : Pg) : S → Pc → List Stmt → Bool
  | .skip, _, l => l.isEmpty
  | .seq a b, c, l => (match l with | st :: r => chkS p a c st && chkB p b c r | [] => false)
  | _, _, _ => false
def chkH (p : Pg) : S → Pc → List ExceptHandler → Bool
  | .hnil, _, l => l.isEmpty
  | .hcons k v b r, c, l => v.isNone && (match l with
    | .ExceptHandler (some (.Name x _)) none (b₀ :: suite) _ :: hds => decide (p.cls[k]? = some x) && gloB c x && (chkB p b (suitePc c) (b₀ :: suite) && chkH p r c hds)
    | _ => false)
  | _, _, _ => false
end
end Ev
end
section
set_option Elab.async false
set_option linter.all false
set_option maxRecDepth 100000
set_option maxHeartbeats 1000000
set_option autoImplicit false
namespace Ev
open PySem L2 PySem.Spec PyProof.Rows LamX
section
variable {p : Pg} {Pr : Prog} {fuel : Nat} {P : Program} {w : World} {K : Fg} {mg : Str → Option Value} {base : Heap} {B : Gx} {N0 : Nat}
theorem OkX.tr {O : Orc} {k : Nat} {c : Pc} {W W' : WX} {G : Gx} {X : Cx} (ok : OkX p P w K mg base B O k c W G X) {pn : List (Addr × Obj)} {xe : Value → Shared → Prop} (tk : Takes (X.tr pn xe) W') : OkX p P w K mg base B O k c W' G (X.tr pn xe) :=
  ⟨ok.eP, ok.ew, ok.eK, ok.em, ok.eb, ok.eB, ok.bK, ok.he, ok.eN, ok.nd, ok.es, ok.kd, ok.fn, ok.cal, ok.room, ok.un, tk, fun a h pn' xe' => ok.act a h pn' xe', ok.tab⟩
theorem OkX.suite {O : Orc} {k : Nat} {c : Pc} {W : WX} {G : Gx} {X : Cx} (ok : OkX p P w K mg base B O k c W G X) (a : Addr) (pn : List (Addr × Obj)) : OkX p P w K mg base B O k (suitePc c) Wn G (X.suite a pn) :=
  ⟨ok.eP, ok.ew, ok.eK, ok.em, ok.eb, ok.eB, ok.bK, ok.he, ok.eN, ok.nd, ok.es, ok.kd, ok.fn, fun h => (by cases h), fun h => (by cases h), ok.un, takes_none5, fun a h => (by cases h), fun h => (by cases h)⟩
theorem OkX.setN {O : Orc} {k : Nat} {c : Pc} {W : WX} {G : Gx} {X : Cx} (ok : OkX p P w K mg base B O k c W G X) {i : Nat} {x : Str} {q : Pos} (h : chkG c (.nm i) (.Name x q) = true) : X.N.Nodup ∧ X.N[i]? = some x ∧ L2.Loc X.env.scope x ∧ (X.fn x = true ∨ X.env.scope.names.lookup x = some .local) := by
  unfold chkG at h
  obtain ⟨h, h3⟩ := and2 h
  obtain ⟨h1, h2⟩ := and2 h
  refine ⟨by rw [ok.eN]; exact ok.nd, by rw [ok.eN]; exact of_decide_eq_true h1, by rw [ok.es]; exact loc_of h2, ?_⟩
  rw [Bool.or_eq_true] at h3
  rcases h3 with h3 | h3
  · exact .inl (ok.fn x h3)
  · exact .inr (by rw [ok.es]; exact of_decide_eq_true h3)
theorem g_own {O : Orc} {k : Nat} {c : Pc} {W : WX} {G : Gx} {X : Cx} (ok : OkX p P w K mg base B O k c W G X) {g : Tg} {own : Bool} {e : Expr} (h : chkG c g e = true) (ho : ownTg g own = true) : PG X e (tgR G g own) := by
  refine g_res (chkG_ok ok g h) fun e1 => ?_
  subst e1
  cases g with
  | nm i =>
    cases e with
    | Name x q =>
      obtain ⟨h1, h2, h3, h4⟩ := ok.setN h
      exact ⟨i, x, q, rfl, rfl, pg_name h1 h2 h3 h4⟩
    | _ =>
      unfold chkG at h
      cases h
  | nl => cases ho
  | cn g r => cases ho
/-- the class that a clause names -/
theorem OkX.cls {O : Orc} {k : Nat} {c : Pc} {W : WX} {G : Gx} {X : Cx} (ok : OkX p P w K mg base B O k c W G X) (wo : Wo p P w K mg base B O k) {i : Nat} {x : Str} (h1 : p.cls[i]? = some x) (h2 : gloB c x = true) : Names X x (G.C i) := by
  obtain ⟨C, c1, c2, _⟩ := wo.cls i x h1
  obtain ⟨hg, hd⟩ := ok.glo h2
  have e0 : G.base.C = B.C := congrArg Gx.C ok.eB
  have e : G.C = B.C := e0
  exact ⟨hg, hd, .inl (by rw [ok.em, e, c1]; exact c2)⟩
theorem OkX.exm {O : Orc} {k : Nat} {c : Pc} {W : WX} {G : Gx} {X : Cx} (ok : OkX p P w K mg base B O k c W G X) (wo : Wo p P w K mg base B O k) (i j : Nat) : PySem.W.exmOne X.K (G.C i) (G.C j) = some (O.exi i j) := by
  have e0 : G.base.C = B.C := congrArg Gx.C ok.eB
  have e : G.C = B.C := e0
  rw [ok.eK, e]
  exact wo.exm i j
theorem notB {b : Bool} (h : (!b) = true) : b = false := by
  cases b <;> first | rfl | cases h
theorem swapsSole_of {t e : Expr} {n : Nat} {env : Env} (h : notComp e = true) : swapsWithSole [t] e n env = pure false := swaps_of (t := some t) h
structure PoX (X : Cx) : Prop where
  po : PassesOwn (model X.prog X.w) X.A X.env X.xe
  st : X.stack = X.env :: X.outer
  fr : X.env.frame = some X.env.locals
mutual
theorem chkS_ok (lv : Lv p Pr fuel P w K mg base B N0) : ∀ (ir : S) {n : Nat} {O : Orc} {c : Pc} {W : WX} {G : Gx} {X : Cx} {st : Stmt}, n ≤ N0 → AtL Pr fuel n O → OkX p P w K mg base B O (n + 1) c W G X → PoX X → chkS p ir c st = true → PS X st (tS G W (evS O ir))
  | .skip, n, O, c, W, G, X, st, hn, ha, ok, po, h => by
    unfold chkS at h
    split at h
    · exact s_next ps_pass
    · cases h
  | .seq _ _, n, O, c, W, G, X, st, hn, ha, ok, po, h => by
    unfold chkS at h
    cases h
  | .asg g own e, n, O, c, W, G, X, st, hn, ha, ok, po, h => by
    unfold chkS at h
    split at h
    · rename_i tg v pos
      obtain ⟨h, h5⟩ := and2 h
      obtain ⟨h, h4⟩ := and2 h
      obtain ⟨h, h3⟩ := and2 h
      obtain ⟨h1, h2⟩ := and2 h
      have fin : (notComp v && (isNameE tg || notTup v || captB c.sc tg)) = true → PS X (.Assign [tg] v pos) (tS G W (evS O (.asg g own e))) := fun h5 => by
        obtain ⟨h6, h7⟩ := and2 h5
        exact s_asg (chkE_ok lv e hn ha ok h4) (g_own ok h3 h1) (swaps_of h6) (unsw_of ok.es h7) (by rw [asgn_cons h2]; rfl)
      cases tg with
      | Name y py =>
        cases v with
        | ListComp elt gens scope lp =>
          have h5 : swapB c y py lp scope = true := h5
          unfold swapB at h5
          obtain ⟨h5, h8⟩ := and2 h5
          obtain ⟨h6, h7⟩ := and2 h5
          have h6 := of_decide_eq_true h6
          cases g with
          | nm i =>
            obtain ⟨n1, n2, n3, n4⟩ := ok.setN h3
            cases e with
            | comp own' g' it t d =>
              unfold chkE at h4
              split at h4
              · rename_i elt' tg' iter ifs scope' pos' heq
                injection heq with q1 q2 q3 q4
                subst q1 q2 q3 q4
                obtain ⟨h, k5⟩ := and2 h4
                obtain ⟨h, k4⟩ := and2 h
                obtain ⟨h, k3⟩ := and2 h
                obtain ⟨k1, k2⟩ := and2 h
                obtain ⟨k6, k7⟩ := and2 k5
                obtain ⟨k8, k9⟩ := and2 k7
                obtain ⟨k10, k11⟩ := and2 k9
                have hb : BlkOk X.N X.env.scope scope (ownN c own') := blkOk_by (by rw [ok.eN, ok.es]; exact k3)
                have okb := fun s H C cl fp => ok.blk (scope := scope) hb.kind s H C cl fp
                have hyl : X.env.scope.names.lookup y = some .local := by rw [ok.es]; exact h6
                have pc := ps_setLc (ifs := ifs) (pos := lp) (spos := pos) (py := py) (ok.cal k1) n1 n2 hyl (sw_true (by rw [ok.es]; exact ok.kd) hyl h7 (by simpa using h8)) (chkI_ok lv it hn ha ok k6) hb (fun s H C cl fp => chkG_ok (okb s H C cl fp) g' k8)
                  (tt := tT G Wn (evT O t)) (fun s H C cl fp => by
                    split at k11
                    · cases t with
                      | tt => exact ts_nil
                      | _ => cases k11
                    · exact ts_one (chkT_ok lv t hn ha (okb s H C cl fp) k11).1
                    · cases k11) (fun s H C cl fp => chkE_ok lv d hn ha (okb s H C cl fp) k10) (folded_of k2)
                rw [ownN_snd] at pc
                exact s_set (pc.weak fun D σ H q => comp_of (Q := fun x H1 => gName i x σ H1 D.nx) ok.he ok.GK (fun i hi => by
                  have z := (List.all_eq_true.mp k4) i hi
                  simpa using z) q)
              · cases h4
            | _ =>
              exfalso
              first
                | (unfold chkE at h4; cases h4; done)
                | (unfold chkE at h4; split at h4 <;> cases h4; done)
          | nl =>
            unfold chkG at h3
            cases h3
          | cn g r =>
            unfold chkG at h3
            cases h3
        | _ => exact fin h5
      | _ => exact fin h5
    · cases h
  | .keepIf i own t e, n, O, c, W, G, X, st, hn, ha, ok, po, h => by
    unfold chkS at h
    split at h
    · obtain ⟨h, h4⟩ := and2 h
      obtain ⟨h, h3⟩ := and2 h
      obtain ⟨h1, h2⟩ := and2 h
      obtain ⟨h5, h6⟩ := and2 h4
      have h1 := of_decide_eq_true h1
      subst h1
      obtain ⟨n1, n2, n3, n4⟩ := ok.setN h2
      exact s_keep (fun _ _ _ => rfl) (ps_set n1 n2 n3 (pe_ifExp (chkT_ok lv t hn ha ok h5).1 (chkE_ok lv e hn ha ok h6) (ok.var h3)) rfl n4)
    · cases h
  | .par g h' o q a b, n, O, c, W, G, X, st, hn, ha, ok, po, h => by
    unfold chkS at h
    split at h
    · split at h
      · obtain ⟨h, g13⟩ := and2 h
        obtain ⟨h, g12⟩ := and2 h
        obtain ⟨h, g11⟩ := and2 h
        obtain ⟨h, g10⟩ := and2 h
        obtain ⟨h, g9⟩ := and2 h
        obtain ⟨h, g8⟩ := and2 h
        obtain ⟨h, g7⟩ := and2 h
        obtain ⟨h, g6⟩ := and2 h
        obtain ⟨h, g5⟩ := and2 h
        obtain ⟨h, g4⟩ := and2 h
        obtain ⟨h, g3⟩ := and2 h
        obtain ⟨g1, g2⟩ := and2 h
        obtain ⟨g14, g15⟩ := and2 g13
        have hx := of_decide_eq_true g6
        rw [← ok.es] at hx
        have hy := of_decide_eq_true g7
        rw [← ok.es] at hy
        exact s_par (ps_par (ok.cal g1) (by rw [ok.eN]; exact ok.nd) (by rw [ok.eN]; exact of_decide_eq_true g2) (by rw [ok.eN]; exact of_decide_eq_true g3) (of_decide_eq_true g4) hx hy
          (snd_consR (chkE_ok lv a hn ha ok g14) (snd_consR (chkE_ok lv b hn ha ok g15) snd_nilR (star_cons g10)) (star_cons g9))
          (swapped_of (by rw [ok.es]; exact ok.kd) hx hy (of_decide_eq_true g8) (of_decide_eq_true g5) g9 g10 (notB g11) (notB g12)))
      · cases h
    · cases h
  | .setI i ix e, n, O, c, W, G, X, st, hn, ha, ok, po, h => by
    unfold chkS at h
    split at h
    · obtain ⟨h, h4⟩ := and2 h
      obtain ⟨h, h3⟩ := and2 h
      obtain ⟨h1, h2⟩ := and2 h
      obtain ⟨h5, h6⟩ := and2 h4
      exact s_setI (chkE_ok lv e hn ha ok h6) (ok.var h1) (chkE_ok lv ix hn ha ok h5) (swapsSole_of h3) rfl rfl (assign_sub h2)
    · cases h
  | .aug i o e, n, O, c, W, G, X, st, hn, ha, ok, po, h => by
    unfold chkS at h
    split at h
    · obtain ⟨h, h4⟩ := and2 h
      obtain ⟨h, h3⟩ := and2 h
      obtain ⟨h1, h2⟩ := and2 h
      have h2 := of_decide_eq_true h2
      subst h2
      obtain ⟨n1, n2, n3, n4⟩ := ok.setN h1
      cases o with
      | add => exact s_aug aug_add (ps_aug n1 n2 n3 (chkE_ok lv e hn ha ok h4) ip_add n4)
      | sub => exact s_aug aug_sub (ps_aug n1 n2 n3 (chkE_ok lv e hn ha ok h4) ip_sub n4)
      | _ => cases h3
    · cases h
  | .augI _ _ _ _, n, O, c, W, G, X, st, hn, ha, ok, po, h => by
    unfold chkS at h
    cases h
  | .ex e, n, O, c, W, G, X, st, hn, ha, ok, po, h => by
    unfold chkS at h
    split at h
    · obtain ⟨h1, h2⟩ := and2 h
      exact s_expr (chkE_ok lv e hn ha ok h2) (swaps_of h1)
    · cases h
  | .mut m i e, n, O, c, W, G, X, st, hn, ha, ok, po, h => by
    unfold chkS at h
    split at h
    · split at h
      · obtain ⟨h, h5⟩ := and2 h
        obtain ⟨h, h4⟩ := and2 h
        obtain ⟨h, h3⟩ := and2 h
        obtain ⟨h1, h2⟩ := and2 h
        have h1 := of_decide_eq_true h1
        subst h1
        exact s_mutA ok.GK (ok.var h2) (chkE_ok lv e hn ha ok h5) rfl rfl (by rw [star_cons h3]; rfl) h4 (star_cons h3)
      · obtain ⟨h, h5⟩ := and2 h
        obtain ⟨h, h4⟩ := and2 h
        obtain ⟨h, h3⟩ := and2 h
        obtain ⟨h1, h2⟩ := and2 h
        have h1 := of_decide_eq_true h1
        subst h1
        exact s_mutX ok.GK (ok.var h2) (chkE_ok lv e hn ha ok h5) rfl rfl (by rw [star_cons h3]; rfl) h4 (star_cons h3)
      · cases h
    · cases h
  | .ins _ _ _, n, O, c, W, G, X, st, hn, ha, ok, po, h => by
    unfold chkS at h
    cases h
  | .ite t a b, n, O, c, W, G, X, st, hn, ha, ok, po, h => by
    unfold chkS at h
    split at h
    · obtain ⟨h1, h2⟩ := and2 h
      obtain ⟨h3, h4⟩ := and2 h2
      exact s_if (chkT_ok lv t hn ha ok h1).1 (chkB_ok lv a hn ha ok po h3) (chkB_ok lv b hn ha ok po h4)
    · cases h
  | .fori g it b, n, O, c, W, G, X, st, hn, ha, ok, po, h => by
    unfold chkS at h
    split at h
    · obtain ⟨h, h4⟩ := and2 h
      obtain ⟨h, h3⟩ := and2 h
      obtain ⟨h1, h2⟩ := and2 h
      obtain ⟨h5, h6⟩ := and2 h4
      obtain ⟨h7, h8⟩ := and2 h6
      have hi := chkI_ok lv it hn ha ok h5
      have e0 : hid it = [] := by cases it <;> first | rfl | cases h2
      rw [e0] at hi
      exact s_for po.po (ok.cal h1) hi (chkG_ok ok g h7) (chkB_ok lv b hn ha ok po h8) (folded_of h3)
    · cases h
  | .whl t b, n, O, c, W, G, X, st, hn, ha, ok, po, h => by
    unfold chkS at h
    split at h
    · obtain ⟨h1, h2⟩ := and2 h
      exact s_while po.po (chkT_ok lv t hn ha ok h1).1 (chkB_ok lv b hn ha ok po h2)
    · cases h
  | .brk, n, O, c, W, G, X, st, hn, ha, ok, po, h => by
    unfold chkS at h
    split at h
    · exact s_brk
    · cases h
  | .ret fz e, n, O, c, W, G, X, st, hn, ha, ok, po, h => by
    unfold chkS at h
    split at h
    · exact s_ret (chkE_ok lv e hn ha ok h)
    · cases h
  | .retN, n, O, c, W, G, X, st, hn, ha, ok, po, h => by
    unfold chkS at h
    split at h
    · exact s_retN
    · cases h
  | .raise k, n, O, c, W, G, X, st, hn, ha, ok, po, h => by
    unfold chkS at h
    split at h
    · obtain ⟨h, h3⟩ := and2 h
      obtain ⟨h1, h2⟩ := and2 h
      obtain ⟨C, c1, c2, c3, c4, c5, c6⟩ := ((lv.wo n hn).at ha).cls k _ (of_decide_eq_true h2)
      obtain ⟨hg, hd⟩ := ok.glo h3
      have e0 : G.base.C = B.C := congrArg Gx.C ok.eB
      have e : G.C = B.C := e0
      exact s_raise (ok.cal h1) ok.tk (by rw [e]; exact c1) PySem.F.excBase_ValueError (by rw [ok.eK]; exact c4) (by rw [ok.em]; exact c2) (by rw [ok.eK]; exact c3) (raises_own (by rw [ok.eK]; exact c5) (by rw [ok.eK]; exact c6)) hg hd
    · cases h
  | .raise1 _ _, n, O, c, W, G, X, st, hn, ha, ok, po, h => by
    unfold chkS at h
    cases h
  | .tryS b hs, n, O, c, W, G, X, st, hn, ha, ok, po, h => by
    unfold chkS at h
    split at h
    · obtain ⟨h1, h2⟩ := and2 h
      obtain ⟨h3, h4⟩ := and2 h2
      exact s_try (fun i j => ok.exm ((lv.wo n hn).at ha) i j) po.st po.fr ok.tk (fun W' pn xe tk' po' => chkB_ok lv b hn ha (ok.tr tk') ⟨po', po.st, po.fr⟩ h1) h3 (chkH_ok lv hs hn ha ok po h4)
    · cases h
  | .hnil, n, O, c, W, G, X, st, hn, ha, ok, po, h => by
    unfold chkS at h
    cases h
  | .hcons _ _ _ _, n, O, c, W, G, X, st, hn, ha, ok, po, h => by
    unfold chkS at h
    cases h
  | .forget _, n, O, c, W, G, X, st, hn, ha, ok, po, h => by
    unfold chkS at h
    cases h
theorem chkB_ok (lv : Lv p Pr fuel P w K mg base B N0) : ∀ (ir : S) {n : Nat} {O : Orc} {c : Pc} {W : WX} {G : Gx} {X : Cx} {l : List Stmt}, n ≤ N0 → AtL Pr fuel n O → OkX p P w K mg base B O (n + 1) c W G X → PoX X → chkB p ir c l = true → PSs X l (tS G W (evS O ir))
  | .skip, n, O, c, W, G, X, l, hn, ha, ok, po, h => by
    unfold chkB at h
    cases l with
    | nil => exact s_skip
    | cons _ _ => cases h
  | .seq a b, n, O, c, W, G, X, l, hn, ha, ok, po, h => by
    unfold chkB at h
    split at h
    · obtain ⟨h1, h2⟩ := and2 h
      exact s_seq (chkS_ok lv a hn ha ok po h1) (chkB_ok lv b hn ha ok po h2)
    · cases h
  | .asg _ _ _, n, O, c, W, G, X, l, hn, ha, ok, po, h => by cases h
  | .keepIf _ _ _ _, n, O, c, W, G, X, l, hn, ha, ok, po, h => by cases h
  | .par _ _ _ _ _ _, n, O, c, W, G, X, l, hn, ha, ok, po, h => by cases h
  | .setI _ _ _, n, O, c, W, G, X, l, hn, ha, ok, po, h => by cases h
  | .aug _ _ _, n, O, c, W, G, X, l, hn, ha, ok, po, h => by cases h
  | .augI _ _ _ _, n, O, c, W, G, X, l, hn, ha, ok, po, h => by cases h
  | .ex _, n, O, c, W, G, X, l, hn, ha, ok, po, h => by cases h
  | .mut _ _ _, n, O, c, W, G, X, l, hn, ha, ok, po, h => by cases h
  | .ins _ _ _, n, O, c, W, G, X, l, hn, ha, ok, po, h => by cases h
  | .ite _ _ _, n, O, c, W, G, X, l, hn, ha, ok, po, h => by cases h
  | .fori _ _ _, n, O, c, W, G, X, l, hn, ha, ok, po, h => by cases h
  | .whl _ _, n, O, c, W, G, X, l, hn, ha, ok, po, h => by cases h
  | .brk, n, O, c, W, G, X, l, hn, ha, ok, po, h => by cases h
  | .ret _ _, n, O, c, W, G, X, l, hn, ha, ok, po, h => by cases h
  | .retN, n, O, c, W, G, X, l, hn, ha, ok, po, h => by cases h
  | .raise _, n, O, c, W, G, X, l, hn, ha, ok, po, h => by cases h
  | .raise1 _ _, n, O, c, W, G, X, l, hn, ha, ok, po, h => by cases h
  | .tryS _ _, n, O, c, W, G, X, l, hn, ha, ok, po, h => by cases h
  | .hnil, n, O, c, W, G, X, l, hn, ha, ok, po, h => by cases h
  | .hcons _ _ _ _, n, O, c, W, G, X, l, hn, ha, ok, po, h => by cases h
  | .forget _, n, O, c, W, G, X, l, hn, ha, ok, po, h => by cases h
theorem chkH_ok (lv : Lv p Pr fuel P w K mg base B N0) : ∀ (ir : S) {n : Nat} {O : Orc} {c : Pc} {W : WX} {G : Gx} {X : Cx} {l : List ExceptHandler}, n ≤ N0 → AtL Pr fuel n O → OkX p P w K mg base B O (n + 1) c W G X → PoX X → chkH p ir c l = true → HdsOk X l (hdsT G O ir)
  | .hnil, n, O, c, W, G, X, l, hn, ha, ok, po, h => by
    unfold chkH at h
    cases l with
    | nil => exact .nil
    | cons _ _ => cases h
  | .hcons k v b r, n, O, c, W, G, X, l, hn, ha, ok, po, h => by
    unfold chkH at h
    obtain ⟨hv, hm⟩ := and2 h
    clear h
    cases v with
    | some i => cases hv
    | none =>
      clear hv
      split at hm
      · obtain ⟨h6, h3⟩ := and2 hm
        obtain ⟨h1, h2⟩ := and2 h6
        obtain ⟨h4, h5⟩ := and2 h3
        exact .cons (ok.cls ((lv.wo n hn).at ha) (of_decide_eq_true h1) h2) (fun a oe cls d pn _ _ => chkB_ok lv b hn ha (ok.suite a _) ⟨PassesOwn.never, po.st, po.fr⟩ h4) (chkH_ok lv r hn ha ok po h5)
      · cases hm
  | .skip, n, O, c, W, G, X, l, hn, ha, ok, po, h => by cases h
  | .seq _ _, n, O, c, W, G, X, l, hn, ha, ok, po, h => by cases h
  | .asg _ _ _, n, O, c, W, G, X, l, hn, ha, ok, po, h => by cases h
  | .keepIf _ _ _ _, n, O, c, W, G, X, l, hn, ha, ok, po, h => by cases h
  | .par _ _ _ _ _ _, n, O, c, W, G, X, l, hn, ha, ok, po, h => by cases h
  | .setI _ _ _, n, O, c, W, G, X, l, hn, ha, ok, po, h => by cases h
  | .aug _ _ _, n, O, c, W, G, X, l, hn, ha, ok, po, h => by cases h
  | .augI _ _ _ _, n, O, c, W, G, X, l, hn, ha, ok, po, h => by cases h
  | .ex _, n, O, c, W, G, X, l, hn, ha, ok, po, h => by cases h
  | .mut _ _ _, n, O, c, W, G, X, l, hn, ha, ok, po, h => by cases h
  | .ins _ _ _, n, O, c, W, G, X, l, hn, ha, ok, po, h => by cases h
  | .ite _ _ _, n, O, c, W, G, X, l, hn, ha, ok, po, h => by cases h
  | .fori _ _ _, n, O, c, W, G, X, l, hn, ha, ok, po, h => by cases h
  | .whl _ _, n, O, c, W, G, X, l, hn, ha, ok, po, h => by cases h
  | .brk, n, O, c, W, G, X, l, hn, ha, ok, po, h => by cases h
  | .ret _ _, n, O, c, W, G, X, l, hn, ha, ok, po, h => by cases h
  | .retN, n, O, c, W, G, X, l, hn, ha, ok, po, h => by cases h
  | .raise _, n, O, c, W, G, X, l, hn, ha, ok, po, h => by cases h
  | .raise1 _ _, n, O, c, W, G, X, l, hn, ha, ok, po, h => by cases h
  | .tryS _ _, n, O, c, W, G, X, l, hn, ha, ok, po, h => by cases h
  | .forget _, n, O, c, W, G, X, l, hn, ha, ok, po, h => by cases h
end
end
end Ev
end
section
set_option Elab.async false
set_option linter.all false
set_option maxRecDepth 100000
set_option maxHeartbeats 1000000
set_option autoImplicit false
namespace Ev
open PySem L2 PySem.Spec PyProof.Rows LamX
section
variable {p : Pg} {Pr : Prog} {fuel : Nat} {P : Program} {w : World} {K : Fg} {mg : Str → Option Value} {base : Heap} {B : Gx} {N0 : Nat}
def defPc (N : List Str) (sc : Scope) (act : Option Str) (tab : Bool) : Pc := { N := N, sc := sc, fnB := fun _ => true, calm := true, act := act, tab := tab }
/-- what is known of the def f -/
def DfOk (p : Pg) (K : Fg) (mg : Str → Option Value) (base : Heap) (B : Gx) (f : Nat) (d : Def) : Prop :=
  ∃ (x : Str) (fa : Addr) (fd : FuncData) (pa : Arguments) (body : List Stmt) (sc : Scope) (N ps : List Str) (tab : Bool), p.fns[f]? = some (x, ps.length, d.clo) ∧ mg x = some (.ref fa) ∧ FunD K x x pa body sc [] [] fa fd ∧ Binds K fd ps [] ∧ FnScope N ps sc ∧
    d.ns = N.length ∧ d.np = ps.length ∧ (d.clo = true → ps.length = 1 ∧ d.io = false ∧ tab = false ∧ ∀ a, ps.head? = some a → (a == ("__debug__" : Str)) = false ∧ (a == ("__classdict__" : Str)) = false) ∧
    chkB p d.body (defPc N sc (if d.clo then ps.head? else none) tab) body = true ∧
    (tab = true → ∃ (Pt : Addr) (Tq : List (Addr × Str)), (∀ c, fd.code = .ref c → TabB base mg c Pt) ∧ (Pt, x ++ ".<locals>." ++ "<lambda>") ∈ Tq ∧ (∀ q ∈ Tq, q.1 = Pt → q.2 = x ++ ".<locals>." ++ "<lambda>") ∧ B.T = Tq.map fun q => (q.1, fun _ _ => q.2)) ∧ pa.args.map (·.arg) = ps
/-- the facts that no call changes -/
structure St0 (p : Pg) (Pr : Prog) (P : Program) (w : World) (K : Fg) (mg : Str → Option Value) (base : Heap) (B : Gx) : Prop where
  bB : B.base = B
  bK : B.K = K
  bcd : B.cd = []
  be : B.e = none
  bu : B.u = none
  dfs : ∀ (f : Nat) (d : Def), Pr.defs[f]? = some d → DfOk p K mg base B f d
  fl : p.fns.length = Pr.defs.length
  glb : ∀ (g : Nat) (x : Str), p.glb[g]? = some x → ∃ (d : D) (u : Value) (v : V), Pr.glb[g]? = some d ∧ mg x = some u ∧ RelV v u ∧ ∀ F, Rp K F v d
  cls : ∀ (c : Nat) (x : Str), p.cls[c]? = some x → ∃ C : Addr, B.C c = .ref C ∧ mg x = some (.ref C) ∧ PySem.W.keepIn K (.ref C) = true ∧ PySem.W.excIn K C He.veBase "ValueError.__new__" = true ∧
    PySem.W.subIn K (.ref C) (.type "BaseException") = some true ∧ PySem.W.typeIn K (.ref C) = some (.type "type")
  exm : ∀ i c, PySem.W.exmOne K (B.C i) (B.C c) = some (Pr.exi i c)
  blt : ∀ n ∈ bltNames, mg (Str.ofString n) = none
theorem orc_exi (n : Nat) : (orc Pr fuel n).exi = Pr.exi := by
  cases n <;> rfl
theorem orc_glb (n : Nat) : (orc Pr fuel n).glb = fun g => Pr.glb[g]? := by
  cases n <;> rfl
theorem orc_fuel (n : Nat) : (orc Pr fuel n).fuel = fuel := by
  cases n <;> rfl
/-- a context at a def's entry -/
theorem def_ctx (s0 : St0 p Pr P w K mg base B) {k : Nat} {O : Orc} {x : Str} {fa : Addr} {sc : Scope} {N ps : List Str} {tab : Bool} {cd : Value} {A : Around} {outer : List Env} {s : Shared} {H : Hp} {E : XK} {G : Gx} (gB : G.base = B) (ge : G.e = none) (S : FnScope N ps sc)
    (hr : Room k (A.deeper (envOfC x sc s.heap.objs.size fa cd)))
    (ht : tab = true → ∃ (cA Pt : Addr) (Tq : List (Addr × Str)), TabB base mg cA Pt ∧ cd = .ref cA ∧ (Pt, x ++ ".<locals>." ++ "<lambda>") ∈ Tq ∧ (∀ q ∈ Tq, q.1 = Pt → q.2 = x ++ ".<locals>." ++ "<lambda>") ∧ B.T = Tq.map fun q => (q.1, fun _ _ => q.2)) :
    OkX p P w K mg base B O k (defPc N sc none tab) (fun cls d _ H => E cls d H) G (cxOf (L2.CX P w) P w K mg base N x sc fa cd A outer s H E) where
  eP := rfl
  ew := rfl
  eK := rfl
  em := rfl
  eb := rfl
  eB := gB
  bK := s0.bK
  he := ge
  eN := rfl
  nd := S.nd
  es := rfl
  kd := S.kind
  fn := fun _ _ => rfl
  cal := fun _ => rfl
  room := fun _ => hr
  un := by
    have := hr.un
    show (A.deeper (envOfC x sc s.heap.objs.size fa cd)).units + 100 < cLine
    omega
  tk := L2.takes_of rfl rfl rfl rfl
  act := fun a h => by cases h
  tab := fun h => by
    obtain ⟨cA, Pt, Tq, t1, t2, t3, t4, t5⟩ := ht h
    refine ⟨cA, Pt, Tq, t1, t2, t3, t4, ?_⟩
    have e : G.base.T = B.T := congrArg Gx.T gB
    have e : G.T = B.T := e
    rw [e]
    exact t5
theorem argsOk_at {io : Bool} {as : List Sl} (h : argsOk io as = true) : ∀ (i : Nat) (xs : List D), as[i]? = some (.ol xs) → i = 0 ∧ io = true := by
  intro i xs e
  cases as with
  | nil => cases e
  | cons a r =>
    cases i with
    | zero =>
      have e : a = .ol xs := by simpa using e
      subst e
      exact ⟨rfl, (and2 h).1⟩
    | succ i =>
      exfalso
      have e : r[i]? = some (.ol xs) := by simpa using e
      have hm : (Sl.ol xs) ∈ r := List.mem_of_getElem? e
      cases a with
      | ol ys =>
        have z := (List.all_eq_true.mp (and2 (show (io && r.all fun s => match s with | .v _ => true | _ => false) = true from h)).2) _ hm
        cases z
      | no =>
        have z := (and2 (show (!io && (Sl.no :: r).all fun s => match s with | .v _ => true | _ => false) = true from h)).2
        have z := (List.all_eq_true.mp z) _ (List.mem_cons_of_mem _ hm)
        cases z
      | v d =>
        have z := (and2 (show (!io && (Sl.v d :: r).all fun s => match s with | .v _ => true | _ => false) = true from h)).2
        have z := (List.all_eq_true.mp z) _ (List.mem_cons_of_mem _ hm)
        cases z
      | ex y =>
        have z := (and2 (show (!io && (Sl.ex y :: r).all fun s => match s with | .v _ => true | _ => false) = true from h)).2
        have z := (List.all_eq_true.mp z) _ (List.mem_cons_of_mem _ hm)
        cases z
theorem argsOk_io {as : List Sl} (h : argsOk true as = true) : ∃ xs, as[0]? = some (.ol xs) := by
  cases as with
  | nil => cases h
  | cons a r =>
    cases a with
    | ol ys => exact ⟨ys, rfl⟩
    | no => cases h
    | v d => cases h
    | ex y => cases h
theorem start_at {N : List Str} {vs : List V} {i : Nat} (h : i < vs.length) : (L2.start N vs)[i]? = (vs[i]?).map some := by
  unfold L2.start
  rw [List.getElem?_append_left (by simpa using h), List.getElem?_map]
def refOf : V → Option Addr
  | .ref a => some a
  | _ => none
/-- the frame at a def's entry -/
theorem entry {R F H : Hp} {d : Def} {as : List Sl} {vs : List V} {N ps : List Str} (hB : B.base = B) (hns : d.ns = N.length) (hle : ps.length ≤ N.length) (hl : vs.length = ps.length) (ha : as.length = ps.length) (hr : Sub R H) (hf : Sub F H) (nr : NoT R) (nf : NoT F) (ht : NdefX.TabsN B.T H)
    (hs : ∀ (i : Nat) (s : Sl), as[i]? = some s → SlOk B R F H s ((vs[i]?).map some)) (hao : argsOk d.io as = true) :
    ∃ G : Gx, G.base = B ∧ G.e = none ∧ (∀ xs a, as[0]? = some (.ol xs) → vs[0]? = some (.ref a) → G.io = some a) ∧ G.u = none ∧ Mt G R F (frame0 d as none) (L2.start N vs) H := by
  have be : B.e = none := by rw [← hB]; rfl
  refine ⟨{ B with io := (vs[0]?).bind refOf }, ?_, be, fun xs a _ e => by simp [e, refOf], by rw [← hB]; rfl, hr, hf, nr, nf, ht, fun q hq => ?_, ⟨?_, fun i s e => ?_, fun i j a o1 o2 => ?_⟩, fun hio => ?_, ?_⟩
  · rw [← hB]
    rfl
  · have : B.cd = [] := by rw [← hB]; rfl
    have hq : q ∈ B.cd := hq
    rw [this] at hq
    cases hq
  · rw [start_len _ _ (by omega)]
    show (as ++ List.replicate (d.ns - as.length) Sl.no).length = _
    simp
    omega
  · have e : (as ++ List.replicate (d.ns - as.length) Sl.no)[i]? = some s := e
    by_cases hi : i < as.length
    · rw [List.getElem?_append_left hi] at e
      rw [start_at (by omega)]
      have q := hs i s e
      cases s with
      | ex x =>
        obtain ⟨a, c, d, h1, _⟩ := q
        rw [be] at h1
        cases h1
      | _ => exact q
    · rw [List.getElem?_append_right (by omega), List.getElem?_replicate] at e
      split at e
      · cases e
        trivial
      · cases e
  · have key : ∀ {i}, ownAt (as ++ List.replicate (d.ns - as.length) Sl.no) (L2.start N vs) i a → i = 0 := fun {i} ⟨xs, h1, _⟩ => by
      by_cases hi : i < as.length
      · rw [List.getElem?_append_left hi] at h1
        exact (argsOk_at hao i xs h1).1
      · rw [List.getElem?_append_right (by omega), List.getElem?_replicate] at h1
        split at h1 <;> cases h1
    rw [key o1, key o2]
  · have hio : (d.io || false) = true := hio
    rw [Bool.or_false] at hio
    rw [hio] at hao
    obtain ⟨xs, h0⟩ := argsOk_io hao
    obtain ⟨a, us, h1, _⟩ := hs 0 _ h0
    have hv : vs[0]? = some (.ref a) := by
      cases q : vs[0]? with
      | none => rw [q] at h1; cases h1
      | some v =>
        rw [q] at h1
        have h1 : some (some v) = some (some (V.ref a)) := h1
        cases h1
        rfl
    refine ⟨a, by simp [hv, refOf], ?_⟩
    rw [start_at (by
      have := (List.getElem?_eq_some_iff.mp hv).1
      omega), hv]
    rfl
  · show UpOk _ none B.u
    rw [show B.u = none by rw [← hB]; rfl]
    trivial
end
end Ev
end
section
set_option Elab.async false
set_option linter.all false
set_option maxRecDepth 100000
set_option maxHeartbeats 1000000
set_option autoImplicit false
namespace Ev
open PySem L2 PySem.Spec PyProof.Rows LamX
section
variable {p : Pg} {Pr : Prog} {fuel : Nat} {P : Program} {w : World} {K : Fg} {mg : Str → Option Value} {base : Heap} {B : Gx} {N0 : Nat}
theorem bk_of {G : Gx} {R F F' H' : Hp} {ρ' : Fr} {σ' : L2.St} (gB : G.base = B) (ef : Ef R F F') (m : Mt G R F' ρ' σ' H') : Bk B R F F' H' :=
  ⟨ef, m.r, m.f, m.nf, by
    have e : G.base.T = B.T := congrArg Gx.T gB
    have e : G.T = B.T := e
    rw [← e]
    exact m.tab⟩
theorem io_of {G : Gx} {R F' H' : Hp} {as : List Sl} {vs : List V} {ρ' : Fr} {σ' : L2.St} (gB : G.base = B) (ge : G.e = none) (gi : ∀ xs a, as[0]? = some (.ol xs) → vs[0]? = some (.ref a) → G.io = some a) (m : Mt G R F' ρ' σ' H') : IoOk B R F' H' as vs (if ρ'.io then ρ'.get 0 else .no) := by
  intro xs a h1 h2
  cases hio : ρ'.io with
  | false => exact trivial
  | true =>
    obtain ⟨a', e1, e2⟩ := m.io hio
    rw [gi xs a h1 h2] at e1
    cases e1
    show SlOk B R F' H' (ρ'.get 0) _
    have eK : G.base.K = B.K := congrArg Gx.K gB
    have eK : G.K = B.K := eK
    cases hg : ρ'.get 0 with
    | no => trivial
    | v d =>
      obtain ⟨v, q1, q2⟩ := m.me.at_ 0 _ (get_v hg)
      rw [e2] at q1
      exact ⟨v, q1, eK ▸ q2⟩
    | ol ys =>
      obtain ⟨b, us, q1, q2, q3, q4, q5⟩ := m.me.at_ 0 _ (get_ol hg)
      rw [e2] at q1
      exact ⟨b, us, q1, q2, q3, q4, eK ▸ q5⟩
    | ex x =>
      obtain ⟨b, c, d, q1, _⟩ := m.me.at_ 0 _ (get_ex hg)
      rw [ge] at q1
      cases q1
/-- the promise is kept -/
theorem body_end {G : Gx} {R F H : Hp} {as : List Sl} {vs : List V} {o : OutS} {Q : VK} {E : XK} (gB : G.base = B) (ge : G.e = none) (gi : ∀ xs a, as[0]? = some (.ol xs) → vs[0]? = some (.ref a) → G.io = some a) (h : AfC B R F as vs (endC o) Q E) :
    AfS G (fun cls d _ H => E cls d H) R F o { nx := fun _ H' => Q .non H', rt := Q } := by
  have eK : G.base.K = B.K := congrArg Gx.K gB
  have eK : G.K = B.K := eK
  have eC : G.base.C = B.C := congrArg Gx.C gB
  have eC : G.C = B.C := eC
  cases o with
  | stk => exact h
  | bk ρ' => exact h.elim
  | nx ρ' =>
    intro F' H' σ' ef m
    exact h F' H' .non (bk_of gB ef m) .non (io_of gB ge gi m) fun xs a h1 h2 _ h4 => by
      obtain ⟨ys, h4⟩ := h4
      cases h4
  | rt r ρ' =>
    intro F' H' σ' v ef m ok
    cases r with
    | pl i => exact h.elim
    | v d =>
      exact h F' H' v (bk_of gB ef m) (eK ▸ ok) (io_of gB ge gi m) fun xs a h1 h2 h3 h4 e => by
        obtain ⟨ys, h4⟩ := h4
        cases h4
    | l ys =>
      obtain ⟨c, us, q1, q2, q3, q4, q5, fr⟩ := ok
      refine h F' H' v (bk_of gB ef m) ⟨c, us, q1, q2, q3, q4, eK ▸ q5⟩ (io_of gB ge gi m) fun xs a h1 h2 h3 _ e => ?_
      obtain ⟨zs, h3⟩ := h3
      have h3 : (if ρ'.io = true then ρ'.get 0 else Sl.no) = .ol zs := h3
      subst q1
      cases e
      cases hio : ρ'.io with
      | false =>
        rw [if_neg (by rw [hio]; decide)] at h3
        cases h3
      | true =>
        rw [if_pos hio] at h3
        obtain ⟨a', e1, e2⟩ := m.io hio
        rw [gi xs _ h1 h2] at e1
        cases e1
        exact fr.1 0 ⟨zs, get_ol h3, e2⟩
  | ex x ρ' =>
    intro F' H' σ' cls d ef m hx
    exact h F' H' cls d (bk_of gB ef m) (eC ▸ hx) (io_of gB ge gi m)
theorem fn_zero {x : Nat} {as : List Sl} : (orc Pr fuel 0).call x as none = .stk := rfl
/-- a def keeps its promise, if those that it calls do -/
theorem fn_step (s0 : St0 p Pr P w K mg base B) {j : Nat} (lv : Lv p Pr fuel P w K mg base B j) {f : Nat} {d : Def} (hd : Pr.defs[f]? = some d) (hc : d.clo = false) :
    ∃ (x : Str) (fa : Addr) (fd : FuncData) (ps : List Str), p.fns[f]? = some (x, ps.length, false) ∧ mg x = some (.ref fa) ∧ PySem.W.keepIn K (.ref fa) = true ∧
    FnOk P w K mg base (L2.CX P w) (j + 2) fa fd ps (spF B ps.length fun as => (orc Pr fuel (j + 1)).call f as none) ∧ Binds K fd ps [] ∧ (∀ as, as.length ≠ ps.length → (orc Pr fuel (j + 1)).call f as none = .stk) ∧ (∃ oc od osl, K.lookup fa = some ⟨oc, od, .func fd, osl⟩) ∧ fd.params.args.map (·.arg) = ps := by
  obtain ⟨x, fa, fd, pa, body, sc, N, ps, tab, h1, h2, h3, h4, h5, h6, h7, h8, h9, h10, hpa⟩ := s0.dfs f d hd
  rw [hc] at h1
  have kp := h3.kp
  have hcall : ∀ as, (orc Pr fuel (j + 1)).call f as none = if as.length = d.np ∧ argsOk d.io as = true then endC (evS (orc Pr fuel j) d.body (frame0 d as none)) else .stk := fun as => by
    show (match Pr.defs[f]? with
      | some d => if as.length + (if d.clo then 1 else 0) = d.np && ((none : Option (List Sl × E)).isSome == d.clo) && argsOk d.io as then endC (evS (orc Pr fuel j) d.body (frame0 d as none)) else .stk
      | none => .stk) = _
    rw [hd]
    simp [hc]
  refine ⟨x, fa, fd, ps, h1, h2, kp, ?_, h4, fun as hl => by rw [hcall, if_neg fun z => hl (z.1.trans h7)], (by
    obtain ⟨oc, od, dV, kV, doc, pm, an, cdv, ct, osl, _, lk, _⟩ := h3.ex
    exact ⟨oc, od, osl, lk⟩), (by
    obtain ⟨oc, od, dV, kV, doc, pm, an, cdv, ct, osl, e, lk, _⟩ := h3.ex
    rw [e]
    exact hpa)⟩
  have hle : ps.length ≤ N.length := by
    have := congrArg List.length h5.pre
    simp at this
    omega
  obtain ⟨oc, od, dV, kV, doc, pm, an, cdv, ct, osl, rfl, lk, hcg, -, -⟩ := h3.ex
  refine fn_of lk hcg h5 (fun vs H Q E z => by
    obtain ⟨R, F, as, _, _, _, _, _, z, _⟩ := z
    exact z) fun A outer s H vs Q E hr sp => ?_
  obtain ⟨R, F, as, r1, r2, r3, r4, r5, r6, r7, r8, r9⟩ := sp
  have r9 : AfC B R F as vs ((orc Pr fuel (j + 1)).call f as none) Q E := r9
  rw [hcall] at r9
  by_cases hcond : as.length = d.np ∧ argsOk d.io as = true
  · rw [if_pos hcond] at r9
    obtain ⟨G, g1, g2, g3, g4, mt⟩ := entry (N := N) (ps := ps) s0.bB h6 hle r6 r7 r1 r2 r3 r4 r5 r8 hcond.2
    rw [hc] at h9
    have ctx := def_ctx (k := j + 1) (O := orc Pr fuel j) (cd := cdv) (tab := tab) (outer := outer) (H := H) (E := E) s0 g1 g2 h5 hr (fun ht => by
      obtain ⟨Pt, Tq, q1, q2, q3, q4⟩ := h10 ht
      obtain ⟨c, rfl⟩ := He.codeIn_ref hcg
      exact ⟨c, Pt, Tq, q1 c rfl, rfl, q2, q3, q4⟩)
    exact ⟨_, chkB_ok lv d.body (Nat.le_refl _) ⟨rfl, rfl, rfl, rfl⟩ ctx ⟨L2.passes_of rfl, rfl, rfl⟩ h9, R, F, _, mt, body_end (H := H) g1 g2 g3 r9⟩
  · rw [if_neg hcond] at r9
    exact r9.elim
theorem clo_step (s0 : St0 p Pr P w K mg base B) {m : Nat} (lvs : ∀ j, m = j + 1 → Lv p Pr fuel P w K mg base B j) : CloF p Pr fuel P w K mg base B m := by
  intro f x n' hf
  have hlt : f < Pr.defs.length := by
    rw [← s0.fl]
    exact (List.getElem?_eq_some_iff.mp hf).1
  obtain ⟨d, hd⟩ : ∃ d, Pr.defs[f]? = some d := ⟨_, List.getElem?_eq_getElem hlt⟩
  obtain ⟨x', fa, fd, pa, body, sc, N, ps, tab, h1, h2, h3, h4, h5, h6, h7, h8, h9, h10, hpa⟩ := s0.dfs f d hd
  rw [hf] at h1
  have h1 : (x, n', true) = (x', ps.length, d.clo) := Option.some.inj h1
  injection h1 with e1 e2
  injection e2 with e2 e3
  subst e1
  have hc : d.clo = true := e3.symm
  obtain ⟨l1, l2, l4, l3⟩ := h8 hc
  subst l4
  match ps, l1, l3, h4, h5, h7, h9 with
  | [a], l1, l3, h4, h5, h7, h9 =>
    obtain ⟨n1, n2⟩ := l3 a rfl
    have hpre : N.take 1 = [a] := h5.pre
    have hN : N[0]? = some a := by
      cases N with
      | nil => cases hpre
      | cons n N =>
        have e : [n] = [a] := hpre
        cases e
        rfl
    have hv : Vis sc a := (h5.par a List.mem_cons_self).elim .inl fun z => .inr (.inl z)
    refine ⟨fa, fd, pa, body, sc, N, a, d.body, h2, h3, h4, h5, hN, hv, n1, n2, fun j hj b => ?_⟩
    have lv := lvs j hj
    subst hj
    refine ⟨fun sl => ?_, fun A stack cdv s H G f' c' q σ gB hr hact => ?_⟩
    · show (match Pr.defs[f]? with
        | some d => if ([] : List Sl).length + (if d.clo then 1 else 0) = d.np && ((some (sl, b)).isSome == d.clo) && argsOk d.io [] then endC (evS (cloO Pr fuel j b) d.body (frame0 d [] (some (sl, b)))) else .stk
        | none => .stk) = _
      rw [hd]
      have e : (([] : List Sl).length + (if d.clo then 1 else 0) = d.np && ((some (sl, b)).isSome == d.clo) && argsOk d.io []) = true := by
        rw [hc, l2, h7]
        rfl
      show (if _ then _ else _) = _
      rw [if_pos e]
      have ef : frame0 d [] (some (sl, b)) = ⟨List.replicate N.length .no, true, some (sl, b)⟩ := by
        unfold frame0
        rw [l2, h6]
        rfl
      rw [ef]
    · rw [hc] at h9
      refine chkB_ok lv d.body (n := j) (O := cloO Pr fuel j b) (c := defPc N sc (some a) false) (Nat.le_refl _) ⟨rfl, rfl, rfl, rfl⟩ ?_ ⟨PassesOwn.never, rfl, rfl⟩ ?_
      · exact { eP := rfl, ew := rfl, eK := rfl, em := rfl, eb := rfl, eB := gB, bK := s0.bK, he := rfl, eN := rfl, nd := h5.nd, es := rfl, kd := h5.kind, fn := fun _ _ => rfl, cal := fun _ => rfl, room := fun _ => hr,
                un := by
                  have := hr.un
                  show (A.deeper (envOfC x sc s.heap.objs.size fa cdv)).units + 100 < cLine
                  omega
                tk := takes_none5
                act := fun a' h pn xe W p1 p2 tk => by
                  have h : some a = some a' := h
                  cases h
                  exact hact W pn xe p1 p2 tk
                tab := fun h => by cases h }
      · exact h9
theorem lv_all (s0 : St0 p Pr P w K mg base B) : ∀ n, Lv p Pr fuel P w K mg base B n := by
  have wo_of : ∀ m : Nat, (∀ (f : Nat) (x : Str) (n : Nat), p.fns[f]? = some (x, n, false) → ∃ (fa : Addr) (fd : FuncData) (ps : List Str), mg x = some (.ref fa) ∧ PySem.W.keepIn K (.ref fa) = true ∧
    FnOk P w K mg base (L2.CX P w) (m + 1) fa fd ps (spF B ps.length fun as => (orc Pr fuel m).call f as none) ∧ Binds K fd ps [] ∧ ∀ as, as.length ≠ ps.length → (orc Pr fuel m).call f as none = .stk) → Wo p P w K mg base B (orc Pr fuel m) (m + 1) := fun m h =>
    ⟨h, by rw [orc_glb]; exact s0.glb, s0.cls, by rw [orc_exi]; exact s0.exm, s0.blt⟩
  have def_of : ∀ (f : Nat) (x : Str) (n : Nat), p.fns[f]? = some (x, n, false) → ∃ d : Def, Pr.defs[f]? = some d ∧ d.clo = false := fun f x n hf => by
    have hlt : f < Pr.defs.length := by
      rw [← s0.fl]
      exact (List.getElem?_eq_some_iff.mp hf).1
    obtain ⟨d, hd⟩ : ∃ d, Pr.defs[f]? = some d := ⟨_, List.getElem?_eq_getElem hlt⟩
    obtain ⟨x', fa, fd, pa, body, sc, N, ps, tab, h1, _⟩ := s0.dfs f d hd
    rw [hf] at h1
    have h1 : (x, n, false) = (x', ps.length, d.clo) := Option.some.inj h1
    injection h1 with e1 e2
    injection e2 with e2 e3
    exact ⟨d, hd, e3.symm⟩
  have zero : Lv p Pr fuel P w K mg base B 0 := by
    refine ⟨fun m hm => ?_, fun m hm => ?_⟩
    · obtain rfl : m = 0 := by omega
      refine wo_of 0 fun f x n hf => ?_
      obtain ⟨d, hd, hc⟩ := def_of f x n hf
      obtain ⟨x', fa, fd, pa, body, sc, N, ps, tab, h1, h2, h3, h4, _⟩ := s0.dfs f d hd
      rw [hf] at h1
      have h1 : (x, n, false) = (x', ps.length, d.clo) := Option.some.inj h1
      injection h1 with e1 e2
      subst e1
      have no : ∀ vs H Q E, ¬ spF B ps.length (fun as => (orc Pr fuel 0).call f as none) vs H Q E := fun vs H Q E z => by
        obtain ⟨R, F, as, _, _, _, _, _, _, _, _, z⟩ := z
        exact z
      exact ⟨fa, fd, ps, h2, h3.kp, ⟨fun vs H Q E z => (no _ _ _ _ z).elim, fun A outer s H args us vs Q E _ _ _ _ z => (no _ _ _ _ z).elim⟩, h4, fun _ _ => rfl⟩
    · obtain rfl : m = 0 := by omega
      exact clo_step s0 fun j hj => by cases hj
  intro n
  induction n with
  | zero => exact zero
  | succ j ih =>
    refine ⟨fun m hm => ?_, fun m hm => ?_⟩
    · rcases Nat.lt_or_ge m (j + 1) with h | h
      · exact ih.wo m (by omega)
      · obtain rfl : m = j + 1 := by omega
        refine wo_of (j + 1) fun f x n hf => ?_
        obtain ⟨d, hd, hc⟩ := def_of f x n hf
        obtain ⟨x', fa, fd, ps, h1, h2, h3, h4, h5, h6, _⟩ := fn_step (fuel := fuel) s0 ih hd hc
        rw [hf] at h1
        have h1 : (x, n, false) = (x', ps.length, false) := Option.some.inj h1
        injection h1 with e1 e2
        subst e1
        exact ⟨fa, fd, ps, h2, h3, h4, h5, h6⟩
    · rcases Nat.lt_or_ge m (j + 1) with h | h
      · exact ih.clo m (by omega)
      · obtain rfl : m = j + 1 := by omega
        exact clo_step s0 fun i hi => by
          injection hi with hi
          subst hi
          exact ih
end
end Ev
end
section
set_option Elab.async false
set_option linter.all false
set_option maxRecDepth 100000
set_option maxHeartbeats 1000000
set_option autoImplicit false
namespace Ev
open PySem L2 PySem.Spec PyProof.Rows LamX
/-! #### the law's own promise -/
def scrD (ns : List Int) : D := .dict [(.none, .list (ns.map PyData.int))]
theorem rps_ints {K : Fg} {F : Hp} : ∀ ns : List Int, Rps K F (ns.map V.int) (ns.map PyData.int)
  | [] => .nil
  | n :: ns => .cons (.int n) (rps_ints ns)
theorem scr_rp {K : Fg} {H : Hp} {a : Addr} {ns : List Int} (h : SqL K H a (ns.map V.int)) : ∃ F : Hp, Sub F H ∧ NoT F ∧ Rp K F (.ref a) (scrD ns) := by
  rcases h with h | h
  · refine ⟨fun b => if b = a then H a else none, fun b o e => ?_, fun b ps e => ?_, .scr (.inl ?_) (rps_ints ns)⟩
    · have e : (if b = a then H a else none) = some o := e
      split at e
      · rename_i q
        rw [q]
        exact e
      · cases e
    · have e : (if b = a then H a else none) = some (.tbl ps) := e
      split at e
      · rcases h with h | ⟨o, h⟩
        · rw [h] at e
          cases e
        · rw [h] at e
          cases e
      · cases e
    · show Rd (fun b => if b = a then H a else none) a _
      rcases h with h | ⟨o, h⟩
      · exact .inl (by rw [← h]; exact if_pos rfl)
      · exact .inr ⟨o, by rw [← h]; exact if_pos rfl⟩
  · exact ⟨fun _ => none, fun b o e => (by cases e), fun b ps e => (by cases e), .scr (.inr h) (rps_ints ns)⟩
theorem triples0 : TriplesOk (#[] : Array Value).toList := by
  unfold TriplesOk
  simp
theorem tabN_empty {H : Hp} {P : Addr} {nm : Nat → Nat → Str} (h : H P = some (.tbl #[])) : NdefX.TabN H P nm :=
  ⟨#[], h, triples0, fun pos cv e => (by cases e)⟩
/-- the promise at the script: the answer is True -/
theorem law_sp {B : Gx} {K : Fg} (hK : B.K = K) {call : List Sl → OutC} {H : Hp} {a : Addr} {ns : List Int} (ht : ∀ q ∈ B.T, H q.1 = some (.tbl #[])) (hS : SqL K H a (ns.map V.int)) (hc : ∃ io up, call [.v (scrD ns)] = .ok (.v (.bool true)) io up) :
    spF B 1 call [.ref a] H (fun v _ => v = .bl true) (fun _ _ _ => False) := by
  obtain ⟨F, f1, f2, f3⟩ := scr_rp hS
  obtain ⟨io, up, hc⟩ := hc
  refine ⟨fun _ => none, F, [.v (scrD ns)], fun b o e => (by cases e), f1, fun b ps e => (by cases e), f2, fun q hq => tabN_empty (ht q hq), rfl, rfl, fun i s h => ?_, ?_⟩
  · cases i with
    | zero =>
      obtain rfl : Sl.v (scrD ns) = s := by simpa using h
      exact ⟨.ref a, rfl, by rw [hK]; exact f3⟩
    | succ i => cases h
  · rw [hc]
    intro F' H' v bk ok _ _
    have ok : Rp B.K F' v (.bool true) := ok
    cases ok
    rfl
theorem cx_none {P : Program} {w : World} {H : Hp} {s s' : Shared} {e : Value} (h : L2.CX P w [] H s (fun _ _ _ => False) e s') : False := by
  obtain ⟨_, _, _, _, _, _, _, _, _, _, _, _, z⟩ := h
  exact z
end Ev
end
section
set_option Elab.async false
set_option linter.all false
set_option maxRecDepth 100000
set_option maxHeartbeats 1000000
set_option autoImplicit false
namespace Ev
open PySem L2 PySem.Spec PyProof.Rows LamX
/-! #### from the head's facts to St0 -/
def lamName (x : Str) : Str := x ++ ".<locals>." ++ "<lambda>"
/-- the tables of the defs named -/
def tabQ (K : Fg) (tf : List Str) : List (Addr × Str) := tf.map fun x => ((He.cT K (x, none)).2, lamName x)
def gxOf (K : Fg) (tf : List Str) (cn : Nat → Str) : Gx := { K := K, T := (tabQ K tf).map fun q => (q.1, fun _ _ => q.2), C := fun i => .ref (He.ga K (cn i)) }
def tabEx (tf : List Str) (K : Fg) : Bool := decide ((tf.map fun x => (He.cT K (x, none)).2).Nodup)
theorem tabQ_one {K : Fg} : ∀ {tf : List Str}, (tf.map fun x => (He.cT K (x, none)).2).Nodup → ∀ {x : Str}, x ∈ tf → ∀ q ∈ tabQ K tf, q.1 = (He.cT K (x, none)).2 → q.2 = lamName x
  | [], _, _, h, _, _, _ => by cases h
  | y :: r, hn, x, h, q, hq, e => by
    have hn : ((He.cT K (y, none)).2 :: (r.map fun x => (He.cT K (x, none)).2)).Nodup := hn
    rw [List.nodup_cons] at hn
    have hq : q ∈ ((He.cT K (y, none)).2, lamName y) :: tabQ K r := hq
    rcases List.mem_cons.mp h with h | h
    · rcases List.mem_cons.mp hq with hq | hq
      · rw [hq, h]
      · exfalso
        obtain ⟨z, hz, ez⟩ := List.mem_map.mp hq
        refine hn.1 (List.mem_map.mpr ⟨z, hz, ?_⟩)
        rw [← h, ← e, ← ez]
    · rcases List.mem_cons.mp hq with hq | hq
      · exfalso
        refine hn.1 (List.mem_map.mpr ⟨x, h, ?_⟩)
        rw [← e, hq]
      · exact tabQ_one hn.2 h q hq e
theorem tab_df {K : Fg} {base : Heap} {mg : Str → Option Value} {tf : List Str} {cn : Nat → Str} {x q : Str} {pa : Arguments} {body : List Stmt} {sc : Scope} {dv : List V} {kv : List (Str × V)} {fd : FuncData} (F : FunD K x q pa body sc dv kv (He.ga K x) fd) (hx : x ∈ tf) (hn : tabEx tf K = true)
    (ht : ∀ p ∈ tf.map (fun x => He.cT K (x, none)), TabB base mg p.1 p.2) :
    ∃ (Pt : Addr) (Tq : List (Addr × Str)), (∀ c, fd.code = .ref c → TabB base mg c Pt) ∧ (Pt, x ++ ".<locals>." ++ "<lambda>") ∈ Tq ∧ (∀ q ∈ Tq, q.1 = Pt → q.2 = x ++ ".<locals>." ++ "<lambda>") ∧ (gxOf K tf cn).T = Tq.map fun q => (q.1, fun _ _ => q.2) := by
  refine ⟨(He.cT K (x, none)).2, tabQ K tf, fun c hc => ?_, List.mem_map.mpr ⟨x, hx, rfl⟩, tabQ_one (of_decide_eq_true hn) hx, rfl⟩
  obtain ⟨oc, od, dV, kV, doc, pm, an, cdv, ct, osl, e, lk, _⟩ := F.ex
  have q := ht _ (List.mem_map.mpr ⟨x, hx, rfl⟩)
  have e2 : (He.cT K (x, none)).1 = c := He.codeOf_eq (p := (x, none)) lk hc
  rw [e2] at q
  exact q
theorem cls_of {K : Fg} {base : Heap} {mg : Str → Option Value} {tf : List Str} {cn : Nat → Str} {cl : List Str} (X : K.In base) (G : base.Ns mainGlobals mg) (hc : ∀ c x, cl[c]? = some x → cn c = x)
    (h : ∀ x ∈ cl, (He.Fa.exc x).ok K = true ∧ (He.Fa.glo x).ok K = true) : ∀ (c : Nat) (x : Str), cl[c]? = some x → ∃ C : Addr, (gxOf K tf cn).C c = .ref C ∧ mg x = some (.ref C) ∧ PySem.W.keepIn K (.ref C) = true ∧ PySem.W.excIn K C He.veBase "ValueError.__new__" = true ∧
      PySem.W.subIn K (.ref C) (.type "BaseException") = some true ∧ PySem.W.typeIn K (.ref C) = some (.type "type") := by
  intro c x e
  obtain ⟨h1, h2⟩ := h x (List.mem_of_getElem? e)
  have h1 : (PySem.W.excIn K (He.ga K x) He.veBase "ValueError.__new__" && (PySem.W.keepIn K (.ref (He.ga K x)) && (decide (PySem.W.subIn K (.ref (He.ga K x)) (.type "BaseException") = some true) && decide (PySem.W.typeIn K (.ref (He.ga K x)) = some (.type "type"))))) = true := h1
  obtain ⟨a, h1⟩ := and2 h1
  obtain ⟨b, h1⟩ := and2 h1
  obtain ⟨c1, d⟩ := and2 h1
  refine ⟨He.ga K x, ?_, He.glo_ok X G h2, b, a, of_decide_eq_true c1, of_decide_eq_true d⟩
  show Value.ref (He.ga K (cn c)) = _
  rw [hc c x e]
/-- the classes' table: an index beyond counts as the first -/
def clampN (n i : Nat) : Nat := if i < n then i else 0
theorem exm_of {K : Fg} {tf : List Str} {cn : Nat → Str} {n : Nat} {ex : Nat → Nat → Bool} (hn : 0 < n) (hc : ∀ i, cn i = cn (clampN n i)) (he : ∀ i j, ex i j = ex (clampN n i) (clampN n j))
    (h : ∀ i, i < n → ∀ j, j < n → (He.Fa.exm (cn i) (cn j) (ex i j)).ok K = true) : ∀ i c, PySem.W.exmOne K ((gxOf K tf cn).C i) ((gxOf K tf cn).C c) = some (ex i c) := by
  have cl : ∀ i, clampN n i < n := fun i => by
    unfold clampN
    split <;> assumption
  intro i c
  have q := h _ (cl i) _ (cl c)
  have q : PySem.W.exmOne K (.ref (He.ga K (cn (clampN n i)))) (.ref (He.ga K (cn (clampN n c)))) = some (ex (clampN n i) (clampN n c)) := of_decide_eq_true q
  rw [← hc, ← hc, ← he] at q
  exact q
def exmFa (cn : Nat → Str) (n : Nat) (ex : Nat → Nat → Bool) : List He.Fa := (List.range n).flatMap fun i => (List.range n).map fun j => .exm (cn i) (cn j) (ex i j)
theorem exmFa_mem {cn : Nat → Str} {n : Nat} {ex : Nat → Nat → Bool} {i j : Nat} (hi : i < n) (hj : j < n) : He.Fa.exm (cn i) (cn j) (ex i j) ∈ exmFa cn n ex :=
  List.mem_flatMap.mpr ⟨i, List.mem_range.mpr hi, List.mem_map.mpr ⟨j, List.mem_range.mpr hj, rfl⟩⟩
/-- the law's promise at the script -/
theorem law_fnok {p : Pg} {Pr : Prog} {fuel : Nat} {P : Program} {w : World} {K : Fg} {mg : Str → Option Value} {base : Heap} {B : Gx} (s0 : St0 p Pr P w K mg base B) (m : Nat) {f : Nat} {d : Def} (hd : Pr.defs[f]? = some d) (hc : d.clo = false) {x y : Str} {fa : Addr} {fd : FuncData} {oc : Value} {od : Option Addr} {osl : Array (Option Value)}
    (hx : p.fns[f]? = some (x, 1, false)) (hmg : mg x = some (.ref fa)) (lk : K.lookup fa = some ⟨oc, od, .func fd, osl⟩) (hps : fd.params.args.map (·.arg) = [y]) :
    FnOk P w K mg base (L2.CX P w) (m + 2) fa fd [y] (spF B 1 fun as => (orc Pr fuel (m + 1)).call f as none) := by
  obtain ⟨x', fa', fd', ps, h1, h2, h3, h4, h5, h6, ⟨oc', od', osl', h7⟩, h8⟩ := fn_step (fuel := fuel) s0 (lv_all s0 m) hd hc
  rw [hx] at h1
  have h1 := Option.some.inj h1
  injection h1 with e1 e2
  injection e2 with e2 e3
  subst e1
  rw [hmg] at h2
  have h2 : fa = fa' := by
    have z := Option.some.inj h2
    injection z
  subst h2
  rw [lk] at h7
  have h7 : fd = fd' := by
    have z := Option.some.inj h7
    injection z with _ _ z
    injection z
  subst h7
  rw [hps] at h8
  subst h8
  exact h4
end Ev
end
section
set_option Elab.async false
set_option linter.all false
set_option maxRecDepth 100000
set_option maxHeartbeats 0
namespace K62
open PySem Ev
/-- 0 is_integer (0 thing) -/
def b_is_integer : S :=
 (.seq (.ret true (.and (.isi (.var 0) .int) (.notV (.isi (.var 0) .bool))))
 .skip)
/-- 1 is_within (0 thing, 1 low, 2 high) -/
def b_is_within : S :=
 (.seq (.ret true (.and (.call 0 (.cons (.var 0) .nil)) (.chain .le .le (.var 1) (.var 0) (.var 2))))
 .skip)
/-- 2 is_sized (0 thing, 1 low, 2 high) -/
def b_is_sized : S :=
 (.seq (.ret true (.and (.isi (.var 0) .tuple) (.chain .le .le (.var 1) (.bi .len (.cons (.var 0) .nil)) (.var 2))))
 .skip)
/-- 3 are_rising (0 things, 1 one, 2 other) -/
def b_are_rising : S :=
 (.seq (.ret true (.bi .all (.cons (.comp [1, 2] (.cn (.nm 1) (.cn (.nm 2) .nl)) (.zip (.var 0) (.slc (.var 0) (.cst (.int 1)) (.cst .none))) .tt (.cmp .lt (.var 1) (.var 2))) .nil)))
 .skip)
/-- 4 is_lot (0 thing, 1 many, 2 one) -/
def b_is_lot : S :=
 (.seq (.ite (.or (.not (.val (.isi (.var 0) .tuple))) (.not (.val (.bi .all (.cons (.comp [2] (.nm 2) (.seq (.var 0)) .tt (.call 1 (.cons (.var 2) (.cons (.cst (.int 0)) (.cons (.bin .sub (.var 1) (.cst (.int 1))) .nil))))) .nil)))))
 (.seq (.ret true (.cst (.bool false)))
 .skip)
 .skip)
 (.seq (.ret true (.call 3 (.cons (.var 0) .nil)))
 .skip))
/-- 5 is_order (0 thing, 1 many, 2 one) -/
def b_is_order : S :=
 (.seq (.ite (.or (.not (.val (.call 2 (.cons (.var 0) (.cons (.var 1) (.cons (.var 1) .nil)))))) (.not (.val (.bi .all (.cons (.comp [2] (.nm 2) (.seq (.var 0)) .tt (.call 0 (.cons (.var 2) .nil))) .nil)))))
 (.seq (.ret true (.cst (.bool false)))
 .skip)
 .skip)
 (.seq (.ret true (.cmp .eq (.bi .sorted (.cons (.var 0) .nil)) (.lrg1 (.var 1))))
 .skip))
/-- 6 are_soils (0 foods, 1 thing, 2 pair, 3 one) -/
def b_are_soils : S :=
 (.seq (.ite (.not (.val (.isi (.var 1) .tuple)))
 (.seq (.ret true (.cst (.bool false)))
 .skip)
 .skip)
 (.seq (.fori (.nm 2) (.seq (.var 1))
 (.seq (.ite (.or (.not (.val (.call 2 (.cons (.var 2) (.cons (.cst (.int 2)) (.cons (.cst (.int 2)) .nil)))))) (.or (.not (.val (.bi .all (.cons (.comp [3] (.nm 3) (.seq (.var 2)) .tt (.call 1 (.cons (.var 3) (.cons (.cst (.int 0)) (.cons (.bin .sub (.var 0) (.cst (.int 1))) .nil))))) .nil)))) (.cmp .eq (.idx (.var 2) (.cst (.int 0))) (.idx (.var 2) (.cst (.int 1))))))
 (.seq (.ret true (.cst (.bool false)))
 .skip)
 .skip)
 .skip))
 (.seq (.ret true (.call 3 (.cons (.var 1) .nil)))
 .skip)))
/-- 7 is_work (0 thing) -/
def b_is_work : S :=
 (.seq (.ret true (.and (.call 2 (.cons (.var 0) (.cons (.cst (.int 2)) (.cons (.cst (.int 2)) .nil)))) (.and (.call 1 (.cons (.idx (.var 0) (.cst (.int 0))) (.cons (.cst (.int 1)) (.cons (.glb 0) .nil)))) (.call 6 (.cons (.idx (.var 0) (.cst (.int 0))) (.cons (.idx (.var 0) (.cst (.int 1))) .nil))))))
 .skip)
/-- 8 check_work (0 work) -/
def b_check_work : S :=
 (.seq (.ite (.not (.val (.call 7 (.cons (.var 0) .nil))))
 (.seq (.raise 4)
 .skip)
 .skip)
 .skip)
/-- 9 check_foods (0 work, 1 lot) -/
def b_check_foods : S :=
 (.seq (.ex (.call 8 (.cons (.var 0) .nil)))
 (.seq (.ite (.not (.val (.call 4 (.cons (.var 1) (.cons (.idx (.var 0) (.cst (.int 0))) .nil)))))
 (.seq (.raise 2)
 .skip)
 .skip)
 .skip))
/-- 10 raw_must (0 work, 1 cut, 2 food, 3 one) -/
def b_raw_must : S :=
 (.seq (.ret true (.bi .any (.cons (.comp [3] (.nm 3) (.seq (.var 1)) .tt (.cmp .isin (.tup (.cons (.var 3) (.cons (.var 2) .nil))) (.idx (.var 0) (.cst (.int 1))))) .nil)))
 .skip)
/-- 11 must_wash (0 work, 1 cut, 2 food) -/
def b_must_wash : S :=
 (.seq (.ex (.call 9 (.cons (.var 0) (.cons (.var 1) .nil))))
 (.seq (.ite (.or (.not (.val (.call 1 (.cons (.var 2) (.cons (.cst (.int 0)) (.cons (.bin .sub (.idx (.var 0) (.cst (.int 0))) (.cst (.int 1))) .nil)))))) (.cmp .isin (.var 2) (.var 1)))
 (.seq (.raise 1)
 .skip)
 .skip)
 (.seq (.ret true (.call 10 (.cons (.var 0) (.cons (.var 1) (.cons (.var 2) .nil)))))
 .skip)))
/-- 12 check_cut_order (0 work, 1 order) -/
def b_check_cut_order : S :=
 (.seq (.ex (.call 8 (.cons (.var 0) .nil)))
 (.seq (.ite (.not (.val (.call 5 (.cons (.var 1) (.cons (.idx (.var 0) (.cst (.int 0))) .nil)))))
 (.seq (.raise 3)
 .skip)
 .skip)
 .skip))
/-- 13 raw_washes (0 work, 1 order, 2 found, 3 cut, 4 place, 5 food) -/
def b_raw_washes : S :=
 (.seq (.par (.nm 2) (.nm 3) true false (.lst .nil) (.lst .nil))
 (.seq (.fori (.cn (.nm 4) (.cn (.nm 5) .nl)) (.enum (.var 1))
 (.seq (.ite (.val (.call 10 (.cons (.var 0) (.cons (.var 3) (.cons (.var 5) .nil)))))
 (.seq (.mut .append 2 (.var 4))
 (.seq (.asg (.nm 3) false (.lst .nil))
 .skip))
 .skip)
 (.seq (.asg (.nm 3) false (.bin .add (.var 3) (.lst (.cons (.var 5) .nil))))
 .skip)))
 (.seq (.ret true (.bi .tuple (.cons (.pk 2) .nil)))
 .skip)))
/-- 14 washes_of (0 work, 1 order) -/
def b_washes_of : S :=
 (.seq (.ex (.call 12 (.cons (.var 0) (.cons (.var 1) .nil))))
 (.seq (.ret true (.call 13 (.cons (.var 0) (.cons (.var 1) .nil))))
 .skip))
/-- 15 is_washed (0 work, 1 order, 2 washes, 3 cut, 4 place, 5 food) -/
def b_is_washed : S :=
 (.seq (.ex (.call 12 (.cons (.var 0) (.cons (.var 1) .nil))))
 (.seq (.ite (.not (.val (.call 4 (.cons (.var 2) (.cons (.idx (.var 0) (.cst (.int 0))) .nil)))))
 (.seq (.raise 2)
 .skip)
 .skip)
 (.seq (.asg (.nm 3) false (.lst .nil))
 (.seq (.fori (.cn (.nm 4) (.cn (.nm 5) .nl)) (.enum (.var 1))
 (.seq (.keepIf 3 false (.cmp .isin (.var 4) (.var 2)) (.lst .nil))
 (.seq (.ite (.val (.call 10 (.cons (.var 0) (.cons (.var 3) (.cons (.var 5) .nil)))))
 (.seq (.ret true (.cst (.bool false)))
 .skip)
 .skip)
 (.seq (.asg (.nm 3) false (.bin .add (.var 3) (.lst (.cons (.var 5) .nil))))
 .skip))))
 (.seq (.ret true (.cst (.bool true)))
 .skip)))))
/-- 16 _law_hand (0 script, 1 cell) -/
def b__law_hand : S :=
 (.seq (.ret false (.lst (.cons (.comp [1] (.nm 1) (.seq (.slc (.var 0) (.cst .none) (.cst (.int 63)))) .tt (.bi .int (.cons (.var 1) .nil))) (.cons (.cst (.int 0)) (.cons (.cst (.int 0)) (.cons (.cst (.int 0)) .nil))))))
 .skip)
/-- 17 _law_mixed (0 cell, 1 turn, 2 number) -/
def b__law_mixed : S :=
 (.seq (.asg (.nm 2) false (.bin .mod (.bi .int (.cons (.bin .mul (.bin .add (.bin .add (.bin .mod (.bi .int (.cons (.var 0) .nil)) (.cst (.int 2147483647))) (.bin .mul (.cst (.int 7919)) (.var 1))) (.cst (.int 1))) (.cst (.int 48271))) .nil)) (.cst (.int 2147483647))))
 (.seq (.asg (.nm 2) false (.bin .mod (.bi .int (.cons (.bin .mul (.var 2) (.bin .add (.bin .fdiv (.var 2) (.cst (.int 1009))) (.cst (.int 69621)))) .nil)) (.cst (.int 2147483647))))
 (.seq (.ret true (.bin .fdiv (.bin .mod (.bi .int (.cons (.bin .mul (.var 2) (.bin .add (.bin .fdiv (.var 2) (.cst (.int 2003))) (.cst (.int 40692)))) .nil)) (.cst (.int 2147483399))) (.cst (.int 16))))
 .skip)))
/-- 18 _law_draw (0 hand, 1 many, 2 found, 3 cells, 4 at, 5 cell) -/
def b__law_draw : S :=
 (.seq (.setI 0 (.cst (.int 3)) (.bin .add (.idx (.pk 0) (.cst (.int 3))) (.cst (.int 1))))
 (.seq (.ite (.cmp .gt (.idx (.pk 0) (.cst (.int 2))) (.cst (.int 0)))
 (.seq (.asg (.nm 2) false (.bin .mod (.bi .int (.cons (.idx (.pk 0) (.cst (.int 2))) .nil)) (.var 1)))
 (.seq (.setI 0 (.cst (.int 2)) (.bin .fdiv (.idx (.pk 0) (.cst (.int 2))) (.var 1)))
 (.seq (.ret true (.var 2))
 .skip)))
 .skip)
 (.seq (.par (.nm 3) (.nm 4) false false (.idx (.pk 0) (.cst (.int 0))) (.idx (.pk 0) (.cst (.int 1))))
 (.seq (.setI 0 (.cst (.int 1)) (.bin .add (.var 4) (.cst (.int 1))))
 (.seq (.ite (.cmp .eq (.bi .len (.cons (.var 3) .nil)) (.cst (.int 0)))
 (.seq (.ret true (.bin .mod (.bi .int (.cons (.call 17 (.cons (.cst (.int 0)) (.cons (.idx (.pk 0) (.cst (.int 3))) .nil))) .nil)) (.var 1)))
 .skip)
 .skip)
 (.seq (.asg (.nm 5) false (.idx (.var 3) (.bin .mod (.bi .int (.cons (.var 4) .nil)) (.bi .len (.cons (.var 3) .nil)))))
 (.seq (.ite (.and (.cmp .lt (.var 4) (.bi .len (.cons (.var 3) .nil))) (.cmp .ge (.bi .abs (.cons (.var 5) .nil)) (.bin .pow (.cst (.int 10)) (.cst (.int 18)))))
 (.seq (.setI 0 (.cst (.int 2)) (.bin .fdiv (.bi .abs (.cons (.var 5) .nil)) (.var 1)))
 (.seq (.ret true (.bin .mod (.bi .int (.cons (.bi .abs (.cons (.var 5) .nil)) .nil)) (.var 1)))
 .skip))
 .skip)
 (.seq (.ret true (.bin .mod (.bi .int (.cons (.call 17 (.cons (.var 5) (.cons (.idx (.pk 0) (.cst (.int 3))) .nil))) .nil)) (.var 1)))
 .skip))))))))
/-- 19 _law_any (0 hand, 1 some) -/
def b__law_any : S :=
 (.seq (.ret true (.idx (.var 1) (.callM 18 0 (.cons (.bi .len (.cons (.var 1) .nil)) .nil))))
 .skip)
/-- 20 _law_work (0 hand, 1 most, 2 many, 3 soils, 4 one, 5 other) -/
def b__law_work : S :=
 (.seq (.asg (.nm 2) false (.bin .add (.cst (.int 1)) (.callM 18 0 (.cons (.var 1) .nil))))
 (.seq (.asg (.nm 3) true (.lst .nil))
 (.seq (.fori (.nm 4) (.rng1 (.var 2))
 (.seq (.mut .extend 3 (.comp [5] (.nm 5) (.rng1 (.var 2)) (.and (.cmp .ne (.var 5) (.var 4)) (.cmp .eq (.callM 18 0 (.cons (.cst (.int 3)) .nil)) (.cst (.int 0)))) (.tup (.cons (.var 4) (.cons (.var 5) .nil)))))
 .skip))
 (.seq (.ret true (.tup (.cons (.var 2) (.cons (.bi .tuple (.cons (.pk 3) .nil)) .nil))))
 .skip))))
/-- 21 _law_orders (0 many, 1 found, 2 turn, 3 longer, 4 row, 5 one) -/
def b__law_orders : S :=
 (.seq (.asg (.nm 1) false (.lst (.cons (.tup .nil) .nil)))
 (.seq (.fori (.nm 2) (.rng1 (.var 0))
 (.seq (.asg (.nm 3) true (.lst .nil))
 (.seq (.fori (.nm 4) (.seq (.var 1))
 (.seq (.mut .extend 3 (.comp [5] (.nm 5) (.rng1 (.var 0)) (.cmp .notin (.var 5) (.var 4)) (.bin .add (.var 4) (.tup (.cons (.var 5) .nil)))))
 .skip))
 (.seq (.asg (.nm 1) false (.var 3))
 .skip))))
 (.seq (.ret true (.var 1))
 .skip)))
/-- 22 _law_lots (0 things, 1 found, 2 one, 3 lot) -/
def b__law_lots : S :=
 (.seq (.asg (.nm 1) false (.lst (.cons (.tup .nil) .nil)))
 (.seq (.fori (.nm 2) (.seq (.var 0))
 (.seq (.asg (.nm 1) false (.bin .add (.var 1) (.comp [3] (.nm 3) (.seq (.var 1)) .tt (.bin .add (.var 3) (.tup (.cons (.var 2) .nil))))))
 .skip))
 (.seq (.ret true (.sortL (.var 1)))
 .skip)))
/-- 23 _law_washes (0 work, 1 order, 2 found, 3 cut, 4 at, 5 food, 6 one) -/
def b__law_washes : S :=
 (.seq (.par (.nm 2) (.nm 3) true true (.lst .nil) (.lst .nil))
 (.seq (.fori (.cn (.nm 4) (.cn (.nm 5) .nl)) (.enum (.var 1))
 (.seq (.ite (.val (.bi .any (.cons (.comp [6] (.nm 6) (.pks 3) .tt (.cmp .isin (.tup (.cons (.var 6) (.cons (.var 5) .nil))) (.idx (.var 0) (.cst (.int 1))))) .nil)))
 (.seq (.mut .append 2 (.var 4))
 (.seq (.asg (.nm 3) true (.lst .nil))
 .skip))
 .skip)
 (.seq (.mut .append 3 (.var 5))
 .skip)))
 (.seq (.ret true (.bi .tuple (.cons (.pk 2) .nil)))
 .skip)))
/-- 24 _law_no_work (0 hand, 1 some) -/
def b__law_no_work : S :=
 (.seq (.asg (.nm 1) false (.lst (.cons (.cst .none) (.cons (.tup .nil) (.cons (.tup (.cons (.cst (.int 0)) (.cons (.tup .nil) .nil))) (.cons (.tup (.cons (.cst (.int 8)) (.cons (.tup .nil) .nil))) (.cons (.tup (.cons (.cst (.int 2)) (.cons (.tup (.cons (.tup (.cons (.cst (.int 0)) (.cons (.cst (.int 0)) .nil))) .nil)) .nil))) (.cons (.tup (.cons (.cst (.int 2)) (.cons (.tup (.cons (.tup (.cons (.cst (.int 0)) (.cons (.cst (.int 2)) .nil))) .nil)) .nil))) (.cons (.tup (.cons (.cst (.int 2)) (.cons (.tup (.cons (.tup (.cons (.cst (.int 1)) (.cons (.cst (.int 0)) .nil))) (.cons (.tup (.cons (.cst (.int 0)) (.cons (.cst (.int 1)) .nil))) .nil))) .nil))) (.cons (.lst (.cons (.cst (.int 2)) (.cons (.tup .nil) .nil))) (.cons (.tup (.cons (.cst (.int 2)) (.cons (.lst (.cons (.tup (.cons (.cst (.int 0)) (.cons (.cst (.int 1)) .nil))) .nil)) .nil))) .nil)))))))))))
 (.seq (.ret true (.callM 19 0 (.cons (.bin .add (.var 1) (.lst (.cons (.tup (.cons (.cst (.int 2)) (.cons (.tup (.cons (.tup (.cons (.cst (.int 0)) (.cons (.cst (.int 1)) .nil))) (.cons (.tup (.cons (.cst (.int 0)) (.cons (.cst (.int 1)) .nil))) .nil))) .nil))) (.cons (.tup (.cons (.cst (.bool true)) (.cons (.tup .nil) .nil))) (.cons (.tup (.cons (.cst (.int 2)) (.cons (.tup (.cons (.tup (.cons (.cst (.int 0)) .nil)) .nil)) .nil))) (.cons (.tup (.cons (.cst (.int 2)) (.cons (.cst .none) .nil))) (.cons (.cst (.int 0)) (.cons (.tup (.cons (.cst (.int 2)) .nil)) .nil)))))))) .nil)))
 .skip))
/-- 25 _law_word_of (0 call, 1 word) -/
def b__law_word_of : S :=
 (.seq (.asg (.nm 1) false (.cst (.str (Str.ofString "let"))))
 (.seq (.tryS (.seq (.ex (.callC 0))
 .skip) (.hcons 4 none (.seq (.asg (.nm 1) false (.cst (.str (Str.ofString "work"))))
 .skip) (.hcons 2 none (.seq (.asg (.nm 1) false (.cst (.str (Str.ofString "lot"))))
 .skip) (.hcons 1 none (.seq (.asg (.nm 1) false (.cst (.str (Str.ofString "food"))))
 .skip) (.hcons 3 none (.seq (.asg (.nm 1) false (.cst (.str (Str.ofString "order"))))
 .skip) (.hcons 0 none (.seq (.asg (.nm 1) false (.cst (.str (Str.ofString "other"))))
 .skip) .hnil))))))
 (.seq (.ret true (.var 1))
 .skip)))
/-- 26 _law_is_washed (0 work, 1 order, 2 washes, 3 cut, 4 at, 5 food, 6 one) -/
def b__law_is_washed : S :=
 (.seq (.asg (.nm 3) true (.lst .nil))
 (.seq (.fori (.cn (.nm 4) (.cn (.nm 5) .nl)) (.enum (.var 1))
 (.seq (.keepIf 3 true (.cmp .isin (.var 4) (.var 2)) (.lst .nil))
 (.seq (.ite (.val (.bi .any (.cons (.comp [6] (.nm 6) (.pks 3) .tt (.cmp .isin (.tup (.cons (.var 6) (.cons (.var 5) .nil))) (.idx (.var 0) (.cst (.int 1))))) .nil)))
 (.seq (.ret true (.cst (.bool false)))
 .skip)
 .skip)
 (.seq (.mut .append 3 (.var 5))
 .skip))))
 (.seq (.ret true (.cst (.bool true)))
 .skip)))
/-- 27 _law_is_right (0 hand, 1 work, 2 many, 3 order, 4 due, 5 lots, 6 lot, 7 flag, 8 food, 9 one) -/
def b__law_is_right : S :=
 (.seq (.asg (.nm 2) false (.idx (.var 1) (.cst (.int 0))))
 (.seq (.asg (.nm 3) false (.bin .add (.callM 19 0 (.cons (.call 21 (.cons (.bi .min2 (.cons (.var 2) (.cons (.cst (.int 4)) .nil))) .nil)) .nil)) (.bi .tuple (.cons (.lrg (.bi .min2 (.cons (.var 2) (.cons (.cst (.int 4)) .nil))) (.var 2)) .nil))))
 (.seq (.par (.nm 4) (.nm 5) false false (.call 23 (.cons (.var 1) (.cons (.var 3) .nil))) (.call 22 (.cons (.lrg1 (.var 2)) .nil)))
 (.seq (.ite (.or (.cmp .isnot (.call 7 (.cons (.var 1) .nil)) (.cst (.bool true))) (.cmp .ne (.call 14 (.cons (.var 1) (.cons (.var 3) .nil))) (.var 4)))
 (.seq (.ret true (.cst (.bool false)))
 .skip)
 .skip)
 (.seq (.fori (.nm 6) (.seq (.var 5))
 (.seq (.asg (.nm 7) false (.call 26 (.cons (.var 1) (.cons (.var 3) (.cons (.var 6) .nil)))))
 (.seq (.ite (.or (.cmp .ne (.bi .repr (.cons (.call 15 (.cons (.var 1) (.cons (.var 3) (.cons (.var 6) .nil)))) .nil)) (.bi .repr (.cons (.var 7) .nil))) (.and (.val (.var 7)) (.cmp .lt (.bi .len (.cons (.var 6) .nil)) (.bi .len (.cons (.var 4) .nil)))))
 (.seq (.ret true (.cst (.bool false)))
 .skip)
 .skip)
 .skip)))
 (.seq (.asg (.nm 6) false (.callM 19 0 (.cons (.var 5) .nil)))
 (.seq (.fori (.nm 8) (.seq (.comp [8] (.nm 8) (.rng1 (.var 2)) (.cmp .notin (.var 8) (.var 6)) (.var 8)))
 (.seq (.ite (.cmp .ne (.bi .repr (.cons (.call 11 (.cons (.var 1) (.cons (.var 6) (.cons (.var 8) .nil)))) .nil)) (.bi .repr (.cons (.bi .any (.cons (.comp [9] (.nm 9) (.seq (.var 6)) .tt (.cmp .isin (.tup (.cons (.var 9) (.cons (.var 8) .nil))) (.idx (.var 1) (.cst (.int 1))))) .nil)) .nil)))
 (.seq (.ret true (.cst (.bool false)))
 .skip)
 .skip)
 .skip))
 (.seq (.ret true (.call 26 (.cons (.var 1) (.cons (.var 3) (.cons (.var 4) .nil)))))
 .skip))))))))
/-- 28 law (0 script, 1 hand, 2 turn, 3 work, 4 n, 5 none, 6 lot, 7 order, 8 one, 9 words) -/
def b_law : S :=
 (.seq (.asg (.nm 1) true (.call 16 (.cons (.var 0) .nil)))
 (.seq (.fori (.nm 2) (.rng1 (.cst (.int 4)))
 (.seq (.asg (.nm 3) false (.callM 20 1 (.cons (.cst (.int 6)) .nil)))
 (.seq (.ite (.not (.val (.callM 27 1 (.cons (.var 3) .nil))))
 (.seq (.ret true (.cst (.bool false)))
 .skip)
 .skip)
 (.seq (.asg (.cn (.nm 4) (.cn (.nm 5) .nl)) false (.tup (.cons (.idx (.var 3) (.cst (.int 0))) (.cons (.callM 24 1 .nil) .nil))))
 (.seq (.asg (.nm 6) false (.callM 19 1 (.cons (.lst (.cons (.cst .none) (.cons (.lst (.cons (.cst (.int 0)) .nil)) (.cons (.tup (.cons (.var 4) .nil)) (.cons (.tup (.cons (.neg (.cst (.int 1))) .nil)) (.cons (.tup (.cons (.cst (.int 0)) (.cons (.cst (.int 0)) .nil))) (.cons (.tup (.cons (.cst (.bool true)) .nil)) (.cons (.cst (.str (Str.ofString "0"))) (.cons (.cst (.int 0)) .nil))))))))) .nil)))
 (.seq (.asg (.nm 7) false (.callM 19 1 (.cons (.lst (.cons (.cst .none) (.cons (.tup .nil) (.cons (.lrg1 (.var 4)) (.cons (.bin .mul (.tup (.cons (.cst (.int 0)) .nil)) (.bin .add (.var 4) (.cst (.int 1)))) (.cons (.bi .tuple (.cons (.comp [8] (.nm 8) (.rng1 (.var 4)) .tt (.bin .add (.var 8) (.cst (.int 1)))) .nil)) (.cons (.cst (.int 0)) .nil))))))) .nil)))
 (.seq (.asg (.nm 9) true (.lst (.cons (.callL 25 (.call 11 (.cons (.var 5) (.cons (.var 6) (.cons (.cst .none) .nil))))) .nil)))
 (.seq (.mut .append 9 (.callL 25 (.call 11 (.cons (.var 3) (.cons (.var 6) (.cons (.cst .none) .nil))))))
 (.seq (.mut .append 9 (.callL 25 (.call 11 (.cons (.var 3) (.cons (.tup .nil) (.cons (.callM 19 1 (.cons (.lst (.cons (.var 4) (.cons (.neg (.cst (.int 1))) (.cons (.cst .none) (.cons (.cst (.bool true)) (.cons (.cst (.str (Str.ofString "0"))) .nil)))))) .nil)) .nil))))))
 (.seq (.mut .append 9 (.callL 25 (.call 11 (.cons (.var 3) (.cons (.tup (.cons (.cst (.int 0)) .nil)) (.cons (.cst (.int 0)) .nil))))))
 (.seq (.mut .append 9 (.callL 25 (.call 14 (.cons (.var 5) (.cons (.var 7) .nil)))))
 (.seq (.mut .append 9 (.callL 25 (.call 14 (.cons (.var 3) (.cons (.var 7) .nil)))))
 (.seq (.mut .append 9 (.callL 25 (.call 15 (.cons (.var 3) (.cons (.var 7) (.cons (.var 6) .nil))))))
 (.seq (.mut .append 9 (.callL 25 (.call 15 (.cons (.var 3) (.cons (.bi .tuple (.cons (.lrg1 (.var 4)) .nil)) (.cons (.var 6) .nil))))))
 (.seq (.ite (.or (.cmp .ne (.pk 9) (.lst (.cons (.cst (.str (Str.ofString "work"))) (.cons (.cst (.str (Str.ofString "lot"))) (.cons (.cst (.str (Str.ofString "food"))) (.cons (.cst (.str (Str.ofString "food"))) (.cons (.cst (.str (Str.ofString "work"))) (.cons (.cst (.str (Str.ofString "order"))) (.cons (.cst (.str (Str.ofString "order"))) (.cons (.cst (.str (Str.ofString "lot"))) .nil)))))))))) (.cmp .isnot (.call 7 (.cons (.var 5) .nil)) (.cst (.bool false))))
 (.seq (.ret true (.cst (.bool false)))
 .skip)
 .skip)
 .skip)))))))))))))))
 (.seq (.asg (.nm 3) false (.tup (.cons (.cst (.int 3)) (.cons (.tup (.cons (.tup (.cons (.cst (.int 0)) (.cons (.cst (.int 1)) .nil))) (.cons (.tup (.cons (.cst (.int 1)) (.cons (.cst (.int 0)) .nil))) (.cons (.tup (.cons (.cst (.int 1)) (.cons (.cst (.int 2)) .nil))) .nil)))) .nil))))
 (.seq (.ret true (.and (.cmp .eq (.call 14 (.cons (.var 3) (.cons (.tup (.cons (.cst (.int 0)) (.cons (.cst (.int 1)) (.cons (.cst (.int 2)) .nil)))) .nil))) (.tup (.cons (.cst (.int 1)) (.cons (.cst (.int 2)) .nil)))) (.cmp .eq (.call 14 (.cons (.var 3) (.cons (.tup (.cons (.cst (.int 0)) (.cons (.cst (.int 2)) (.cons (.cst (.int 1)) .nil)))) .nil))) (.tup (.cons (.cst (.int 2)) .nil)))))
 .skip))))
def defs : List Def := [⟨"is_integer", 1, 1, false, false, b_is_integer⟩,
 ⟨"is_within", 3, 3, false, false, b_is_within⟩,
 ⟨"is_sized", 3, 3, false, false, b_is_sized⟩,
 ⟨"are_rising", 1, 3, false, false, b_are_rising⟩,
 ⟨"is_lot", 2, 3, false, false, b_is_lot⟩,
 ⟨"is_order", 2, 3, false, false, b_is_order⟩,
 ⟨"are_soils", 2, 4, false, false, b_are_soils⟩,
 ⟨"is_work", 1, 1, false, false, b_is_work⟩,
 ⟨"check_work", 1, 1, false, false, b_check_work⟩,
 ⟨"check_foods", 2, 2, false, false, b_check_foods⟩,
 ⟨"raw_must", 3, 4, false, false, b_raw_must⟩,
 ⟨"must_wash", 3, 3, false, false, b_must_wash⟩,
 ⟨"check_cut_order", 2, 2, false, false, b_check_cut_order⟩,
 ⟨"raw_washes", 2, 6, false, false, b_raw_washes⟩,
 ⟨"washes_of", 2, 2, false, false, b_washes_of⟩,
 ⟨"is_washed", 3, 6, false, false, b_is_washed⟩,
 ⟨"_law_hand", 1, 2, false, false, b__law_hand⟩,
 ⟨"_law_mixed", 2, 3, false, false, b__law_mixed⟩,
 ⟨"_law_draw", 2, 6, true, false, b__law_draw⟩,
 ⟨"_law_any", 2, 2, true, false, b__law_any⟩,
 ⟨"_law_work", 2, 6, true, false, b__law_work⟩,
 ⟨"_law_orders", 1, 6, false, false, b__law_orders⟩,
 ⟨"_law_lots", 1, 4, false, false, b__law_lots⟩,
 ⟨"_law_washes", 2, 7, false, false, b__law_washes⟩,
 ⟨"_law_no_work", 1, 2, true, false, b__law_no_work⟩,
 ⟨"_law_word_of", 1, 2, false, true, b__law_word_of⟩,
 ⟨"_law_is_washed", 3, 7, false, false, b__law_is_washed⟩,
 ⟨"_law_is_right", 2, 10, true, false, b__law_is_right⟩,
 ⟨"law", 1, 10, false, false, b_law⟩]
def glbs : List D := [(.int 7)]
def sup : List (List Nat) := [[0], [1, 0], [2, 0], [3, 0], [4, 0]]
def exi (a b : Nat) : Bool := ((sup[if a < 5 then a else 0]?).getD []).contains (if b < 5 then b else 0)
def prog : Prog := ⟨defs, glbs, exi⟩
def pg : Pg := ⟨[("is_integer", 1, false), ("is_within", 3, false), ("is_sized", 3, false), ("are_rising", 1, false), ("is_lot", 2, false), ("is_order", 2, false), ("are_soils", 2, false), ("is_work", 1, false), ("check_work", 1, false), ("check_foods", 2, false), ("raw_must", 3, false), ("must_wash", 3, false), ("check_cut_order", 2, false), ("raw_washes", 2, false), ("washes_of", 2, false), ("is_washed", 3, false), ("_law_hand", 1, false), ("_law_mixed", 2, false), ("_law_draw", 2, false), ("_law_any", 2, false), ("_law_work", 2, false), ("_law_orders", 1, false), ("_law_lots", 1, false), ("_law_washes", 2, false), ("_law_no_work", 1, false), ("_law_word_of", 1, true), ("_law_is_washed", 3, false), ("_law_is_right", 2, false), ("law", 1, false)],
 ["MOST_FOODS"], ["KitchenError", "NoFood", "NoLot", "NoOrder", "NoWork"]⟩
def locs : List (List Str) := [["thing"],
 ["thing", "low", "high"],
 ["thing", "low", "high"],
 ["things", "one", "other"],
 ["thing", "many", "one"],
 ["thing", "many", "one"],
 ["foods", "thing", "pair", "one"],
 ["thing"],
 ["work"],
 ["work", "lot"],
 ["work", "cut", "food", "one"],
 ["work", "cut", "food"],
 ["work", "order"],
 ["work", "order", "found", "cut", "place", "food"],
 ["work", "order"],
 ["work", "order", "washes", "cut", "place", "food"],
 ["script", "cell"],
 ["cell", "turn", "number"],
 ["hand", "many", "found", "cells", "at", "cell"],
 ["hand", "some"],
 ["hand", "most", "many", "soils", "one", "other"],
 ["many", "found", "turn", "longer", "row", "one"],
 ["things", "found", "one", "lot"],
 ["work", "order", "found", "cut", "at", "food", "one"],
 ["hand", "some"],
 ["call", "word"],
 ["work", "order", "washes", "cut", "at", "food", "one"],
 ["hand", "work", "many", "order", "due", "lots", "lot", "flag", "food", "one"],
 ["script", "hand", "turn", "work", "n", "none", "lot", "order", "one", "words"]]
def tabs : List Nat := [22, 28]
end K62
namespace K62
open PySem PySem.Spec PyProof.Rows Ev L2 LamX C8
abbrev PW : Program := PySem.Challenge.pw_kitchenhall_k62_whole_washes_between_foo
abbrev RW : PySem.W.OpenLaw := PySem.Challenge.rw_kitchenhall_k62_whole_washes_between_foo
def top (i : Nat) : Stmt := PW.main.body.getD i (.Pass ⟨0, 0, 0, 0⟩)
def dd (x : Str) (i : Nat) : He.DefD := ⟨(x, none), x, x, fnArgs (top i), fnBody (top i), fnScope (top i), [], []⟩
def dx : List (Str × Nat) := [("is_integer", 1), ("is_within", 2), ("is_sized", 3), ("are_rising", 4), ("is_lot", 5), ("is_order", 6), ("are_soils", 15), ("is_work", 16), ("check_work", 17), ("check_foods", 18), ("raw_must", 19), ("must_wash", 20), ("check_cut_order", 21), ("raw_washes", 22), ("washes_of", 23), ("is_washed", 24), ("_law_hand", 26), ("_law_mixed", 27), ("_law_draw", 28), ("_law_any", 29), ("_law_work", 30), ("_law_orders", 31), ("_law_lots", 32), ("_law_washes", 33), ("_law_no_work", 34), ("_law_word_of", 35), ("_law_is_washed", 36), ("_law_is_right", 37), ("law", 38)]
def fn : List He.DefD := dx.map fun q => dd q.1 q.2
def cl : List Str := ["KitchenError", "NoFood", "NoLot", "NoOrder", "NoWork"]
def cn (i : Nat) : Str := (cl[i]?).getD "KitchenError"
def gl : List (Str × Int) := [("MOST_FOODS", 7)]
def tf : List Str := ["_law_lots", "law"]
def fa : List He.Fa := dx.map (fun q => .glo q.1) ++ cl.map .glo ++ cl.map .exc ++ exmFa cn 5 prog.exi ++ bltNames.map (fun n => .free (Str.ofString n)) ++ gl.map fun q => .int q.1 q.2
abbrev R : PySem.W.OpenRow := PySem.W.OpenLaw.row RW
def tfn : List He.Defn := tf.map fun x => (x, none)
abbrev hk : PySem.W.Hook := He.hookX 4 fa fn [] tfn (tabEx tf)
def ob (s : PySem.W.SharedT) : He.AlX := He.obsX 4 fa fn [] tfn (tabEx tf) (HandSHeadRun.getT s)
theorem ob_eq (s : PySem.W.SharedT) : ob s = hk.obs s.abs := He.obsX_eq (HandSHeadRun.getT_eq s)
def loose : List Str := (["is_integer", "is_within", "is_sized", "are_rising", "is_lot", "is_order", "KitchenError", "NoFood", "NoLot", "NoOrder", "NoWork", "MOST_FOODS", "are_soils", "is_work", "check_work", "check_foods", "raw_must", "must_wash", "check_cut_order", "raw_washes", "washes_of", "is_washed", "_law_hand", "_law_mixed", "_law_draw", "_law_any", "_law_work", "_law_orders", "_law_lots", "_law_washes"] : List Str) ++ (["_law_no_work", "_law_word_of", "_law_is_washed", "_law_is_right"] : List Str)

end K62
end
section
set_option Elab.async false
set_option linter.all false
set_option maxRecDepth 100000
set_option maxHeartbeats 0
namespace K62
open PySem PySem.Spec PyProof.Rows Ev L2 LamX C8
theorem run (w : World) : HandSHeadRun.RunEq R (PySem.W.view R.prog [38]) hk ob 2400 loose w := by
  intro os
  kernel_rfl

end K62
end
section
set_option Elab.async false
set_option linter.all false
set_option maxRecDepth 100000
set_option maxHeartbeats 0
namespace K62
open PySem PySem.Spec PyProof.Rows Ev L2 LamX C8
section
variable {w : World} {K : Fg} {mg : Str → Option Value} {base h : Heap}
theorem glo_at (X : K.In base) (G : base.Ns mainGlobals mg) (c : He.SaysD fa fn K) {f : He.Fa} {x : Str} (hf : f ∈ fa) (e : f = .glo x) : mg x = some (.ref (He.ga K x)) := by
  subst e
  exact He.glo_ok X G (c.facts hf)
theorem sc_0 : FnScope ((locs[0]?).getD []) ["thing"] (fnScope (top 1)) := C8.fnScope_by (by decide +kernel)
theorem ck_0 : chkB pg b_is_integer (defPc ((locs[0]?).getD []) (fnScope (top 1)) none false) (fnBody (top 1)) = true := by decide +kernel
theorem df_0 (X : K.In base) (G : base.Ns mainGlobals mg) (c : He.SaysD fa fn K) (hn : tabEx tf K = true) (ht : ∀ p ∈ tf.map (fun x => He.cT K (x, none)), TabB base mg p.1 p.2) (d : Def) (hd : defs[0]? = some d) : DfOk pg K mg base (gxOf K tf cn) 0 d := by
  cases hd
  obtain ⟨fd, F⟩ := c.def_ 0 (d := dd "is_integer" 1) rfl
  have F : FunD K "is_integer" "is_integer" (fnArgs (top 1)) (fnBody (top 1)) (fnScope (top 1)) [] [] (He.ga K "is_integer") fd := F
  exact ⟨"is_integer", He.ga K "is_integer", fd, fnArgs (top 1), fnBody (top 1), fnScope (top 1), (locs[0]?).getD [], ["thing"], false, rfl, He.glo_ok X G (c.fact 0 (f := .glo "is_integer") rfl), F,
    F.bindsN (fun _ _ _ _ _ _ us hl => match us, hl with | [_], _ => rfl), sc_0, rfl, rfl, (fun e => (by cases e)), ck_0, fun e => (by cases e), rfl⟩
theorem sc_1 : FnScope ((locs[1]?).getD []) ["thing", "low", "high"] (fnScope (top 2)) := C8.fnScope_by (by decide +kernel)
theorem ck_1 : chkB pg b_is_within (defPc ((locs[1]?).getD []) (fnScope (top 2)) none false) (fnBody (top 2)) = true := by decide +kernel
theorem df_1 (X : K.In base) (G : base.Ns mainGlobals mg) (c : He.SaysD fa fn K) (hn : tabEx tf K = true) (ht : ∀ p ∈ tf.map (fun x => He.cT K (x, none)), TabB base mg p.1 p.2) (d : Def) (hd : defs[1]? = some d) : DfOk pg K mg base (gxOf K tf cn) 1 d := by
  cases hd
  obtain ⟨fd, F⟩ := c.def_ 1 (d := dd "is_within" 2) rfl
  have F : FunD K "is_within" "is_within" (fnArgs (top 2)) (fnBody (top 2)) (fnScope (top 2)) [] [] (He.ga K "is_within") fd := F
  exact ⟨"is_within", He.ga K "is_within", fd, fnArgs (top 2), fnBody (top 2), fnScope (top 2), (locs[1]?).getD [], ["thing", "low", "high"], false, rfl, He.glo_ok X G (c.fact 1 (f := .glo "is_within") rfl), F,
    F.bindsN (fun _ _ _ _ _ _ us hl => match us, hl with | [_, _, _], _ => rfl), sc_1, rfl, rfl, (fun e => (by cases e)), ck_1, fun e => (by cases e), rfl⟩
theorem sc_2 : FnScope ((locs[2]?).getD []) ["thing", "low", "high"] (fnScope (top 3)) := C8.fnScope_by (by decide +kernel)
theorem ck_2 : chkB pg b_is_sized (defPc ((locs[2]?).getD []) (fnScope (top 3)) none false) (fnBody (top 3)) = true := by decide +kernel
theorem df_2 (X : K.In base) (G : base.Ns mainGlobals mg) (c : He.SaysD fa fn K) (hn : tabEx tf K = true) (ht : ∀ p ∈ tf.map (fun x => He.cT K (x, none)), TabB base mg p.1 p.2) (d : Def) (hd : defs[2]? = some d) : DfOk pg K mg base (gxOf K tf cn) 2 d := by
  cases hd
  obtain ⟨fd, F⟩ := c.def_ 2 (d := dd "is_sized" 3) rfl
  have F : FunD K "is_sized" "is_sized" (fnArgs (top 3)) (fnBody (top 3)) (fnScope (top 3)) [] [] (He.ga K "is_sized") fd := F
  exact ⟨"is_sized", He.ga K "is_sized", fd, fnArgs (top 3), fnBody (top 3), fnScope (top 3), (locs[2]?).getD [], ["thing", "low", "high"], false, rfl, He.glo_ok X G (c.fact 2 (f := .glo "is_sized") rfl), F,
    F.bindsN (fun _ _ _ _ _ _ us hl => match us, hl with | [_, _, _], _ => rfl), sc_2, rfl, rfl, (fun e => (by cases e)), ck_2, fun e => (by cases e), rfl⟩
theorem sc_3 : FnScope ((locs[3]?).getD []) ["things"] (fnScope (top 4)) := C8.fnScope_by (by decide +kernel)
theorem ck_3 : chkB pg b_are_rising (defPc ((locs[3]?).getD []) (fnScope (top 4)) none false) (fnBody (top 4)) = true := by decide +kernel
theorem df_3 (X : K.In base) (G : base.Ns mainGlobals mg) (c : He.SaysD fa fn K) (hn : tabEx tf K = true) (ht : ∀ p ∈ tf.map (fun x => He.cT K (x, none)), TabB base mg p.1 p.2) (d : Def) (hd : defs[3]? = some d) : DfOk pg K mg base (gxOf K tf cn) 3 d := by
  cases hd
  obtain ⟨fd, F⟩ := c.def_ 3 (d := dd "are_rising" 4) rfl
  have F : FunD K "are_rising" "are_rising" (fnArgs (top 4)) (fnBody (top 4)) (fnScope (top 4)) [] [] (He.ga K "are_rising") fd := F
  exact ⟨"are_rising", He.ga K "are_rising", fd, fnArgs (top 4), fnBody (top 4), fnScope (top 4), (locs[3]?).getD [], ["things"], false, rfl, He.glo_ok X G (c.fact 3 (f := .glo "are_rising") rfl), F,
    F.bindsN (fun _ _ _ _ _ _ us hl => match us, hl with | [_], _ => rfl), sc_3, rfl, rfl, (fun e => (by cases e)), ck_3, fun e => (by cases e), rfl⟩
theorem sc_4 : FnScope ((locs[4]?).getD []) ["thing", "many"] (fnScope (top 5)) := C8.fnScope_by (by decide +kernel)
theorem ck_4 : chkB pg b_is_lot (defPc ((locs[4]?).getD []) (fnScope (top 5)) none false) (fnBody (top 5)) = true := by decide +kernel
theorem df_4 (X : K.In base) (G : base.Ns mainGlobals mg) (c : He.SaysD fa fn K) (hn : tabEx tf K = true) (ht : ∀ p ∈ tf.map (fun x => He.cT K (x, none)), TabB base mg p.1 p.2) (d : Def) (hd : defs[4]? = some d) : DfOk pg K mg base (gxOf K tf cn) 4 d := by
  cases hd
  obtain ⟨fd, F⟩ := c.def_ 4 (d := dd "is_lot" 5) rfl
  have F : FunD K "is_lot" "is_lot" (fnArgs (top 5)) (fnBody (top 5)) (fnScope (top 5)) [] [] (He.ga K "is_lot") fd := F
  exact ⟨"is_lot", He.ga K "is_lot", fd, fnArgs (top 5), fnBody (top 5), fnScope (top 5), (locs[4]?).getD [], ["thing", "many"], false, rfl, He.glo_ok X G (c.fact 4 (f := .glo "is_lot") rfl), F,
    F.bindsN (fun _ _ _ _ _ _ us hl => match us, hl with | [_, _], _ => rfl), sc_4, rfl, rfl, (fun e => (by cases e)), ck_4, fun e => (by cases e), rfl⟩
theorem sc_5 : FnScope ((locs[5]?).getD []) ["thing", "many"] (fnScope (top 6)) := C8.fnScope_by (by decide +kernel)
theorem ck_5 : chkB pg b_is_order (defPc ((locs[5]?).getD []) (fnScope (top 6)) none false) (fnBody (top 6)) = true := by decide +kernel
theorem df_5 (X : K.In base) (G : base.Ns mainGlobals mg) (c : He.SaysD fa fn K) (hn : tabEx tf K = true) (ht : ∀ p ∈ tf.map (fun x => He.cT K (x, none)), TabB base mg p.1 p.2) (d : Def) (hd : defs[5]? = some d) : DfOk pg K mg base (gxOf K tf cn) 5 d := by
  cases hd
  obtain ⟨fd, F⟩ := c.def_ 5 (d := dd "is_order" 6) rfl
  have F : FunD K "is_order" "is_order" (fnArgs (top 6)) (fnBody (top 6)) (fnScope (top 6)) [] [] (He.ga K "is_order") fd := F
  exact ⟨"is_order", He.ga K "is_order", fd, fnArgs (top 6), fnBody (top 6), fnScope (top 6), (locs[5]?).getD [], ["thing", "many"], false, rfl, He.glo_ok X G (c.fact 5 (f := .glo "is_order") rfl), F,
    F.bindsN (fun _ _ _ _ _ _ us hl => match us, hl with | [_, _], _ => rfl), sc_5, rfl, rfl, (fun e => (by cases e)), ck_5, fun e => (by cases e), rfl⟩
theorem sc_6 : FnScope ((locs[6]?).getD []) ["foods", "thing"] (fnScope (top 15)) := C8.fnScope_by (by decide +kernel)
theorem ck_6 : chkB pg b_are_soils (defPc ((locs[6]?).getD []) (fnScope (top 15)) none false) (fnBody (top 15)) = true := by decide +kernel
theorem df_6 (X : K.In base) (G : base.Ns mainGlobals mg) (c : He.SaysD fa fn K) (hn : tabEx tf K = true) (ht : ∀ p ∈ tf.map (fun x => He.cT K (x, none)), TabB base mg p.1 p.2) (d : Def) (hd : defs[6]? = some d) : DfOk pg K mg base (gxOf K tf cn) 6 d := by
  cases hd
  obtain ⟨fd, F⟩ := c.def_ 6 (d := dd "are_soils" 15) rfl
  have F : FunD K "are_soils" "are_soils" (fnArgs (top 15)) (fnBody (top 15)) (fnScope (top 15)) [] [] (He.ga K "are_soils") fd := F
  exact ⟨"are_soils", He.ga K "are_soils", fd, fnArgs (top 15), fnBody (top 15), fnScope (top 15), (locs[6]?).getD [], ["foods", "thing"], false, rfl, He.glo_ok X G (c.fact 6 (f := .glo "are_soils") rfl), F,
    F.bindsN (fun _ _ _ _ _ _ us hl => match us, hl with | [_, _], _ => rfl), sc_6, rfl, rfl, (fun e => (by cases e)), ck_6, fun e => (by cases e), rfl⟩
theorem sc_7 : FnScope ((locs[7]?).getD []) ["thing"] (fnScope (top 16)) := C8.fnScope_by (by decide +kernel)
theorem ck_7 : chkB pg b_is_work (defPc ((locs[7]?).getD []) (fnScope (top 16)) none false) (fnBody (top 16)) = true := by decide +kernel
theorem df_7 (X : K.In base) (G : base.Ns mainGlobals mg) (c : He.SaysD fa fn K) (hn : tabEx tf K = true) (ht : ∀ p ∈ tf.map (fun x => He.cT K (x, none)), TabB base mg p.1 p.2) (d : Def) (hd : defs[7]? = some d) : DfOk pg K mg base (gxOf K tf cn) 7 d := by
  cases hd
  obtain ⟨fd, F⟩ := c.def_ 7 (d := dd "is_work" 16) rfl
  have F : FunD K "is_work" "is_work" (fnArgs (top 16)) (fnBody (top 16)) (fnScope (top 16)) [] [] (He.ga K "is_work") fd := F
  exact ⟨"is_work", He.ga K "is_work", fd, fnArgs (top 16), fnBody (top 16), fnScope (top 16), (locs[7]?).getD [], ["thing"], false, rfl, He.glo_ok X G (c.fact 7 (f := .glo "is_work") rfl), F,
    F.bindsN (fun _ _ _ _ _ _ us hl => match us, hl with | [_], _ => rfl), sc_7, rfl, rfl, (fun e => (by cases e)), ck_7, fun e => (by cases e), rfl⟩
theorem sc_8 : FnScope ((locs[8]?).getD []) ["work"] (fnScope (top 17)) := C8.fnScope_by (by decide +kernel)
theorem ck_8 : chkB pg b_check_work (defPc ((locs[8]?).getD []) (fnScope (top 17)) none false) (fnBody (top 17)) = true := by decide +kernel
theorem df_8 (X : K.In base) (G : base.Ns mainGlobals mg) (c : He.SaysD fa fn K) (hn : tabEx tf K = true) (ht : ∀ p ∈ tf.map (fun x => He.cT K (x, none)), TabB base mg p.1 p.2) (d : Def) (hd : defs[8]? = some d) : DfOk pg K mg base (gxOf K tf cn) 8 d := by
  cases hd
  obtain ⟨fd, F⟩ := c.def_ 8 (d := dd "check_work" 17) rfl
  have F : FunD K "check_work" "check_work" (fnArgs (top 17)) (fnBody (top 17)) (fnScope (top 17)) [] [] (He.ga K "check_work") fd := F
  exact ⟨"check_work", He.ga K "check_work", fd, fnArgs (top 17), fnBody (top 17), fnScope (top 17), (locs[8]?).getD [], ["work"], false, rfl, He.glo_ok X G (c.fact 8 (f := .glo "check_work") rfl), F,
    F.bindsN (fun _ _ _ _ _ _ us hl => match us, hl with | [_], _ => rfl), sc_8, rfl, rfl, (fun e => (by cases e)), ck_8, fun e => (by cases e), rfl⟩
theorem sc_9 : FnScope ((locs[9]?).getD []) ["work", "lot"] (fnScope (top 18)) := C8.fnScope_by (by decide +kernel)
theorem ck_9 : chkB pg b_check_foods (defPc ((locs[9]?).getD []) (fnScope (top 18)) none false) (fnBody (top 18)) = true := by decide +kernel
theorem df_9 (X : K.In base) (G : base.Ns mainGlobals mg) (c : He.SaysD fa fn K) (hn : tabEx tf K = true) (ht : ∀ p ∈ tf.map (fun x => He.cT K (x, none)), TabB base mg p.1 p.2) (d : Def) (hd : defs[9]? = some d) : DfOk pg K mg base (gxOf K tf cn) 9 d := by
  cases hd
  obtain ⟨fd, F⟩ := c.def_ 9 (d := dd "check_foods" 18) rfl
  have F : FunD K "check_foods" "check_foods" (fnArgs (top 18)) (fnBody (top 18)) (fnScope (top 18)) [] [] (He.ga K "check_foods") fd := F
  exact ⟨"check_foods", He.ga K "check_foods", fd, fnArgs (top 18), fnBody (top 18), fnScope (top 18), (locs[9]?).getD [], ["work", "lot"], false, rfl, He.glo_ok X G (c.fact 9 (f := .glo "check_foods") rfl), F,
    F.bindsN (fun _ _ _ _ _ _ us hl => match us, hl with | [_, _], _ => rfl), sc_9, rfl, rfl, (fun e => (by cases e)), ck_9, fun e => (by cases e), rfl⟩
theorem sc_10 : FnScope ((locs[10]?).getD []) ["work", "cut", "food"] (fnScope (top 19)) := C8.fnScope_by (by decide +kernel)
theorem ck_10 : chkB pg b_raw_must (defPc ((locs[10]?).getD []) (fnScope (top 19)) none false) (fnBody (top 19)) = true := by decide +kernel
theorem df_10 (X : K.In base) (G : base.Ns mainGlobals mg) (c : He.SaysD fa fn K) (hn : tabEx tf K = true) (ht : ∀ p ∈ tf.map (fun x => He.cT K (x, none)), TabB base mg p.1 p.2) (d : Def) (hd : defs[10]? = some d) : DfOk pg K mg base (gxOf K tf cn) 10 d := by
  cases hd
  obtain ⟨fd, F⟩ := c.def_ 10 (d := dd "raw_must" 19) rfl
  have F : FunD K "raw_must" "raw_must" (fnArgs (top 19)) (fnBody (top 19)) (fnScope (top 19)) [] [] (He.ga K "raw_must") fd := F
  exact ⟨"raw_must", He.ga K "raw_must", fd, fnArgs (top 19), fnBody (top 19), fnScope (top 19), (locs[10]?).getD [], ["work", "cut", "food"], false, rfl, He.glo_ok X G (c.fact 10 (f := .glo "raw_must") rfl), F,
    F.bindsN (fun _ _ _ _ _ _ us hl => match us, hl with | [_, _, _], _ => rfl), sc_10, rfl, rfl, (fun e => (by cases e)), ck_10, fun e => (by cases e), rfl⟩
theorem sc_11 : FnScope ((locs[11]?).getD []) ["work", "cut", "food"] (fnScope (top 20)) := C8.fnScope_by (by decide +kernel)
theorem ck_11 : chkB pg b_must_wash (defPc ((locs[11]?).getD []) (fnScope (top 20)) none false) (fnBody (top 20)) = true := by decide +kernel
theorem df_11 (X : K.In base) (G : base.Ns mainGlobals mg) (c : He.SaysD fa fn K) (hn : tabEx tf K = true) (ht : ∀ p ∈ tf.map (fun x => He.cT K (x, none)), TabB base mg p.1 p.2) (d : Def) (hd : defs[11]? = some d) : DfOk pg K mg base (gxOf K tf cn) 11 d := by
  cases hd
  obtain ⟨fd, F⟩ := c.def_ 11 (d := dd "must_wash" 20) rfl
  have F : FunD K "must_wash" "must_wash" (fnArgs (top 20)) (fnBody (top 20)) (fnScope (top 20)) [] [] (He.ga K "must_wash") fd := F
  exact ⟨"must_wash", He.ga K "must_wash", fd, fnArgs (top 20), fnBody (top 20), fnScope (top 20), (locs[11]?).getD [], ["work", "cut", "food"], false, rfl, He.glo_ok X G (c.fact 11 (f := .glo "must_wash") rfl), F,
    F.bindsN (fun _ _ _ _ _ _ us hl => match us, hl with | [_, _, _], _ => rfl), sc_11, rfl, rfl, (fun e => (by cases e)), ck_11, fun e => (by cases e), rfl⟩
theorem sc_12 : FnScope ((locs[12]?).getD []) ["work", "order"] (fnScope (top 21)) := C8.fnScope_by (by decide +kernel)
theorem ck_12 : chkB pg b_check_cut_order (defPc ((locs[12]?).getD []) (fnScope (top 21)) none false) (fnBody (top 21)) = true := by decide +kernel
theorem df_12 (X : K.In base) (G : base.Ns mainGlobals mg) (c : He.SaysD fa fn K) (hn : tabEx tf K = true) (ht : ∀ p ∈ tf.map (fun x => He.cT K (x, none)), TabB base mg p.1 p.2) (d : Def) (hd : defs[12]? = some d) : DfOk pg K mg base (gxOf K tf cn) 12 d := by
  cases hd
  obtain ⟨fd, F⟩ := c.def_ 12 (d := dd "check_cut_order" 21) rfl
  have F : FunD K "check_cut_order" "check_cut_order" (fnArgs (top 21)) (fnBody (top 21)) (fnScope (top 21)) [] [] (He.ga K "check_cut_order") fd := F
  exact ⟨"check_cut_order", He.ga K "check_cut_order", fd, fnArgs (top 21), fnBody (top 21), fnScope (top 21), (locs[12]?).getD [], ["work", "order"], false, rfl, He.glo_ok X G (c.fact 12 (f := .glo "check_cut_order") rfl), F,
    F.bindsN (fun _ _ _ _ _ _ us hl => match us, hl with | [_, _], _ => rfl), sc_12, rfl, rfl, (fun e => (by cases e)), ck_12, fun e => (by cases e), rfl⟩
theorem sc_13 : FnScope ((locs[13]?).getD []) ["work", "order"] (fnScope (top 22)) := C8.fnScope_by (by decide +kernel)
theorem ck_13 : chkB pg b_raw_washes (defPc ((locs[13]?).getD []) (fnScope (top 22)) none false) (fnBody (top 22)) = true := by decide +kernel
theorem df_13 (X : K.In base) (G : base.Ns mainGlobals mg) (c : He.SaysD fa fn K) (hn : tabEx tf K = true) (ht : ∀ p ∈ tf.map (fun x => He.cT K (x, none)), TabB base mg p.1 p.2) (d : Def) (hd : defs[13]? = some d) : DfOk pg K mg base (gxOf K tf cn) 13 d := by
  cases hd
  obtain ⟨fd, F⟩ := c.def_ 13 (d := dd "raw_washes" 22) rfl
  have F : FunD K "raw_washes" "raw_washes" (fnArgs (top 22)) (fnBody (top 22)) (fnScope (top 22)) [] [] (He.ga K "raw_washes") fd := F
  exact ⟨"raw_washes", He.ga K "raw_washes", fd, fnArgs (top 22), fnBody (top 22), fnScope (top 22), (locs[13]?).getD [], ["work", "order"], false, rfl, He.glo_ok X G (c.fact 13 (f := .glo "raw_washes") rfl), F,
    F.bindsN (fun _ _ _ _ _ _ us hl => match us, hl with | [_, _], _ => rfl), sc_13, rfl, rfl, (fun e => (by cases e)), ck_13, fun e => (by cases e), rfl⟩
theorem sc_14 : FnScope ((locs[14]?).getD []) ["work", "order"] (fnScope (top 23)) := C8.fnScope_by (by decide +kernel)
theorem ck_14 : chkB pg b_washes_of (defPc ((locs[14]?).getD []) (fnScope (top 23)) none false) (fnBody (top 23)) = true := by decide +kernel
theorem df_14 (X : K.In base) (G : base.Ns mainGlobals mg) (c : He.SaysD fa fn K) (hn : tabEx tf K = true) (ht : ∀ p ∈ tf.map (fun x => He.cT K (x, none)), TabB base mg p.1 p.2) (d : Def) (hd : defs[14]? = some d) : DfOk pg K mg base (gxOf K tf cn) 14 d := by
  cases hd
  obtain ⟨fd, F⟩ := c.def_ 14 (d := dd "washes_of" 23) rfl
  have F : FunD K "washes_of" "washes_of" (fnArgs (top 23)) (fnBody (top 23)) (fnScope (top 23)) [] [] (He.ga K "washes_of") fd := F
  exact ⟨"washes_of", He.ga K "washes_of", fd, fnArgs (top 23), fnBody (top 23), fnScope (top 23), (locs[14]?).getD [], ["work", "order"], false, rfl, He.glo_ok X G (c.fact 14 (f := .glo "washes_of") rfl), F,
    F.bindsN (fun _ _ _ _ _ _ us hl => match us, hl with | [_, _], _ => rfl), sc_14, rfl, rfl, (fun e => (by cases e)), ck_14, fun e => (by cases e), rfl⟩
theorem sc_15 : FnScope ((locs[15]?).getD []) ["work", "order", "washes"] (fnScope (top 24)) := C8.fnScope_by (by decide +kernel)
theorem ck_15 : chkB pg b_is_washed (defPc ((locs[15]?).getD []) (fnScope (top 24)) none false) (fnBody (top 24)) = true := by decide +kernel
theorem df_15 (X : K.In base) (G : base.Ns mainGlobals mg) (c : He.SaysD fa fn K) (hn : tabEx tf K = true) (ht : ∀ p ∈ tf.map (fun x => He.cT K (x, none)), TabB base mg p.1 p.2) (d : Def) (hd : defs[15]? = some d) : DfOk pg K mg base (gxOf K tf cn) 15 d := by
  cases hd
  obtain ⟨fd, F⟩ := c.def_ 15 (d := dd "is_washed" 24) rfl
  have F : FunD K "is_washed" "is_washed" (fnArgs (top 24)) (fnBody (top 24)) (fnScope (top 24)) [] [] (He.ga K "is_washed") fd := F
  exact ⟨"is_washed", He.ga K "is_washed", fd, fnArgs (top 24), fnBody (top 24), fnScope (top 24), (locs[15]?).getD [], ["work", "order", "washes"], false, rfl, He.glo_ok X G (c.fact 15 (f := .glo "is_washed") rfl), F,
    F.bindsN (fun _ _ _ _ _ _ us hl => match us, hl with | [_, _, _], _ => rfl), sc_15, rfl, rfl, (fun e => (by cases e)), ck_15, fun e => (by cases e), rfl⟩
theorem sc_16 : FnScope ((locs[16]?).getD []) ["script"] (fnScope (top 26)) := C8.fnScope_by (by decide +kernel)
theorem ck_16 : chkB pg b__law_hand (defPc ((locs[16]?).getD []) (fnScope (top 26)) none false) (fnBody (top 26)) = true := by decide +kernel
theorem df_16 (X : K.In base) (G : base.Ns mainGlobals mg) (c : He.SaysD fa fn K) (hn : tabEx tf K = true) (ht : ∀ p ∈ tf.map (fun x => He.cT K (x, none)), TabB base mg p.1 p.2) (d : Def) (hd : defs[16]? = some d) : DfOk pg K mg base (gxOf K tf cn) 16 d := by
  cases hd
  obtain ⟨fd, F⟩ := c.def_ 16 (d := dd "_law_hand" 26) rfl
  have F : FunD K "_law_hand" "_law_hand" (fnArgs (top 26)) (fnBody (top 26)) (fnScope (top 26)) [] [] (He.ga K "_law_hand") fd := F
  exact ⟨"_law_hand", He.ga K "_law_hand", fd, fnArgs (top 26), fnBody (top 26), fnScope (top 26), (locs[16]?).getD [], ["script"], false, rfl, He.glo_ok X G (c.fact 16 (f := .glo "_law_hand") rfl), F,
    F.bindsN (fun _ _ _ _ _ _ us hl => match us, hl with | [_], _ => rfl), sc_16, rfl, rfl, (fun e => (by cases e)), ck_16, fun e => (by cases e), rfl⟩
theorem sc_17 : FnScope ((locs[17]?).getD []) ["cell", "turn"] (fnScope (top 27)) := C8.fnScope_by (by decide +kernel)
theorem ck_17 : chkB pg b__law_mixed (defPc ((locs[17]?).getD []) (fnScope (top 27)) none false) (fnBody (top 27)) = true := by decide +kernel
theorem df_17 (X : K.In base) (G : base.Ns mainGlobals mg) (c : He.SaysD fa fn K) (hn : tabEx tf K = true) (ht : ∀ p ∈ tf.map (fun x => He.cT K (x, none)), TabB base mg p.1 p.2) (d : Def) (hd : defs[17]? = some d) : DfOk pg K mg base (gxOf K tf cn) 17 d := by
  cases hd
  obtain ⟨fd, F⟩ := c.def_ 17 (d := dd "_law_mixed" 27) rfl
  have F : FunD K "_law_mixed" "_law_mixed" (fnArgs (top 27)) (fnBody (top 27)) (fnScope (top 27)) [] [] (He.ga K "_law_mixed") fd := F
  exact ⟨"_law_mixed", He.ga K "_law_mixed", fd, fnArgs (top 27), fnBody (top 27), fnScope (top 27), (locs[17]?).getD [], ["cell", "turn"], false, rfl, He.glo_ok X G (c.fact 17 (f := .glo "_law_mixed") rfl), F,
    F.bindsN (fun _ _ _ _ _ _ us hl => match us, hl with | [_, _], _ => rfl), sc_17, rfl, rfl, (fun e => (by cases e)), ck_17, fun e => (by cases e), rfl⟩
theorem sc_18 : FnScope ((locs[18]?).getD []) ["hand", "many"] (fnScope (top 28)) := C8.fnScope_by (by decide +kernel)
theorem ck_18 : chkB pg b__law_draw (defPc ((locs[18]?).getD []) (fnScope (top 28)) none false) (fnBody (top 28)) = true := by decide +kernel
theorem df_18 (X : K.In base) (G : base.Ns mainGlobals mg) (c : He.SaysD fa fn K) (hn : tabEx tf K = true) (ht : ∀ p ∈ tf.map (fun x => He.cT K (x, none)), TabB base mg p.1 p.2) (d : Def) (hd : defs[18]? = some d) : DfOk pg K mg base (gxOf K tf cn) 18 d := by
  cases hd
  obtain ⟨fd, F⟩ := c.def_ 18 (d := dd "_law_draw" 28) rfl
  have F : FunD K "_law_draw" "_law_draw" (fnArgs (top 28)) (fnBody (top 28)) (fnScope (top 28)) [] [] (He.ga K "_law_draw") fd := F
  exact ⟨"_law_draw", He.ga K "_law_draw", fd, fnArgs (top 28), fnBody (top 28), fnScope (top 28), (locs[18]?).getD [], ["hand", "many"], false, rfl, He.glo_ok X G (c.fact 18 (f := .glo "_law_draw") rfl), F,
    F.bindsN (fun _ _ _ _ _ _ us hl => match us, hl with | [_, _], _ => rfl), sc_18, rfl, rfl, (fun e => (by cases e)), ck_18, fun e => (by cases e), rfl⟩
theorem sc_19 : FnScope ((locs[19]?).getD []) ["hand", "some"] (fnScope (top 29)) := C8.fnScope_by (by decide +kernel)
theorem ck_19 : chkB pg b__law_any (defPc ((locs[19]?).getD []) (fnScope (top 29)) none false) (fnBody (top 29)) = true := by decide +kernel
theorem df_19 (X : K.In base) (G : base.Ns mainGlobals mg) (c : He.SaysD fa fn K) (hn : tabEx tf K = true) (ht : ∀ p ∈ tf.map (fun x => He.cT K (x, none)), TabB base mg p.1 p.2) (d : Def) (hd : defs[19]? = some d) : DfOk pg K mg base (gxOf K tf cn) 19 d := by
  cases hd
  obtain ⟨fd, F⟩ := c.def_ 19 (d := dd "_law_any" 29) rfl
  have F : FunD K "_law_any" "_law_any" (fnArgs (top 29)) (fnBody (top 29)) (fnScope (top 29)) [] [] (He.ga K "_law_any") fd := F
  exact ⟨"_law_any", He.ga K "_law_any", fd, fnArgs (top 29), fnBody (top 29), fnScope (top 29), (locs[19]?).getD [], ["hand", "some"], false, rfl, He.glo_ok X G (c.fact 19 (f := .glo "_law_any") rfl), F,
    F.bindsN (fun _ _ _ _ _ _ us hl => match us, hl with | [_, _], _ => rfl), sc_19, rfl, rfl, (fun e => (by cases e)), ck_19, fun e => (by cases e), rfl⟩
theorem sc_20 : FnScope ((locs[20]?).getD []) ["hand", "most"] (fnScope (top 30)) := C8.fnScope_by (by decide +kernel)
theorem ck_20 : chkB pg b__law_work (defPc ((locs[20]?).getD []) (fnScope (top 30)) none false) (fnBody (top 30)) = true := by decide +kernel
theorem df_20 (X : K.In base) (G : base.Ns mainGlobals mg) (c : He.SaysD fa fn K) (hn : tabEx tf K = true) (ht : ∀ p ∈ tf.map (fun x => He.cT K (x, none)), TabB base mg p.1 p.2) (d : Def) (hd : defs[20]? = some d) : DfOk pg K mg base (gxOf K tf cn) 20 d := by
  cases hd
  obtain ⟨fd, F⟩ := c.def_ 20 (d := dd "_law_work" 30) rfl
  have F : FunD K "_law_work" "_law_work" (fnArgs (top 30)) (fnBody (top 30)) (fnScope (top 30)) [] [] (He.ga K "_law_work") fd := F
  exact ⟨"_law_work", He.ga K "_law_work", fd, fnArgs (top 30), fnBody (top 30), fnScope (top 30), (locs[20]?).getD [], ["hand", "most"], false, rfl, He.glo_ok X G (c.fact 20 (f := .glo "_law_work") rfl), F,
    F.bindsN (fun _ _ _ _ _ _ us hl => match us, hl with | [_, _], _ => rfl), sc_20, rfl, rfl, (fun e => (by cases e)), ck_20, fun e => (by cases e), rfl⟩
theorem sc_21 : FnScope ((locs[21]?).getD []) ["many"] (fnScope (top 31)) := C8.fnScope_by (by decide +kernel)
theorem ck_21 : chkB pg b__law_orders (defPc ((locs[21]?).getD []) (fnScope (top 31)) none false) (fnBody (top 31)) = true := by decide +kernel
theorem df_21 (X : K.In base) (G : base.Ns mainGlobals mg) (c : He.SaysD fa fn K) (hn : tabEx tf K = true) (ht : ∀ p ∈ tf.map (fun x => He.cT K (x, none)), TabB base mg p.1 p.2) (d : Def) (hd : defs[21]? = some d) : DfOk pg K mg base (gxOf K tf cn) 21 d := by
  cases hd
  obtain ⟨fd, F⟩ := c.def_ 21 (d := dd "_law_orders" 31) rfl
  have F : FunD K "_law_orders" "_law_orders" (fnArgs (top 31)) (fnBody (top 31)) (fnScope (top 31)) [] [] (He.ga K "_law_orders") fd := F
  exact ⟨"_law_orders", He.ga K "_law_orders", fd, fnArgs (top 31), fnBody (top 31), fnScope (top 31), (locs[21]?).getD [], ["many"], false, rfl, He.glo_ok X G (c.fact 21 (f := .glo "_law_orders") rfl), F,
    F.bindsN (fun _ _ _ _ _ _ us hl => match us, hl with | [_], _ => rfl), sc_21, rfl, rfl, (fun e => (by cases e)), ck_21, fun e => (by cases e), rfl⟩
theorem sc_22 : FnScope ((locs[22]?).getD []) ["things"] (fnScope (top 32)) := C8.fnScope_by (by decide +kernel)
theorem ck_22 : chkB pg b__law_lots (defPc ((locs[22]?).getD []) (fnScope (top 32)) none true) (fnBody (top 32)) = true := by decide +kernel
theorem df_22 (X : K.In base) (G : base.Ns mainGlobals mg) (c : He.SaysD fa fn K) (hn : tabEx tf K = true) (ht : ∀ p ∈ tf.map (fun x => He.cT K (x, none)), TabB base mg p.1 p.2) (d : Def) (hd : defs[22]? = some d) : DfOk pg K mg base (gxOf K tf cn) 22 d := by
  cases hd
  obtain ⟨fd, F⟩ := c.def_ 22 (d := dd "_law_lots" 32) rfl
  have F : FunD K "_law_lots" "_law_lots" (fnArgs (top 32)) (fnBody (top 32)) (fnScope (top 32)) [] [] (He.ga K "_law_lots") fd := F
  exact ⟨"_law_lots", He.ga K "_law_lots", fd, fnArgs (top 32), fnBody (top 32), fnScope (top 32), (locs[22]?).getD [], ["things"], true, rfl, He.glo_ok X G (c.fact 22 (f := .glo "_law_lots") rfl), F,
    F.bindsN (fun _ _ _ _ _ _ us hl => match us, hl with | [_], _ => rfl), sc_22, rfl, rfl, (fun e => (by cases e)), ck_22, fun _ => tab_df F (by decide +kernel) hn ht, rfl⟩
theorem sc_23 : FnScope ((locs[23]?).getD []) ["work", "order"] (fnScope (top 33)) := C8.fnScope_by (by decide +kernel)
theorem ck_23 : chkB pg b__law_washes (defPc ((locs[23]?).getD []) (fnScope (top 33)) none false) (fnBody (top 33)) = true := by decide +kernel
theorem df_23 (X : K.In base) (G : base.Ns mainGlobals mg) (c : He.SaysD fa fn K) (hn : tabEx tf K = true) (ht : ∀ p ∈ tf.map (fun x => He.cT K (x, none)), TabB base mg p.1 p.2) (d : Def) (hd : defs[23]? = some d) : DfOk pg K mg base (gxOf K tf cn) 23 d := by
  cases hd
  obtain ⟨fd, F⟩ := c.def_ 23 (d := dd "_law_washes" 33) rfl
  have F : FunD K "_law_washes" "_law_washes" (fnArgs (top 33)) (fnBody (top 33)) (fnScope (top 33)) [] [] (He.ga K "_law_washes") fd := F
  exact ⟨"_law_washes", He.ga K "_law_washes", fd, fnArgs (top 33), fnBody (top 33), fnScope (top 33), (locs[23]?).getD [], ["work", "order"], false, rfl, He.glo_ok X G (c.fact 23 (f := .glo "_law_washes") rfl), F,
    F.bindsN (fun _ _ _ _ _ _ us hl => match us, hl with | [_, _], _ => rfl), sc_23, rfl, rfl, (fun e => (by cases e)), ck_23, fun e => (by cases e), rfl⟩
theorem sc_24 : FnScope ((locs[24]?).getD []) ["hand"] (fnScope (top 34)) := C8.fnScope_by (by decide +kernel)
theorem ck_24 : chkB pg b__law_no_work (defPc ((locs[24]?).getD []) (fnScope (top 34)) none false) (fnBody (top 34)) = true := by decide +kernel
theorem df_24 (X : K.In base) (G : base.Ns mainGlobals mg) (c : He.SaysD fa fn K) (hn : tabEx tf K = true) (ht : ∀ p ∈ tf.map (fun x => He.cT K (x, none)), TabB base mg p.1 p.2) (d : Def) (hd : defs[24]? = some d) : DfOk pg K mg base (gxOf K tf cn) 24 d := by
  cases hd
  obtain ⟨fd, F⟩ := c.def_ 24 (d := dd "_law_no_work" 34) rfl
  have F : FunD K "_law_no_work" "_law_no_work" (fnArgs (top 34)) (fnBody (top 34)) (fnScope (top 34)) [] [] (He.ga K "_law_no_work") fd := F
  exact ⟨"_law_no_work", He.ga K "_law_no_work", fd, fnArgs (top 34), fnBody (top 34), fnScope (top 34), (locs[24]?).getD [], ["hand"], false, rfl, He.glo_ok X G (c.fact 24 (f := .glo "_law_no_work") rfl), F,
    F.bindsN (fun _ _ _ _ _ _ us hl => match us, hl with | [_], _ => rfl), sc_24, rfl, rfl, (fun e => (by cases e)), ck_24, fun e => (by cases e), rfl⟩
theorem sc_25 : FnScope ((locs[25]?).getD []) ["call"] (fnScope (top 35)) := C8.fnScope_by (by decide +kernel)
theorem ck_25 : chkB pg b__law_word_of (defPc ((locs[25]?).getD []) (fnScope (top 35)) (some "call") false) (fnBody (top 35)) = true := by decide +kernel
theorem df_25 (X : K.In base) (G : base.Ns mainGlobals mg) (c : He.SaysD fa fn K) (hn : tabEx tf K = true) (ht : ∀ p ∈ tf.map (fun x => He.cT K (x, none)), TabB base mg p.1 p.2) (d : Def) (hd : defs[25]? = some d) : DfOk pg K mg base (gxOf K tf cn) 25 d := by
  cases hd
  obtain ⟨fd, F⟩ := c.def_ 25 (d := dd "_law_word_of" 35) rfl
  have F : FunD K "_law_word_of" "_law_word_of" (fnArgs (top 35)) (fnBody (top 35)) (fnScope (top 35)) [] [] (He.ga K "_law_word_of") fd := F
  exact ⟨"_law_word_of", He.ga K "_law_word_of", fd, fnArgs (top 35), fnBody (top 35), fnScope (top 35), (locs[25]?).getD [], ["call"], false, rfl, He.glo_ok X G (c.fact 25 (f := .glo "_law_word_of") rfl), F,
    F.bindsN (fun _ _ _ _ _ _ us hl => match us, hl with | [_], _ => rfl), sc_25, rfl, rfl, (fun _ => ⟨rfl, rfl, rfl, fun a e => (by cases e; decide)⟩), ck_25, fun e => (by cases e), rfl⟩
theorem sc_26 : FnScope ((locs[26]?).getD []) ["work", "order", "washes"] (fnScope (top 36)) := C8.fnScope_by (by decide +kernel)
theorem ck_26 : chkB pg b__law_is_washed (defPc ((locs[26]?).getD []) (fnScope (top 36)) none false) (fnBody (top 36)) = true := by decide +kernel
theorem df_26 (X : K.In base) (G : base.Ns mainGlobals mg) (c : He.SaysD fa fn K) (hn : tabEx tf K = true) (ht : ∀ p ∈ tf.map (fun x => He.cT K (x, none)), TabB base mg p.1 p.2) (d : Def) (hd : defs[26]? = some d) : DfOk pg K mg base (gxOf K tf cn) 26 d := by
  cases hd
  obtain ⟨fd, F⟩ := c.def_ 26 (d := dd "_law_is_washed" 36) rfl
  have F : FunD K "_law_is_washed" "_law_is_washed" (fnArgs (top 36)) (fnBody (top 36)) (fnScope (top 36)) [] [] (He.ga K "_law_is_washed") fd := F
  exact ⟨"_law_is_washed", He.ga K "_law_is_washed", fd, fnArgs (top 36), fnBody (top 36), fnScope (top 36), (locs[26]?).getD [], ["work", "order", "washes"], false, rfl, He.glo_ok X G (c.fact 26 (f := .glo "_law_is_washed") rfl), F,
    F.bindsN (fun _ _ _ _ _ _ us hl => match us, hl with | [_, _, _], _ => rfl), sc_26, rfl, rfl, (fun e => (by cases e)), ck_26, fun e => (by cases e), rfl⟩
theorem sc_27 : FnScope ((locs[27]?).getD []) ["hand", "work"] (fnScope (top 37)) := C8.fnScope_by (by decide +kernel)
theorem ck_27 : chkB pg b__law_is_right (defPc ((locs[27]?).getD []) (fnScope (top 37)) none false) (fnBody (top 37)) = true := by decide +kernel
theorem df_27 (X : K.In base) (G : base.Ns mainGlobals mg) (c : He.SaysD fa fn K) (hn : tabEx tf K = true) (ht : ∀ p ∈ tf.map (fun x => He.cT K (x, none)), TabB base mg p.1 p.2) (d : Def) (hd : defs[27]? = some d) : DfOk pg K mg base (gxOf K tf cn) 27 d := by
  cases hd
  obtain ⟨fd, F⟩ := c.def_ 27 (d := dd "_law_is_right" 37) rfl
  have F : FunD K "_law_is_right" "_law_is_right" (fnArgs (top 37)) (fnBody (top 37)) (fnScope (top 37)) [] [] (He.ga K "_law_is_right") fd := F
  exact ⟨"_law_is_right", He.ga K "_law_is_right", fd, fnArgs (top 37), fnBody (top 37), fnScope (top 37), (locs[27]?).getD [], ["hand", "work"], false, rfl, He.glo_ok X G (c.fact 27 (f := .glo "_law_is_right") rfl), F,
    F.bindsN (fun _ _ _ _ _ _ us hl => match us, hl with | [_, _], _ => rfl), sc_27, rfl, rfl, (fun e => (by cases e)), ck_27, fun e => (by cases e), rfl⟩
theorem sc_28 : FnScope ((locs[28]?).getD []) ["script"] (fnScope (top 38)) := C8.fnScope_by (by decide +kernel)
theorem ck_28 : chkB pg b_law (defPc ((locs[28]?).getD []) (fnScope (top 38)) none true) (fnBody (top 38)) = true := by decide +kernel
theorem df_28 (X : K.In base) (G : base.Ns mainGlobals mg) (c : He.SaysD fa fn K) (hn : tabEx tf K = true) (ht : ∀ p ∈ tf.map (fun x => He.cT K (x, none)), TabB base mg p.1 p.2) (d : Def) (hd : defs[28]? = some d) : DfOk pg K mg base (gxOf K tf cn) 28 d := by
  cases hd
  obtain ⟨fd, F⟩ := c.def_ 28 (d := dd "law" 38) rfl
  have F : FunD K "law" "law" (fnArgs (top 38)) (fnBody (top 38)) (fnScope (top 38)) [] [] (He.ga K "law") fd := F
  exact ⟨"law", He.ga K "law", fd, fnArgs (top 38), fnBody (top 38), fnScope (top 38), (locs[28]?).getD [], ["script"], true, rfl, He.glo_ok X G (c.fact 28 (f := .glo "law") rfl), F,
    F.bindsN (fun _ _ _ _ _ _ us hl => match us, hl with | [_], _ => rfl), sc_28, rfl, rfl, (fun e => (by cases e)), ck_28, fun _ => tab_df F (by decide +kernel) hn ht, rfl⟩
theorem cn_clamp (i : Nat) : cn i = cn (clampN 5 i) := by
  by_cases h : i < 5
  · simp [clampN, h]
  · have e : cl[i]? = none := List.getElem?_eq_none (by show 5 ≤ i; omega)
    simp only [clampN, h, if_false]
    unfold cn
    rw [e]
    rfl
theorem exi_clamp (i j : Nat) : prog.exi i j = prog.exi (clampN 5 i) (clampN 5 j) := by
  show exi i j = exi _ _
  by_cases h : i < 5 <;> by_cases h2 : j < 5 <;> simp [exi, clampN, h, h2]
theorem st0 (X : K.In base) (G : base.Ns mainGlobals mg) (c : He.SaysD fa fn K) (hn : tabEx tf K = true) (ht : ∀ p ∈ tf.map (fun x => He.cT K (x, none)), TabB base mg p.1 p.2) : St0 pg prog RW.prog w K mg base (gxOf K tf cn) where
  bB := rfl
  bK := rfl
  bcd := rfl
  be := rfl
  bu := rfl
  dfs := fun f d hf => match f, hf with
    | 0, e => df_0 X G c hn ht d e
    | 1, e => df_1 X G c hn ht d e
    | 2, e => df_2 X G c hn ht d e
    | 3, e => df_3 X G c hn ht d e
    | 4, e => df_4 X G c hn ht d e
    | 5, e => df_5 X G c hn ht d e
    | 6, e => df_6 X G c hn ht d e
    | 7, e => df_7 X G c hn ht d e
    | 8, e => df_8 X G c hn ht d e
    | 9, e => df_9 X G c hn ht d e
    | 10, e => df_10 X G c hn ht d e
    | 11, e => df_11 X G c hn ht d e
    | 12, e => df_12 X G c hn ht d e
    | 13, e => df_13 X G c hn ht d e
    | 14, e => df_14 X G c hn ht d e
    | 15, e => df_15 X G c hn ht d e
    | 16, e => df_16 X G c hn ht d e
    | 17, e => df_17 X G c hn ht d e
    | 18, e => df_18 X G c hn ht d e
    | 19, e => df_19 X G c hn ht d e
    | 20, e => df_20 X G c hn ht d e
    | 21, e => df_21 X G c hn ht d e
    | 22, e => df_22 X G c hn ht d e
    | 23, e => df_23 X G c hn ht d e
    | 24, e => df_24 X G c hn ht d e
    | 25, e => df_25 X G c hn ht d e
    | 26, e => df_26 X G c hn ht d e
    | 27, e => df_27 X G c hn ht d e
    | 28, e => df_28 X G c hn ht d e
    | n + 29, e => (by cases e)
  fl := rfl
  glb := fun g x e => match g, e with
    | 0, e => (by
      cases e
      obtain ⟨t, q⟩ := He.int_ok X G (c.facts (f := .int "MOST_FOODS" 7) (by unfold fa gl; simp))
      exact ⟨.int 7, .int 7 t, .int 7, rfl, q, ⟨_, rfl⟩, fun F => .int _⟩)
    | n + 1, e => (by cases e)
  cls := cls_of (cl := cl) X G (fun c x e => by unfold cn; rw [e]; rfl) fun x hx => ⟨c.facts (by unfold fa; simp [hx]), c.facts (by unfold fa; simp [hx])⟩
  exm := exm_of (n := 5) (by decide) (fun i => cn_clamp i) (fun i j => exi_clamp i j) fun i hi j hj => c.facts (by have := exmFa_mem (cn := cn) (ex := prog.exi) hi hj; unfold fa; simp [this])
  blt := fun n hn => He.free_ok X G (c.facts (by have := List.mem_map_of_mem (f := fun n => He.Fa.free (Str.ofString n)) hn; unfold fa; simp only [List.mem_append]; exact Or.inl (Or.inr this)))
end
abbrev EvTrue (fuel m : Nat) : Prop := ∀ ns : List Int, ns.length ≤ 63 → (∀ z ∈ ns, Builtin.Int.intBits z ≤ 1048576) → ∃ io up, (orc prog fuel (m + 1)).call 28 [.v (scrD ns)] none = .ok (.v (.bool true)) io up
theorem at_law {fuel m : Nat} (ev : EvTrue fuel m) (w : World) (mg : Str → Option Value) (fL : Addr) (h : Heap) (Y : hk.says w h) (G : h.Ns mainGlobals mg) (hmg : mg "law" = some (.ref fL)) : ∃ K : Fg, K.In h ∧ LawAtS RW w K (L2.CX RW.prog w) (m + 2) 63 "script" mg fL h := by
  obtain ⟨K, KX, c⟩ := Y
  obtain ⟨fd, F⟩ := c.t.d.def_ 28 (d := dd "law" 38) rfl
  have F : FunD K "law" "law" (fnArgs (top 38)) (fnBody (top 38)) (fnScope (top 38)) [] [] (He.ga K "law") fd := F
  have e := hmg.symm.trans (He.glo_ok KX G (c.t.d.fact 28 (f := .glo "law") rfl))
  cases e
  have b := FunD.bindsA (ps := ["script"]) F fun _ _ _ _ _ _ us hl => match us, hl with | [_], _ => rfl
  obtain ⟨oc, od, dV, kV, doc, pm, an, cdv, ct, osl, e, lk, _⟩ := F.ex
  have at_ : ∀ q ∈ tf.map (fun x => He.cT K (x, none)), ∃ p ∈ tfn, q = He.cT K p := fun q hq => by
    obtain ⟨x, hx, ex⟩ := List.mem_map.mp hq
    exact ⟨_, List.mem_map.mpr ⟨x, hx, rfl⟩, ex.symm⟩
  refine ⟨K, KX, fd, tf.map (fun x => He.cT K (x, none)), spF (gxOf K tf cn) 1 fun as => (orc prog fuel (m + 1)).call 28 as none, fun q hq => ?_, fun q hq => ?_, fun q hq => ?_, fun s u => b s [u] rfl,
    fun H a ns hl hb hT hS => law_sp rfl (fun q hq => ?_) hS (ev ns hl hb), fun base X G2 ht => law_fnok (st0 X G2 c.t.d c.more ht) m rfl rfl rfl (He.glo_ok X G2 (c.t.d.fact 28 (f := .glo "law") rfl)) lk (by rw [e]; rfl)⟩
  · obtain ⟨p, hp, ep⟩ := at_ q hq
    rw [ep]
    exact c.empty p hp
  · obtain ⟨p, hp, ep⟩ := at_ q hq
    rw [ep]
    exact c.out p hp
  · obtain ⟨p, hp, ep⟩ := at_ q hq
    rw [ep]
    exact PySem.W.codeHd_of_K KX (c.hd p hp)
  · obtain ⟨q2, h2, e2⟩ := List.mem_map.mp hq
    obtain ⟨x, hx, ex⟩ := List.mem_map.mp h2
    rw [← e2, ← ex]
    exact hT _ (List.mem_map.mpr ⟨x, hx, rfl⟩)
end K62
end
section
set_option Elab.async false
set_option linter.all false
set_option maxRecDepth 100000
namespace Pl
open Ev
open PySem
/-! ### running the evaluator by simp: every rule fires at a frame alone -/
section
variable {O : Orc} {ρ ρ1 : Fr} {α β : Type}
@[simp] theorem ok_bind {a : α} {f : α → Fr → Out β} : (Out.ok a ρ).bind f = f a ρ := rfl
@[simp] theorem ex_bind {x : Exn} {f : α → Fr → Out β} : (Out.ex x ρ : Out α).bind f = .ex x ρ := rfl
@[simp] theorem ok_toS {a : α} {f : α → Fr → OutS} : (Out.ok a ρ).toS f = f a ρ := rfl
@[simp] theorem ex_toS {x : Exn} {f : α → Fr → OutS} : (Out.ex x ρ : Out α).toS f = .ex x ρ := rfl
@[simp] theorem nx_bind {f : Fr → OutS} : (OutS.nx ρ).bind f = f ρ := rfl
@[simp] theorem bk_bind {f : Fr → OutS} : (OutS.bk ρ).bind f = .bk ρ := rfl
@[simp] theorem rt_bind {r : Rs} {f : Fr → OutS} : (OutS.rt r ρ).bind f = .rt r ρ := rfl
@[simp] theorem xs_bind {x : Exn} {f : Fr → OutS} : (OutS.ex x ρ).bind f = .ex x ρ := rfl
@[simp] theorem opt_some {a : α} : opt (some a) ρ = .ok a ρ := rfl
@[simp] theorem opt_none : opt (none : Option α) ρ = .stk := rfl
theorem opt_ite {c : Prop} [Decidable c] {a b : Option α} : opt (if c then a else b) ρ = if c then opt a ρ else opt b ρ := by split <;> rfl
@[simp] theorem rget_v {d : D} : Rs.get ρ (.v d) = some d := rfl
@[simp] theorem rget_l {d : List D} : Rs.get ρ (.l d) = some (.list d) := rfl
@[simp] theorem rget_p {i : Nat} : Rs.get ρ (.pl i) = match ρ.get i with | .ol xs => some (.list xs) | .v d => some d | _ => none := rfl
@[simp] theorem rfz_v {d : D} : Rs.fz (.v d) = some d := rfl
@[simp] theorem rfz_l {d : List D} : Rs.fz (.l d) = some (.list d) := rfl
@[simp] theorem fget {sl : List Sl} {io : Bool} {up} {i : Nat} : Fr.get ⟨sl, io, up⟩ i = (sl[i]?).getD .no := rfl
@[simp] theorem fset {sl : List Sl} {io : Bool} {up} {i : Nat} {s : Sl} : Fr.set ⟨sl, io, up⟩ i s = ⟨sl.set i s, io, up⟩ := rfl
@[simp] theorem fput {sl : List Sl} {io : Bool} {up} {i : Nat} {s : Sl} : Fr.put ⟨sl, io, up⟩ i s = if (io && i == 0) = true then none else some ⟨sl.set i s, io, up⟩ := rfl
@[simp] theorem frest_nil {ρ0 : Fr} {sl : List Sl} {io : Bool} {up} : Fr.rest ⟨sl, io, up⟩ ρ0 [] = ⟨sl, ρ0.io, up⟩ := rfl
@[simp] theorem frest_cons {ρ0 : Fr} {sl : List Sl} {io : Bool} {up} {i : Nat} {r : List Nat} : Fr.rest ⟨sl, io, up⟩ ρ0 (i :: r) = Fr.rest ⟨sl.set i (ρ0.get i), io, up⟩ ρ0 r := rfl
@[simp] theorem fwipe_nil : Fr.wipe ρ [] = ρ := rfl
@[simp] theorem fwipe_cons {sl : List Sl} {io : Bool} {up} {i : Nat} {r : List Nat} : Fr.wipe ⟨sl, io, up⟩ (i :: r) = Fr.wipe ⟨sl.set i .no, io, up⟩ r := rfl
/-! expressions -/
@[simp] theorem e_var {i : Nat} : evE O (.var i) ρ = match ρ.get i with | .v d => .ok (.v d) ρ | .ol xs => .ok (.v (.list xs)) (ρ.set i (.v (.list xs))) | _ => .stk := rfl
@[simp] theorem e_pk {i : Nat} : evE O (.pk i) ρ = match ρ.get i with | .v _ => .ok (.pl i) ρ | .ol _ => .ok (.pl i) ρ | _ => .stk := rfl
@[simp] theorem e_glb {g : Nat} : evE O (.glb g) ρ = match O.glb g with | some d => .ok (.v d) ρ | none => .stk := rfl
@[simp] theorem e_cst {d : D} : evE O (.cst d) ρ = .ok (.v d) ρ := rfl
@[simp] theorem e_tup {es : Es} : evE O (.tup es) ρ = (evEs O es ρ).bind fun ds ρ1 => if ds.length ≤ big then .ok (.v (.tuple ds)) ρ1 else .stk := rfl
@[simp] theorem e_lst {es : Es} : evE O (.lst es) ρ = (evEs O es ρ).bind fun ds ρ1 => if ds.length ≤ big then .ok (.l ds) ρ1 else .stk := rfl
@[simp] theorem e_bin {o : BOp} {a b : E} : evE O (.bin o a b) ρ = (evE O a ρ).bind fun x ρ1 => (evE O b ρ1).bind fun y ρ2 => match x.get ρ2, y.get ρ2 with
  | some d, some e => opt (binop o d e) ρ2 | _, _ => .stk := rfl
@[simp] theorem e_neg {a : E} : evE O (.neg a) ρ = (evE O a ρ).bind fun x ρ1 => match x with | .v (.int i) => .ok (.v (.int (-i))) ρ1 | _ => .stk := rfl
@[simp] theorem e_notV {a : E} : evE O (.notV a) ρ = ((boolF (evE O a) ρ).bind fun c ρ1 => .ok (!c) ρ1).bind fun c ρ1 => .ok (.v (.bool c)) ρ1 := rfl
@[simp] theorem e_cmp {o : COp} {a b : E} : evE O (.cmp o a b) ρ = (evE O a ρ).bind fun x ρ1 => (evE O b ρ1).bind fun y ρ2 => match x.get ρ2, y.get ρ2 with
  | some d, some e => opt (cmpR o d e) ρ2 | _, _ => .stk := rfl
@[simp] theorem e_chain {o p : COp} {a b c : E} : evE O (.chain o p a b c) ρ = (evE O a ρ).bind fun x ρ1 => (evE O b ρ1).bind fun y ρ2 => match y with
  | .v e => (match x.get ρ2 with
    | some d => (match cmpop o d e with
      | some true => (evE O c ρ2).bind fun z ρ3 => (match z.get ρ3 with | some f => opt (cmpR p e f) ρ3 | none => .stk)
      | some false => .ok (.v (.bool false)) ρ2
      | none => .stk)
    | none => .stk)
  | _ => .stk := rfl
@[simp] theorem e_and {a b : E} : evE O (.and a b) ρ = (boolF (evE O a) ρ).bind fun c ρ1 => if c then evE O b ρ1 else .ok (.v (.bool false)) ρ1 := rfl
@[simp] theorem e_or {a b : E} : evE O (.or a b) ρ = (boolF (evE O a) ρ).bind fun c ρ1 => if c then .ok (.v (.bool true)) ρ1 else evE O b ρ1 := rfl
@[simp] theorem e_tst {t : T} : evE O (.tst t) ρ = (evT O t ρ).bind fun c ρ1 => .ok (.v (.bool c)) ρ1 := rfl
@[simp] theorem e_ite {t : T} {a b : E} : evE O (.ite t a b) ρ = (evT O t ρ).bind fun c ρ1 => if c then evE O a ρ1 else evE O b ρ1 := rfl
@[simp] theorem e_idx {a i : E} : evE O (.idx a i) ρ = (evE O a ρ).bind fun x ρ1 => (evE O i ρ1).bind fun y ρ2 => match x.get ρ2, y.get ρ2 with
  | some d, some e => opt (getIx d e) ρ2 | _, _ => .stk := rfl
@[simp] theorem e_slc {a lo hi : E} : evE O (.slc a lo hi) ρ = (evE O a ρ).bind fun x ρ1 => (partF (isAbs lo) (evE O lo) ρ1).bind fun l ρ2 => (partF (isAbs hi) (evE O hi) ρ2).bind fun h ρ3 => match x.get ρ3 with
  | some d => opt (slice d l h) ρ3 | none => .stk := rfl
@[simp] theorem isAbs_none : isAbs (.cst .none) = true := rfl
@[simp] theorem isAbs_int {i : Int} : isAbs (.cst (.int i)) = false := rfl
@[simp] theorem isAbs_var {i : Nat} : isAbs (.var i) = false := rfl
@[simp] theorem isAbs_bin {o : BOp} {a b : E} : isAbs (.bin o a b) = false := rfl
@[simp] theorem isAbs_neg {a : E} : isAbs (.neg a) = false := rfl
@[simp] theorem isAbs_idx {a b : E} : isAbs (.idx a b) = false := rfl
@[simp] theorem isAbs_call {f : Nat} {es : Es} : isAbs (.call f es) = false := rfl
@[simp] theorem isAbs_bi {f : Bi} {es : Es} : isAbs (.bi f es) = false := rfl
@[simp] theorem partF_t {a : Ev1} : partF true a ρ = .ok none ρ := rfl
@[simp] theorem partF_f {a : Ev1} : partF false a ρ = (a ρ).bind fun r ρ1 => match r with | .v (.int i) => .ok (some i) ρ1 | _ => .stk := rfl
@[simp] theorem e_call {f : Nat} {es : Es} : evE O (.call f es) ρ = (evEs O es ρ).bind fun ds ρ1 => match O.call f (ds.map .v) none with
  | .ok r _ _ => .ok r ρ1 | .ex x _ _ => .ex x ρ1 | .stk => .stk := rfl
@[simp] theorem e_callM {f i : Nat} {es : Es} : evE O (.callM f i es) ρ = if isOl (ρ.get i) then (evEs O es ρ).bind fun ds ρ1 => (match ρ1.get i with
    | .ol xs => (match O.call f (.ol xs :: ds.map .v) none with
      | .ok r s _ => .ok r (ρ1.set i s) | .ex x s _ => .ex x (ρ1.set i s) | .stk => .stk)
    | _ => .stk)
  else .stk := rfl
@[simp] theorem isOl_ol {xs : List D} : isOl (.ol xs) = true := rfl
@[simp] theorem isOl_v {d : D} : isOl (.v d) = false := rfl
@[simp] theorem isV_v {d : D} : isV (.v d) = true := rfl
@[simp] theorem e_callL {f : Nat} {b : E} : evE O (.callL f b) ρ = if ρ.up.isSome then .stk else match O.call f [] (some (ρ.sl, b)) with
  | .ok (.pl _) _ _ => .stk | .ok r _ u => .ok r { ρ with sl := u } | _ => .stk := rfl
@[simp] theorem e_callC {i : Nat} : evE O (.callC i) ρ = if ρ.io then (match ρ.up with
  | some (u, b) => (match O.clo b { sl := u } with
    | .ok (.pl _) _ => .stk
    | .ok r ρ1 => .ok r { ρ with up := some (ρ1.sl, b) } | .ex x ρ1 => .ex x { ρ with up := some (ρ1.sl, b) } | .stk => .stk)
  | none => .stk) else .stk := rfl
@[simp] theorem getAll_nil : getAll ρ [] = some [] := rfl
@[simp] theorem getAll_cons {r : Rs} {rs : List Rs} : getAll ρ (r :: rs) = match r.get ρ, getAll ρ rs with | some d, some ds => some (d :: ds) | _, _ => none := rfl
@[simp] theorem e_bi {b : Bi} {es : Es} : evE O (.bi b es) ρ = (evEr O es ρ).bind fun rs ρ1 => match getAll ρ1 rs with | some ds => opt (bltf b ds) ρ1 | none => .stk := rfl
@[simp] theorem e_isi {a : E} {ty : Ty} : evE O (.isi a ty) ρ = (evE O a ρ).bind fun x ρ1 => match x.get ρ1 with | some d => opt ((isiD ty d).map fun b => .v (.bool b)) ρ1 | none => .stk := rfl
@[simp] theorem e_mth {m : Me} {a : E} {es : Es} : evE O (.mth m a es) ρ = (evE O a ρ).bind fun x ρ1 => (evEs O es ρ1).bind fun ds ρ2 => match x.get ρ2 with
  | some d => opt ((methf m d ds).map .v) ρ2 | none => .stk := rfl
@[simp] theorem e_pop {i : Nat} {es : Es} : evE O (.pop i es) ρ = if isOl (ρ.get i) then (evEs O es ρ).bind fun ds ρ1 => (match ρ1.get i with
  | .ol xs => (match popf xs ds with | some (d, ys) => .ok (.v d) (ρ1.set i (.ol ys)) | none => .stk)
  | _ => .stk) else .stk := rfl
@[simp] theorem e_comp {own : List Nat} {g : Tg} {it : It} {c : T} {e : E} : evE O (.comp own g it c e) ρ = compF own (hid it) g (evI O it) (evT O c) (evE O e) ρ := rfl
@[simp] theorem hid_seq {e : E} : hid (.seq e) = [] := rfl
@[simp] theorem hid_rng1 {e : E} : hid (.rng1 e) = [] := rfl
@[simp] theorem hid_rng2 {e f : E} : hid (.rng2 e f) = [] := rfl
@[simp] theorem hid_enum {e : E} : hid (.enum e) = [] := rfl
@[simp] theorem hid_zip {e f : E} : hid (.zip e f) = [] := rfl
@[simp] theorem hid_pks {i : Nat} : hid (.pks i) = [i] := rfl
@[simp] theorem e_sortL {a : E} : evE O (.sortL a) ρ = (evE O a ρ).bind fun x ρ1 => match (x.get ρ1).bind lstOf with
  | some ds => opt ((sortL ds).map .l) ρ1
  | none => .stk := rfl
@[simp] theorem e_exi {i c : Nat} : evE O (.exi i c) ρ = match ρ.get i with | .ex x => .ok (.v (.bool (O.exi x.cls c))) ρ | _ => .stk := rfl
@[simp] theorem e_lrg {a b : E} : evE O (.lrg a b) ρ = (evE O a ρ).bind fun x ρ1 => (evE O b ρ1).bind fun y ρ2 => match x, y with
  | .v (.int m), .v (.int n) => if rngOk m && rngOk n then .ok (.l (rangeD m n)) ρ2 else .stk | _, _ => .stk := rfl
@[simp] theorem e_lrg1 {b : E} : evE O (.lrg1 b) ρ = (evE O b ρ).bind fun y ρ2 => match y with
  | .v (.int n) => if rngOk n then .ok (.l (rangeD 0 n)) ρ2 else .stk | _ => .stk := rfl
@[simp] theorem boolF_d {a : Ev1} : boolF a ρ = (a ρ).bind fun x ρ1 => match x with | .v (.bool c) => .ok c ρ1 | _ => .stk := rfl
@[simp] theorem es_nil : evEs O .nil ρ = .ok [] ρ := rfl
@[simp] theorem es_cons {e : E} {r : Es} : evEs O (.cons e r) ρ = (evE O e ρ).bind fun x ρ1 => match x.fz with
  | some d => (evEs O r ρ1).bind fun ds ρ2 => .ok (d :: ds) ρ2 | none => .stk := rfl
@[simp] theorem er_nil : evEr O .nil ρ = .ok [] ρ := rfl
@[simp] theorem er_cons {e : E} {r : Es} : evEr O (.cons e r) ρ = (evE O e ρ).bind fun x ρ1 => (evEr O r ρ1).bind fun ds ρ2 => .ok (x :: ds) ρ2 := rfl
/-! tests -/
@[simp] theorem t_tt : evT O .tt ρ = .ok true ρ := rfl
@[simp] theorem t_val {e : E} : evT O (.val e) ρ = (evE O e ρ).bind fun x ρ1 => match x.get ρ1 with | some d => opt (Ev.truthy d) ρ1 | none => .stk := rfl
@[simp] theorem t_cmp {o : COp} {a b : E} : evT O (.cmp o a b) ρ = boolF (evE O (.cmp o a b)) ρ := rfl
@[simp] theorem t_chain {o p : COp} {a b c : E} : evT O (.chain o p a b c) ρ = boolF (evE O (.chain o p a b c)) ρ := rfl
@[simp] theorem t_and {a b : T} : evT O (.and a b) ρ = (evT O a ρ).bind fun c ρ1 => if c then evT O b ρ1 else .ok false ρ1 := rfl
@[simp] theorem t_or {a b : T} : evT O (.or a b) ρ = (evT O a ρ).bind fun c ρ1 => if c then .ok true ρ1 else evT O b ρ1 := rfl
@[simp] theorem t_not {a : T} : evT O (.not a) ρ = (evT O a ρ).bind fun c ρ1 => .ok (!c) ρ1 := rfl
/-! what is gone through -/
@[simp] theorem i_seq {e : E} : evI O (.seq e) ρ = (evE O e ρ).bind fun x ρ1 => match x.fz with | some d => opt (itemsOf d) ρ1 | none => .stk := rfl
@[simp] theorem i_rng1 {a : E} : evI O (.rng1 a) ρ = (evE O a ρ).bind fun x ρ1 => match x with | .v (.int n) => if rngOk n then .ok (rangeD 0 n) ρ1 else .stk | _ => .stk := rfl
@[simp] theorem i_rng2 {a b : E} : evI O (.rng2 a b) ρ = (evE O a ρ).bind fun x ρ1 => (evE O b ρ1).bind fun y ρ2 => match x, y with
  | .v (.int m), .v (.int n) => if rngOk m && rngOk n then .ok (rangeD m n) ρ2 else .stk | _, _ => .stk := rfl
@[simp] theorem i_pks {i : Nat} : evI O (.pks i) ρ = match ρ.get i with | .ol xs => .ok xs ρ | .v d => opt (itemsOf d) ρ | _ => .stk := rfl
@[simp] theorem i_enum {a : E} : evI O (.enum a) ρ = (evE O a ρ).bind fun x ρ1 => match x.fz with
  | some d => (match itemsOf d with | some xs => .ok (xs.zipIdx.map fun p => .tuple [.int p.2, p.1]) ρ1 | none => .stk)
  | none => .stk := rfl
@[simp] theorem i_zip {a b : E} : evI O (.zip a b) ρ = (evE O a ρ).bind fun x ρ1 => match x.fz with
  | some d => (evE O b ρ1).bind fun y ρ2 => (match y.fz with
    | some e => opt (zipD d e) ρ2
    | none => .stk)
  | none => .stk := rfl
@[simp] theorem zip_tup {xs ys : List D} : zipD (.tuple xs) (.tuple ys) = some ((xs.zip ys).map fun p => .tuple [p.1, p.2]) := rfl
@[simp] theorem zip_lst {xs ys : List D} : zipD (.list xs) (.list ys) = some ((xs.zip ys).map fun p => .tuple [p.1, p.2]) := rfl
@[simp] theorem items_tup {xs : List D} : itemsOf (.tuple xs) = some xs := rfl
@[simp] theorem items_lst {xs : List D} : itemsOf (.list xs) = some xs := rfl
/-! statements -/
@[simp] theorem s_skip : evS O .skip ρ = .nx ρ := rfl
@[simp] theorem s_seq {a b : S} : evS O (.seq a b) ρ = (evS O a ρ).bind (evS O b) := rfl
@[simp] theorem s_asg {g : Tg} {o : Bool} {e : E} : evS O (.asg g o e) ρ = (evE O e ρ).toS fun r ρ1 => putO (asgR g o r ρ1) := rfl
@[simp] theorem s_keep {i : Nat} {o : Bool} {t : T} {e : E} : evS O (.keepIf i o t e) ρ = (evT O t ρ).toS fun c ρ1 =>
  if c then (evE O e ρ1).toS fun r ρ2 => putO (asgR (.nm i) o r ρ2) else (match ρ1.get i with | .ol _ => .nx ρ1 | .v _ => .nx ρ1 | _ => .stk) := rfl
@[simp] theorem s_par {g h : Tg} {o p : Bool} {a b : E} : evS O (.par g h o p a b) ρ = (evE O a ρ).toS fun x ρ1 => match x with
  | .pl _ => .stk
  | _ => (evE O b ρ1).toS fun y ρ2 => match asgR g o x ρ2 with
    | some ρ3 => putO (asgR h p y ρ3)
    | none => .stk := rfl
@[simp] theorem s_setI {i : Nat} {ix e : E} : evS O (.setI i ix e) ρ = (evE O e ρ).toS fun r ρ1 => match r with
  | .v d => if isOl (ρ1.get i) then ((evE O ix ρ1).toS fun k ρ2 => match k, ρ2.get i with
    | .v (.int n), .ol xs => (match ixOf xs.length n with | some j => .nx (ρ2.set i (.ol (xs.set j d))) | none => .stk)
    | _, _ => .stk) else .stk
  | _ => .stk := rfl
@[simp] theorem s_aug {i : Nat} {o : BOp} {e : E} : evS O (.aug i o e) ρ = if isV (ρ.get i) then (evE O e ρ).toS fun r ρ1 => (match r, ρ1.get i with
  | .v d, .v c => (match augF o c d with | some z => putO (ρ1.put i (.v z)) | none => .stk)
  | _, _ => .stk) else .stk := rfl
@[simp] theorem s_ex {e : E} : evS O (.ex e) ρ = (evE O e ρ).toS fun _ ρ1 => .nx ρ1 := rfl
@[simp] theorem s_mut {m : MM} {i : Nat} {e : E} : evS O (.mut m i e) ρ = if isOl (ρ.get i) then (evE O e ρ).toS fun r ρ1 => (match ρ1.get i with
  | .ol xs => (match mutf m xs r with | some ys => .nx (ρ1.set i (.ol ys)) | none => .stk)
  | _ => .stk) else .stk := rfl
@[simp] theorem s_ite {t : T} {a b : S} : evS O (.ite t a b) ρ = (evT O t ρ).toS fun c ρ1 => if c then evS O a ρ1 else evS O b ρ1 := rfl
@[simp] theorem s_for {g : Tg} {it : It} {b : S} : evS O (.fori g it b) ρ = (evI O it ρ).toS fun ds ρ1 => forL (bodyF g (evS O b)) ds ρ1 := rfl
@[simp] theorem s_whl {t : T} {b : S} : evS O (.whl t b) ρ = whileL (evT O t) (evS O b) O.fuel ρ := rfl
@[simp] theorem s_brk : evS O .brk ρ = .bk ρ := rfl
@[simp] theorem s_ret {fz : Bool} {e : E} : evS O (.ret fz e) ρ = (evE O e ρ).toS fun r ρ1 =>
  if fz then (match r.fz with | some d => .rt (.v d) ρ1 | none => .stk) else (match r with | .pl _ => .stk | _ => .rt r ρ1) := rfl
@[simp] theorem s_retN : evS O .retN ρ = .rt (.v .none) ρ := rfl
@[simp] theorem s_raise {c : Nat} : evS O (.raise c) ρ = .ex ⟨c, none⟩ ρ := rfl
@[simp] theorem s_raise1 {c : Nat} {e : E} : evS O (.raise1 c e) ρ = (evE O e ρ).toS fun r ρ1 => match r with | .v (.int d) => .ex ⟨c, some (.int d)⟩ ρ1 | _ => .stk := rfl
@[simp] theorem s_try {b hs : S} : evS O (.tryS b hs) ρ = match evS O b ρ with
    | .ex x ρ1 => evH O hs x ρ1
    | o => o := rfl
@[simp] theorem s_forget {l : List Nat} : evS O (.forget l) ρ = .nx (ρ.wipe l) := rfl
@[simp] theorem h_nil {x : Exn} : evH O .hnil x ρ = .ex x ρ := rfl
@[simp] theorem h_cons {c : Nat} {v : Option Nat} {b r : S} {x : Exn} : evH O (.hcons c v b r) x ρ = if O.exi x.cls c then
      (match v with
      | some i => (match ρ.put i (.ex x) with
        | some ρ1 => (match evS O b ρ1 with | .nx ρ2 => .nx (ρ2.set i .no) | .rt q ρ2 => .rt q (ρ2.set i .no) | _ => .stk)
        | none => .stk)
      | none => (match evS O b ρ with | .nx ρ2 => .nx ρ2 | .rt q ρ2 => .rt q ρ2 | _ => .stk))
    else evH O r x ρ := rfl
@[simp] theorem bodyF_d {g : Tg} {b : EvS} {d : D} : bodyF g b d ρ = match asgT g d ρ with | some ρ1 => b ρ1 | none => .stk := rfl
@[simp] theorem putO_some : putO (some ρ) = .nx ρ := rfl
@[simp] theorem asgT_nm {i : Nat} {d : D} : asgT (.nm i) d ρ = ρ.put i (.v d) := rfl
@[simp] theorem asgT_nl : asgT .nl (.tuple []) ρ = some ρ := rfl
@[simp] theorem asgT_cn {g r : Tg} {x : D} {xs : List D} : asgT (.cn g r) (.tuple (x :: xs)) ρ = match asgT g x ρ with | some ρ1 => asgT r (.tuple xs) ρ1 | none => none := rfl
@[simp] theorem asgR_own {i : Nat} {xs : List D} : asgR (.nm i) true (.l xs) ρ = ρ.put i (.ol xs) := rfl
@[simp] theorem asgR_ownv {i : Nat} {d : D} : asgR (.nm i) true (.v d) ρ = asgT (.nm i) d ρ := rfl
@[simp] theorem asgR_not {g : Tg} {r : Rs} : asgR g false r ρ = match r.fz with | some d => asgT g d ρ | none => none := rfl
@[simp] theorem asgR_cn {g h : Tg} {r : Rs} {o : Bool} : asgR (.cn g h) o r ρ = match r.fz with | some d => asgT (.cn g h) d ρ | none => none := by cases o <;> rfl
@[simp] theorem forL_nil {b : D → Fr → OutS} : forL b [] ρ = .nx ρ := rfl
theorem forL_cons {b : D → Fr → OutS} {d : D} {r : List D} : forL b (d :: r) ρ = match b d ρ with | .nx ρ1 => forL b r ρ1 | .bk ρ1 => .nx ρ1 | o => o := rfl
@[simp] theorem endC_nx {sl : List Sl} {io : Bool} {up} : endC (.nx ⟨sl, io, up⟩) = .ok (.v .none) (if io then (sl[0]?).getD .no else .no) (match up with | some (u, _) => u | none => []) := rfl
@[simp] theorem endC_rv {d : D} {sl : List Sl} {io : Bool} {up} : endC (.rt (.v d) ⟨sl, io, up⟩) = .ok (.v d) (if io then (sl[0]?).getD .no else .no) (match up with | some (u, _) => u | none => []) := rfl
@[simp] theorem endC_rl {d : List D} {sl : List Sl} {io : Bool} {up} : endC (.rt (.l d) ⟨sl, io, up⟩) = .ok (.l d) (if io then (sl[0]?).getD .no else .no) (match up with | some (u, _) => u | none => []) := rfl
@[simp] theorem endC_ex {x : Exn} {sl : List Sl} {io : Bool} {up} : endC (.ex x ⟨sl, io, up⟩) = .ex x (if io then (sl[0]?).getD .no else .no) (match up with | some (u, _) => u | none => []) := rfl
@[simp] theorem orc_clo {P : Prog} {F n : Nat} {e : E} : (orc P F (n + 1)).clo e ρ = evE (orc P F n) e ρ := rfl
@[simp] theorem orc_exi {P : Prog} {F n : Nat} {a b : Nat} : (orc P F n).exi a b = P.exi a b := by cases n <;> rfl
@[simp] theorem orc_glb {P : Prog} {F n : Nat} {g : Nat} : (orc P F n).glb g = P.glb[g]? := by cases n <;> rfl
@[simp] theorem orc_fuel {P : Prog} {F n : Nat} : (orc P F n).fuel = F := by cases n <;> rfl
end
/-! data -/
@[simp] theorem truthy_b {b : Bool} : Ev.truthy (.bool b) = some b := rfl
@[simp] theorem truthy_i {i : Int} : Ev.truthy (.int i) = some (i != 0) := rfl
@[simp] theorem truthy_n : Ev.truthy .none = some false := rfl
@[simp] theorem truthy_l {xs : List D} : Ev.truthy (.list xs) = some (!xs.isEmpty) := rfl
@[simp] theorem truthy_t {xs : List D} : Ev.truthy (.tuple xs) = some (!xs.isEmpty) := rfl
@[simp] theorem bltf1 {b : Bi} {d : D} : bltf b [d] = blt1 b d := rfl
@[simp] theorem bltf2 {b : Bi} {d e : D} : bltf b [d, e] = blt2 b d e := rfl
@[simp] theorem b_len {d : D} : blt1 .len d = (itemsOf d).map fun xs => .v (.int xs.length) := rfl
@[simp] theorem b_abs {i : Int} : blt1 .abs (.int i) = some (.v (.int (if i < 0 then -i else i))) := rfl
theorem b_sum {xs : List D} : blt1 .sum (.list xs) = (intsOf xs).map fun l => .v (.int l.sum) := rfl
theorem b_all {xs : List D} : blt1 .all (.list xs) = (boolsOf xs).map fun l => .v (.bool (l.all id)) := rfl
theorem b_any {xs : List D} : blt1 .any (.list xs) = (boolsOf xs).map fun l => .v (.bool (l.any id)) := rfl
@[simp] theorem b_sorted {d : D} : blt1 .sorted d = (itemsOf d).bind fun xs => (sortD xs).map .l := rfl
@[simp] theorem b_list {d : D} : blt1 .list d = (itemsOf d).map .l := rfl
@[simp] theorem b_tuple {d : D} : blt1 .tuple d = (itemsOf d).map fun xs => .v (.tuple xs) := rfl
@[simp] theorem b_int {i : Int} : blt1 .int (.int i) = some (.v (.int i)) := rfl
@[simp] theorem b_repr {b : Bool} : blt1 .repr (.bool b) = some (.v (.str (reprBool b))) := rfl
@[simp] theorem b_min2 {i j : Int} : blt2 .min2 (.int i) (.int j) = some (.v (.int (if j < i then j else i))) := rfl
@[simp] theorem b_max2 {i j : Int} : blt2 .max2 (.int i) (.int j) = some (.v (.int (if j > i then j else i))) := rfl
@[simp] theorem o_addi {i j : Int} : binop .add (.int i) (.int j) = some (.v (.int (i + j))) := rfl
@[simp] theorem o_subi {i j : Int} : binop .sub (.int i) (.int j) = some (.v (.int (i - j))) := rfl
@[simp] theorem o_addt {x y : List D} : binop .add (.tuple x) (.tuple y) = if x.length + y.length ≤ big then some (.v (.tuple (x ++ y))) else none := rfl
@[simp] theorem o_addl {x y : List D} : binop .add (.list x) (.list y) = if x.length + y.length ≤ big then some (.l (x ++ y)) else none := rfl
@[simp] theorem o_modi {i j : Int} : binop .mod (.int i) (.int j) = if 0 < j then some (.v (.int (i % j))) else none := rfl
@[simp] theorem o_divi {i j : Int} : binop .fdiv (.int i) (.int j) = if divOk j then some (.v (.int (i / j))) else none := rfl
@[simp] theorem o_muli {i j : Int} : binop .mul (.int i) (.int j) = if mulOk i j then some (.v (.int (i * j))) else none := rfl
@[simp] theorem c_lti {i j : Int} : cmpop .lt (.int i) (.int j) = some (decide (i < j)) := rfl
@[simp] theorem c_lei {i j : Int} : cmpop .le (.int i) (.int j) = some (decide (i ≤ j)) := rfl
@[simp] theorem c_gti {i j : Int} : cmpop .gt (.int i) (.int j) = some (decide (j < i)) := rfl
@[simp] theorem c_gei {i j : Int} : cmpop .ge (.int i) (.int j) = some (decide (j ≤ i)) := rfl
@[simp] theorem c_eqi {i j : Int} : cmpop .eq (.int i) (.int j) = some (decide (i = j)) := by
  show (if SeqAt.shaped (.int i) && SeqAt.shaped (.int j) then some (PyData.eqv (.int i) (.int j)) else none) = _
  rw [if_pos (by simp [SeqAt.shaped, PyData.canLay0, PyData.depth])]
  simp [PyData.eqv]
  rfl
@[simp] theorem c_nei {i j : Int} : cmpop .ne (.int i) (.int j) = some (!decide (i = j)) := by
  show (if SeqAt.shaped (.int i) && SeqAt.shaped (.int j) then some (!PyData.eqv (.int i) (.int j)) else none) = _
  rw [if_pos (by simp [SeqAt.shaped, PyData.canLay0, PyData.depth])]
  simp [PyData.eqv]
  rfl
@[simp] theorem c_isnone {d : D} : cmpop .is d .none = some (isNone d) := rfl
@[simp] theorem c_isntnone {d : D} : cmpop .isnot d .none = some (!isNone d) := rfl
@[simp] theorem c_isb {c d : Bool} : cmpop .is (.bool c) (.bool d) = some (decide (c = d)) := rfl
@[simp] theorem c_isntb {c d : Bool} : cmpop .isnot (.bool c) (.bool d) = some (!decide (c = d)) := rfl
@[simp] theorem cmpR_d {o : COp} {d e : D} : cmpR o d e = (cmpop o d e).map fun c => .v (.bool c) := rfl
@[simp] theorem isi_none {ty : Ty} : isiD ty .none = some false := rfl
@[simp] theorem isi_int {ty : Ty} {i : Int} : isiD ty (.int i) = some (decide (ty = .int)) := rfl
@[simp] theorem isi_bool {ty : Ty} {i : Bool} : isiD ty (.bool i) = some (decide (ty = .int ∨ ty = .bool)) := rfl
@[simp] theorem isi_str {ty : Ty} {i : Str} : isiD ty (.str i) = some (decide (ty = .str)) := rfl
@[simp] theorem isi_tup {ty : Ty} {i : List D} : isiD ty (.tuple i) = some (decide (ty = .tuple)) := rfl
@[simp] theorem isi_lst {ty : Ty} {i : List D} : isiD ty (.list i) = some (decide (ty = .list)) := rfl
@[simp] theorem mut_app {xs : List D} {r : Rs} : mutf .append xs r = match r.fz with | some d => if xs.length < big then some (xs ++ [d]) else none | none => none := rfl
@[simp] theorem mut_ext {xs ys : List D} : mutf .extend xs (.l ys) = if xs.length + ys.length ≤ big then some (xs ++ ys) else none := rfl
@[simp] theorem aug_add {i j : Int} : augF .add (.int i) (.int j) = some (.int (i + j)) := rfl
@[simp] theorem aug_sub {i j : Int} : augF .sub (.int i) (.int j) = some (.int (i - j)) := rfl
@[simp] theorem getIx_t {xs : List D} {i : Int} : getIx (.tuple xs) (.int i) = (L2.atI xs i).map .v := rfl
@[simp] theorem getIx_l {xs : List D} {i : Int} : getIx (.list xs) (.int i) = (L2.atI xs i).map .v := rfl
@[simp] theorem slc_t {xs : List D} {l h : Option Int} : slice (.tuple xs) l h = some (.v (.tuple (cutD xs l h))) := rfl
@[simp] theorem slc_l {xs : List D} {l h : Option Int} : slice (.list xs) l h = some (.l (cutD xs l h)) := rfl
theorem bigN : big = 16777216 := rfl
@[simp] theorem big_l0 : (0 ≤ big) = True := by rw [bigN]; simp
@[simp] theorem big_l1 : (1 ≤ big) = True := by rw [bigN]; simp
@[simp] theorem big_l2 : (2 ≤ big) = True := by rw [bigN]; simp
@[simp] theorem big_l3 : (3 ≤ big) = True := by rw [bigN]; simp
@[simp] theorem big_l4 : (4 ≤ big) = True := by rw [bigN]; simp
@[simp] theorem big_l5 : (5 ≤ big) = True := by rw [bigN]; simp
@[simp] theorem big_l6 : (6 ≤ big) = True := by rw [bigN]; simp
@[simp] theorem big_l7 : (7 ≤ big) = True := by rw [bigN]; simp
@[simp] theorem big_l8 : (8 ≤ big) = True := by rw [bigN]; simp
@[simp] theorem big_l9 : (9 ≤ big) = True := by rw [bigN]; simp
@[simp] theorem big_l10 : (10 ≤ big) = True := by rw [bigN]; simp
@[simp] theorem big_l11 : (11 ≤ big) = True := by rw [bigN]; simp
@[simp] theorem big_l12 : (12 ≤ big) = True := by rw [bigN]; simp
@[simp] theorem big_l13 : (13 ≤ big) = True := by rw [bigN]; simp
@[simp] theorem big_l14 : (14 ≤ big) = True := by rw [bigN]; simp
@[simp] theorem big_l15 : (15 ≤ big) = True := by rw [bigN]; simp
@[simp] theorem big_l16 : (16 ≤ big) = True := by rw [bigN]; simp
@[simp] theorem big_l17 : (17 ≤ big) = True := by rw [bigN]; simp
@[simp] theorem big_l18 : (18 ≤ big) = True := by rw [bigN]; simp
@[simp] theorem big_l19 : (19 ≤ big) = True := by rw [bigN]; simp
@[simp] theorem big_l20 : (20 ≤ big) = True := by rw [bigN]; simp
@[simp] theorem big_l21 : (21 ≤ big) = True := by rw [bigN]; simp
@[simp] theorem big_l22 : (22 ≤ big) = True := by rw [bigN]; simp
@[simp] theorem big_l23 : (23 ≤ big) = True := by rw [bigN]; simp
@[simp] theorem big_l24 : (24 ≤ big) = True := by rw [bigN]; simp
@[simp] theorem big_l25 : (25 ≤ big) = True := by rw [bigN]; simp
@[simp] theorem big_l26 : (26 ≤ big) = True := by rw [bigN]; simp
@[simp] theorem big_l27 : (27 ≤ big) = True := by rw [bigN]; simp
@[simp] theorem big_l28 : (28 ≤ big) = True := by rw [bigN]; simp
@[simp] theorem big_l29 : (29 ≤ big) = True := by rw [bigN]; simp
@[simp] theorem big_l30 : (30 ≤ big) = True := by rw [bigN]; simp
@[simp] theorem big_l31 : (31 ≤ big) = True := by rw [bigN]; simp
@[simp] theorem big_l32 : (32 ≤ big) = True := by rw [bigN]; simp
@[simp] theorem big_t0 : (0 < big) = True := by rw [bigN]; simp
@[simp] theorem big_t1 : (1 < big) = True := by rw [bigN]; simp
@[simp] theorem big_t2 : (2 < big) = True := by rw [bigN]; simp
@[simp] theorem big_t3 : (3 < big) = True := by rw [bigN]; simp
@[simp] theorem big_t4 : (4 < big) = True := by rw [bigN]; simp
@[simp] theorem big_t5 : (5 < big) = True := by rw [bigN]; simp
@[simp] theorem big_t6 : (6 < big) = True := by rw [bigN]; simp
@[simp] theorem big_t7 : (7 < big) = True := by rw [bigN]; simp
@[simp] theorem big_t8 : (8 < big) = True := by rw [bigN]; simp
@[simp] theorem big_t9 : (9 < big) = True := by rw [bigN]; simp
@[simp] theorem big_t10 : (10 < big) = True := by rw [bigN]; simp
@[simp] theorem big_t11 : (11 < big) = True := by rw [bigN]; simp
@[simp] theorem big_t12 : (12 < big) = True := by rw [bigN]; simp
@[simp] theorem big_t13 : (13 < big) = True := by rw [bigN]; simp
@[simp] theorem big_t14 : (14 < big) = True := by rw [bigN]; simp
@[simp] theorem big_t15 : (15 < big) = True := by rw [bigN]; simp
@[simp] theorem big_t16 : (16 < big) = True := by rw [bigN]; simp
theorem callN {P : Prog} {F n i : Nat} {as : List Sl} {d : Def} (hd : P.defs[i]? = some d) (h : (as.length + (if d.clo then 1 else 0) = d.np && ((none : Option (List Sl × E)).isSome == d.clo) && argsOk d.io as) = true) :
    (orc P F (n + 1)).call i as none = endC (evS (orc P F n) d.body (frame0 d as none)) := by
  show (match P.defs[i]? with | some d => _ | none => _) = _
  rw [hd]
  show (if _ then _ else _) = _
  rw [if_pos h]
theorem callL' {P : Prog} {F n i : Nat} {as : List Sl} {d : Def} {u : List Sl} {b : E} (hd : P.defs[i]? = some d) (h : (as.length + (if d.clo then 1 else 0) = d.np && ((some (u, b) : Option (List Sl × E)).isSome == d.clo) && argsOk d.io as) = true) :
    (orc P F (n + 1)).call i as (some (u, b)) = endC (evS { orc P F n with clo := fun _ ρ => (orc P F n).clo b ρ } d.body (frame0 d as (some (u, b)))) := by
  show (match P.defs[i]? with | some d => _ | none => _) = _
  rw [hd]
  show (if _ then _ else _) = _
  rw [if_pos h]
@[simp] theorem frame0_d {a : String} {np ns : Nat} {io clo : Bool} {b : S} {as : List Sl} {up} : frame0 ⟨a, np, ns, io, clo, b⟩ as up = ⟨as ++ List.replicate (ns - as.length) .no, io || up.isSome, up⟩ := rfl
@[simp] theorem cast_eq {a b : Nat} : ((a : Int) = (b : Int)) = (a = b) := by simp only [eq_iff_iff]; omega
/-! indices -/
theorem ixN_nat {n k : Nat} (h : k < n) : L2.ixN n (k : Int) = some k := by
  unfold L2.ixN
  rw [if_pos (by omega), if_pos (by omega)]
  simp
theorem atI_nat {α : Type} {xs : List α} {k : Nat} (h : k < xs.length) : L2.atI xs (k : Int) = some xs[k] := by
  unfold L2.atI
  rw [ixN_nat h]
  simp [List.getElem?_eq_getElem h]
theorem atI_nat? {α : Type} {xs : List α} {k : Nat} : L2.atI xs (k : Int) = xs[k]? := by
  by_cases h : k < xs.length
  · rw [atI_nat h, List.getElem?_eq_getElem h]
  · rw [List.getElem?_eq_none (by omega)]
    unfold L2.atI L2.ixN
    rw [if_pos (by omega), if_neg (by omega)]
    rfl
@[simp] theorem atI_0 {α : Type} {x : α} {xs : List α} : L2.atI (x :: xs) 0 = some x := by
  have := atI_nat? (xs := x :: xs) (k := 0)
  simpa using this
@[simp] theorem atI_1 {α : Type} {x y : α} {xs : List α} : L2.atI (x :: y :: xs) 1 = some y := by
  have := atI_nat? (xs := x :: y :: xs) (k := 1)
  simpa using this
@[simp] theorem atI_2 {α : Type} {x y z : α} {xs : List α} : L2.atI (x :: y :: z :: xs) 2 = some z := by
  have := atI_nat? (xs := x :: y :: z :: xs) (k := 2)
  simpa using this
@[simp] theorem atI_3 {α : Type} {x y z w : α} {xs : List α} : L2.atI (x :: y :: z :: w :: xs) 3 = some w := by
  have := atI_nat? (xs := x :: y :: z :: w :: xs) (k := 3)
  simpa using this
@[simp] theorem atI_4 {α : Type} {x y z w v : α} {xs : List α} : L2.atI (x :: y :: z :: w :: v :: xs) 4 = some v := by
  have := atI_nat? (xs := x :: y :: z :: w :: v :: xs) (k := 4)
  simpa using this
@[simp] theorem ixOf_lit0 {n : Nat} : ixOf (n + 1) 0 = some 0 := by simp [ixOf, L2.ixN]
theorem cut_tail {xs : List D} : cutD xs (some 1) none = xs.tail := by
  unfold cutD
  cases xs <;> simp [sBound]
theorem rangeD0 {n : Nat} : rangeD 0 (n : Int) = (List.range n).map fun i => .int (i : Int) := by
  unfold rangeD
  simp
theorem rngOk_nat {n : Nat} (h : n ≤ 1000000) : rngOk (n : Int) = true := by
  simp [rngOk]
  omega
/-! comprehensions -/
theorem turnF_d {own : List Nat} {g : Tg} {c : Fr → Out Bool} {e : Ev1} {ρ0 ρ : Fr} {d : D} : turnF own g c e ρ0 d ρ = match asgT g d (ρ.wipe own) with
  | some ρ1 => (c ρ1).bind fun k ρ2 => if k then (e ρ2).bind fun r ρ3 => (match r.fz with | some x => .ok (some x) (ρ3.rest ρ0 own) | none => .stk) else .ok none (ρ2.rest ρ0 own)
  | none => .stk := rfl
theorem compL_map {α : Type} {b : D → Fr → Out (Option D)} {ρ : Fr} {inj : α → D} {o : α → Option D} : ∀ {xs : List α}, (∀ x ∈ xs, b (inj x) ρ = .ok (o x) ρ) → compL b (xs.map inj) ρ = .ok (xs.filterMap o) ρ
  | [], _ => rfl
  | d :: r, h => by
    rw [List.map_cons]
    unfold compL
    rw [h d (List.mem_cons_self ..)]
    show ((compL b (r.map inj) ρ).bind fun ds ρ2 => .ok (match o d with | some x => x :: ds | none => ds) ρ2) = _
    rw [compL_map fun x hx => h x (List.mem_cons_of_mem _ hx)]
    show Out.ok _ ρ = _
    cases e : o d with
    | none => rw [List.filterMap_cons_none e]
    | some x => rw [List.filterMap_cons_some e]
theorem compF_gen {α : Type} {own hd : List Nat} {g : Tg} {it : Fr → Out (List D)} {c : Fr → Out Bool} {e : Ev1} {ρ ρ0 : Fr} {ds : List D} (xs : List α) (inj : α → D) (o : α → Option D) (hi : it ρ = .ok ds ρ0) (hds : ds = xs.map inj) (hn : noOwn ρ0 own = true) (hw : (ρ0.wipe hd).rest ρ0 hd = ρ0) (hl : xs.length ≤ big)
    (h : ∀ x ∈ xs, turnF own g c e (ρ0.wipe hd) (inj x) (ρ0.wipe hd) = .ok (o x) (ρ0.wipe hd)) : compF own hd g it c e ρ = .ok (.l (xs.filterMap o)) ρ0 := by
  unfold compF
  rw [hi, hds]
  show (if noOwn ρ0 own && (xs.map inj).length ≤ big then _ else _) = _
  rw [if_pos (by rw [hn]; simpa using hl), compL_map h]
  show Out.ok _ ((ρ0.wipe hd).rest ρ0 hd) = _
  rw [hw]
/-- [f x for x in xs] -/
theorem compF_all {α : Type} {own hd : List Nat} {g : Tg} {it : Fr → Out (List D)} {c : Fr → Out Bool} {e : Ev1} {ρ : Fr} (xs : List α) (inj : α → D) (f : α → D) (hi : it ρ = .ok (xs.map inj) ρ) (hn : noOwn ρ own = true) (hw : (ρ.wipe hd).rest ρ hd = ρ) (hl : xs.length ≤ big)
    (h : ∀ x ∈ xs, turnF own g c e (ρ.wipe hd) (inj x) (ρ.wipe hd) = .ok (some (f x)) (ρ.wipe hd)) : compF own hd g it c e ρ = .ok (.l (xs.map f)) ρ := by
  rw [compF_gen xs inj (fun x => some (f x)) hi rfl hn hw hl h, List.filterMap_eq_map']
theorem filterMap_if {α β : Type} {p : α → Bool} {f : α → β} (xs : List α) : xs.filterMap (fun x => if p x then some (f x) else none) = (xs.filter p).map f := by
  induction xs with
  | nil => rfl
  | cons x r ih => cases hp : p x <;> simp [hp, List.filterMap_cons, ih]
/-- [f x for x in xs if p x] -/
theorem compF_if {α : Type} {own hd : List Nat} {g : Tg} {it : Fr → Out (List D)} {c : Fr → Out Bool} {e : Ev1} {ρ : Fr} (xs : List α) (inj : α → D) (p : α → Bool) (f : α → D) (hi : it ρ = .ok (xs.map inj) ρ) (hn : noOwn ρ own = true) (hw : (ρ.wipe hd).rest ρ hd = ρ) (hl : xs.length ≤ big)
    (h : ∀ x ∈ xs, turnF own g c e (ρ.wipe hd) (inj x) (ρ.wipe hd) = .ok (if p x then some (f x) else none) (ρ.wipe hd)) : compF own hd g it c e ρ = .ok (.l ((xs.filter p).map f)) ρ := by
  rw [compF_gen xs inj (fun x => if p x then some (f x) else none) hi rfl hn hw hl h]
  rw [filterMap_if]
theorem compL_inv {α : Type} {b : D → Fr → Out (Option D)} {inj : α → D} {I : List D → List α → Fr → Prop} (h : ∀ acc x rest ρ, I acc (x :: rest) ρ → ∃ o ρ1, b (inj x) ρ = .ok o ρ1 ∧ I (acc ++ o.toList) rest ρ1) : ∀ (xs : List α) (acc : List D) (ρ : Fr), I acc xs ρ → ∃ ds ρ1, compL b (xs.map inj) ρ = .ok ds ρ1 ∧ I (acc ++ ds) [] ρ1
  | [], acc, ρ, h0 => ⟨[], ρ, rfl, by simpa using h0⟩
  | x :: r, acc, ρ, h0 => by
    obtain ⟨o, ρ1, e1, h1⟩ := h _ _ _ _ h0
    obtain ⟨ds, ρ2, e2, h2⟩ := compL_inv h r _ _ h1
    refine ⟨o.toList ++ ds, ρ2, ?_, by simpa using h2⟩
    rw [List.map_cons]
    unfold compL
    rw [e1]
    show ((compL b (r.map inj) ρ1).bind fun ds ρ2 => .ok (match o with | some x => x :: ds | none => ds) ρ2) = _
    rw [e2]
    cases o <;> rfl
/-- a comprehension whose parts change the frame -/
theorem compF_inv {α : Type} {own : List Nat} {g : Tg} {it : Fr → Out (List D)} {c : Fr → Out Bool} {e : Ev1} {ρ ρ0 : Fr} {ds : List D} (xs : List α) (inj : α → D) (I : List D → List α → Fr → Prop) (hi : it ρ = .ok ds ρ0) (hds : ds = xs.map inj) (hn : noOwn ρ0 own = true) (hl : xs.length ≤ big) (h0 : I [] xs ρ0) (hio : ∀ acc ρ1, I acc [] ρ1 → ρ1.io = ρ0.io)
    (h : ∀ acc x rest ρ1, I acc (x :: rest) ρ1 → ∃ o ρ2, turnF own g c e ρ0 (inj x) ρ1 = .ok o ρ2 ∧ I (acc ++ o.toList) rest ρ2) : ∃ ds ρ1, compF own [] g it c e ρ = .ok (.l ds) ρ1 ∧ I ds [] ρ1 := by
  obtain ⟨ds', ρ1, e1, h1⟩ := compL_inv h xs [] ρ0 h0
  refine ⟨ds', ρ1, ?_, by simpa using h1⟩
  unfold compF
  rw [hi, hds]
  show (if noOwn ρ0 own && (xs.map inj).length ≤ big then _ else _) = _
  rw [if_pos (by rw [hn]; simpa using hl)]
  show ((noEx (compL (turnF own g c e ρ0) (xs.map inj) ρ0)).bind fun xs ρ1 => Out.ok (Rs.l xs) (ρ1.rest ρ0 [])) = _
  rw [e1]
  show Out.ok _ (Fr.mk ρ1.sl ρ0.io ρ1.up) = _
  rw [← hio _ _ h1]
theorem bools_map {α : Type} {f : α → Bool} : ∀ {l : List α}, boolsOf (l.map fun a => PyData.bool (f a)) = some (l.map f)
  | [] => rfl
  | a :: l => by
    show (boolsOf (l.map fun a => PyData.bool (f a))).map (f a :: ·) = _
    rw [bools_map]
    rfl
theorem ints_map {α : Type} {f : α → Int} : ∀ {l : List α}, intsOf (l.map fun a => PyData.int (f a)) = some (l.map f)
  | [] => rfl
  | a :: l => by
    show (intsOf (l.map fun a => PyData.int (f a))).map (f a :: ·) = _
    rw [ints_map]
    rfl
/-- all(..), any(..), kept from simp's own rules -/
def allB {α : Type} (l : List α) (f : α → Bool) : Bool := l.all f
def anyB {α : Type} (l : List α) (f : α → Bool) : Bool := l.any f
theorem allB_t {α : Type} {l : List α} {f : α → Bool} : allB l f = true ↔ ∀ x ∈ l, f x = true := List.all_eq_true
theorem allB_f {α : Type} {l : List α} {f : α → Bool} : allB l f = false ↔ ∃ x ∈ l, f x = false := by
  unfold allB
  simp
theorem anyB_t {α : Type} {l : List α} {f : α → Bool} : anyB l f = true ↔ ∃ x ∈ l, f x = true := List.any_eq_true
theorem anyB_f {α : Type} {l : List α} {f : α → Bool} : anyB l f = false ↔ ∀ x ∈ l, f x = false := by
  unfold anyB
  simp
@[simp] theorem b_all_map {α : Type} {l : List α} {f : α → Bool} : blt1 .all (.list (l.map fun a => .bool (f a))) = some (.v (.bool (allB l f))) := by
  rw [b_all, bools_map]
  simp [allB]
@[simp] theorem b_any_map {α : Type} {l : List α} {f : α → Bool} : blt1 .any (.list (l.map fun a => .bool (f a))) = some (.v (.bool (anyB l f))) := by
  rw [b_any, bools_map]
  simp [anyB]
@[simp] theorem b_sum_map {α : Type} {l : List α} {f : α → Int} : blt1 .sum (.list (l.map fun a => .int (f a))) = some (.v (.int (l.map f).sum)) := by
  rw [b_sum, ints_map]
  rfl
/-! loops -/
/-- what a turn of a loop must give: I on the way, Q behind; simp rewrites the outcome alone (the tag's type fixes I and Q) -/
structure Tag (I : Fr → Prop) (Q : OutS → Prop) : Type where
def StepOk (I : Fr → Prop) (Q : OutS → Prop) (t : Tag I Q) : OutS → Prop
  | .nx ρ => I ρ
  | .bk ρ => Q (.nx ρ)
  | .rt r ρ => Q (.rt r ρ)
  | .ex x ρ => Q (.ex x ρ)
  | .stk => False
theorem step_nx {I : Fr → Prop} {Q : OutS → Prop} {ρ : Fr} {t : Tag I Q} (h : I ρ) : StepOk I Q t (.nx ρ) := h
theorem step_bk {I : Fr → Prop} {Q : OutS → Prop} {ρ : Fr} {t : Tag I Q} (h : Q (.nx ρ)) : StepOk I Q t (.bk ρ) := h
theorem step_rt {I : Fr → Prop} {Q : OutS → Prop} {r : Rs} {ρ : Fr} {t : Tag I Q} (h : Q (.rt r ρ)) : StepOk I Q t (.rt r ρ) := h
theorem step_ex {I : Fr → Prop} {Q : OutS → Prop} {x : Exn} {ρ : Fr} {t : Tag I Q} (h : Q (.ex x ρ)) : StepOk I Q t (.ex x ρ) := h
theorem forL_inv {α : Type} {inj : α → D} {b : D → Fr → OutS} {Q : OutS → Prop} (I : List α → List α → Fr → Prop)
    (h : ∀ done x rest ρ, I done (x :: rest) ρ → StepOk (I (done ++ [x]) rest) Q ⟨⟩ (b (inj x) ρ))
    (hz : ∀ done ρ, I done [] ρ → Q (.nx ρ)) : ∀ (rest done : List α) (ρ : Fr), I done rest ρ → Q (forL b (rest.map inj) ρ)
  | [], done, ρ, h0 => hz _ _ h0
  | x :: r, done, ρ, h0 => by
    have h1 := h _ _ _ _ h0
    rw [List.map_cons, forL_cons]
    generalize b (inj x) ρ = o at h1
    cases o with
    | nx ρ1 => exact forL_inv I h hz r _ _ h1
    | bk ρ1 => exact h1
    | rt r ρ1 => exact h1
    | ex x ρ1 => exact h1
    | stk => exact h1.elim
end Pl
end
section
set_option Elab.async false
set_option linter.all false
set_option maxRecDepth 100000
namespace Pl
open Ev
open PySem PySem.W
/-! ### values as data -/
class Enc (α : Type) where
  enc : α → D
  eqv : ∀ a b, PyData.eqv (enc a) (enc b) = true ↔ a = b
  lay : ∀ a, (enc a).canLay0 = true
  dep : Nat
  hdep : ∀ a, (enc a).depth ≤ dep
  noLst : ∀ a, noLst (enc a) = true
  alike : ∀ a b, PySem.W.alike (enc a) (enc b) = true
  lt : α → α → Bool
  hlt : ∀ a b, dataLt (enc a) (enc b) = lt a b
open Enc (enc)
theorem noLsts_map {α : Type} [Enc α] : ∀ l : List α, noLsts (l.map enc) = true
  | [] => rfl
  | a :: l => by simp [noLsts, Enc.noLst, noLsts_map l]
theorem layAll_map {α : Type} [Enc α] : ∀ l : List α, PyData.canLayAll0 (l.map enc) = true
  | [] => by simp [PyData.canLayAll0]
  | a :: l => by simp [PyData.canLayAll0, Enc.lay, layAll_map l]
theorem depAll_map {α : Type} [Enc α] : ∀ l : List α, PyData.depthAll (l.map enc) ≤ Enc.dep α
  | [] => by simp [PyData.depthAll]
  | a :: l => by
    have h1 := Enc.hdep a
    have h2 := depAll_map l
    simp only [List.map_cons, PyData.depthAll]
    omega
theorem eqvAll_map {α : Type} [Enc α] : ∀ l m : List α, PyData.eqvAll (l.map enc) (m.map enc) = true ↔ l = m
  | [], [] => by simp [PyData.eqvAll]
  | [], _ :: _ => by simp [PyData.eqvAll]
  | _ :: _, [] => by simp [PyData.eqvAll]
  | a :: l, b :: m => by simp [PyData.eqvAll, Enc.eqv, eqvAll_map l m]
theorem alikeAll_map {α : Type} [Enc α] : ∀ l m : List α, alikeAll (l.map enc) (m.map enc) = true
  | [], _ => by simp [alikeAll]
  | _ :: _, [] => by simp [alikeAll]
  | a :: l, b :: m => by simp [alikeAll, Enc.alike, alikeAll_map l m]
instance : Enc Int where
  enc i := .int i
  lt a b := decide (a < b)
  hlt a b := dataLt_int a b
  eqv a b := by simp [PyData.eqv]
  lay a := by simp [PyData.canLay0]
  dep := 0
  hdep a := by simp [PyData.depth]
  noLst a := rfl
  alike a b := by simp [PySem.W.alike]
instance : Enc Nat where
  enc i := .int (i : Int)
  eqv a b := by simp [PyData.eqv]
  lt a b := decide (a < b)
  hlt a b := by rw [dataLt_int]; simp
  lay a := by simp [PyData.canLay0]
  dep := 0
  hdep a := by simp [PyData.depth]
  noLst a := rfl
  alike a b := by simp [PySem.W.alike]
instance : Enc Bool where
  enc i := .bool i
  lt a b := !a && b
  hlt a b := by cases a <;> cases b <;> rfl
  eqv a b := by simp [PyData.eqv]
  lay a := by simp [PyData.canLay0]
  dep := 0
  hdep a := by simp [PyData.depth]
  noLst a := rfl
  alike a b := by simp [PySem.W.alike]
instance {α β : Type} [Enc α] [Enc β] : Enc (α × β) where
  enc p := .tuple [enc p.1, enc p.2]
  lt a b := if PyData.eqv (enc a.1) (enc b.1) = true then (if PyData.eqv (enc a.2) (enc b.2) = true then false else Enc.lt a.2 b.2) else Enc.lt a.1 b.1
  hlt a b := by rw [dataLt_pair (Enc.alike _ _) (Enc.alike _ _), Enc.hlt, Enc.hlt]
  eqv a b := by
    simp only [PyData.eqv, PyData.eqvAll, Bool.and_eq_true, Enc.eqv, Bool.and_true]
    exact ⟨fun h => Prod.ext h.1 h.2, fun h => by rw [h]; simp⟩
  lay a := by simp [PyData.canLay0, PyData.canLayAll0, Enc.lay]
  dep := Enc.dep α + Enc.dep β + 1
  hdep a := by
    have h1 := Enc.hdep a.1
    have h2 := Enc.hdep a.2
    simp only [PyData.depth, PyData.depthAll]
    omega
  noLst a := by simp [noLst, noLsts, Enc.noLst]
  alike a b := by simp [PySem.W.alike, alikeAll, Enc.alike]
def ltL {α : Type} [Enc α] : List α → List α → Bool
  | [], [] => false
  | [], _ :: _ => true
  | _ :: _, [] => false
  | a :: l, b :: m => if PyData.eqv (enc a) (enc b) = true then ltL l m else Enc.lt a b
theorem ltL_map {α : Type} [Enc α] : ∀ l m : List α, rowLt (l.map enc) (m.map enc) = ltL l m
  | [], [] => by unfold rowLt; rfl
  | [], _ :: _ => rfl
  | _ :: _, [] => rfl
  | a :: l, b :: m => by
    rw [List.map_cons, List.map_cons]
    unfold rowLt
    rw [dataLt_cons (Enc.alike _ _)]
    have := ltL_map l m
    unfold rowLt at this
    rw [this, Enc.hlt]
    rfl
instance {α : Type} [Enc α] : Enc (List α) where
  lt := ltL
  hlt a b := by rw [dataLt_tuple]; exact ltL_map a b
  enc l := .tuple (l.map enc)
  eqv a b := by simp only [PyData.eqv, eqvAll_map]
  lay a := by simp only [PyData.canLay0, layAll_map]
  dep := Enc.dep α + 1
  hdep a := by
    have h1 := depAll_map a
    simp only [PyData.depth]
    omega
  noLst a := by simp only [noLst, noLsts_map]
  alike a b := by simp only [PySem.W.alike, alikeAll_map]
theorem enc_int (i : Int) : enc i = PyData.int i := rfl
theorem enc_nat (i : Nat) : enc i = PyData.int (i : Int) := rfl
theorem enc_bool (i : Bool) : enc i = PyData.bool i := rfl
theorem enc_pair {α β : Type} [Enc α] [Enc β] (p : α × β) : enc p = PyData.tuple [enc p.1, enc p.2] := rfl
theorem enc_list {α : Type} [Enc α] (l : List α) : enc l = PyData.tuple (l.map enc) := rfl
theorem noDic_enc {α : Type} [Enc α] (a : α) : (enc a).canLay0 = true := Enc.lay a
theorem eqv_enc {α : Type} [Enc α] [DecidableEq α] (a b : α) : PyData.eqv (enc a) (enc b) = decide (a = b) := by
  rw [Bool.eq_iff_iff, Enc.eqv, decide_eq_true_eq]
theorem shaped_enc {α : Type} [Enc α] (h : Enc.dep α ≤ 64) (a : α) : SeqAt.shaped (enc a) = true := by
  have := Enc.hdep a
  simp [SeqAt.shaped, Enc.lay]
  omega
theorem shaped_list {α : Type} [Enc α] (h : Enc.dep α ≤ 60) (l : List α) : SeqAt.shaped (.list (l.map enc)) = true := by
  have := depAll_map l
  simp [SeqAt.shaped, PyData.canLay0, layAll_map, PyData.depth]
  omega
theorem any_enc {α : Type} [Enc α] [DecidableEq α] (l : List α) (a : α) : ((l.map enc).any fun z => PyData.eqv z (enc a)) = decide (a ∈ l) := by
  induction l with
  | nil => simp
  | cons b l ih =>
    rw [List.map_cons, List.any_cons, ih, eqv_enc]
    by_cases h : b = a
    · simp [h]
    · have h' : ¬ a = b := fun e => h e.symm
      simp [h, h']
/-- a == b, a in l -/
theorem c_eq {α : Type} [Enc α] [DecidableEq α] (h : Enc.dep α ≤ 64) (a b : α) : cmpop .eq (enc a) (enc b) = some (decide (a = b)) := by
  show (if SeqAt.shaped (enc a) && SeqAt.shaped (enc b) then some (PyData.eqv (enc a) (enc b)) else none) = _
  rw [shaped_enc h, shaped_enc h, eqv_enc]
  rfl
theorem c_ne {α : Type} [Enc α] [DecidableEq α] (h : Enc.dep α ≤ 64) (a b : α) : cmpop .ne (enc a) (enc b) = some (!decide (a = b)) := by
  show (if SeqAt.shaped (enc a) && SeqAt.shaped (enc b) then some (!PyData.eqv (enc a) (enc b)) else none) = _
  rw [shaped_enc h, shaped_enc h, eqv_enc]
  rfl
theorem c_in {α : Type} [Enc α] [DecidableEq α] (h : Enc.dep α ≤ 60) (a : α) {d : D} {l : List α} (hd : itemsOf d = some (l.map enc)) : cmpop .isin (enc a) d = some (decide (a ∈ l)) := by
  show (match itemsOf d with
    | some ds => if SeqAt.shaped (enc a) && SeqAt.shaped (.list ds) then some (ds.any fun z => PyData.eqv z (enc a)) else none
    | none => none) = _
  rw [hd]
  show (if _ then _ else _) = _
  rw [shaped_enc (by omega), shaped_list h, any_enc]
  rfl
theorem c_nin {α : Type} [Enc α] [DecidableEq α] (h : Enc.dep α ≤ 60) (a : α) {d : D} {l : List α} (hd : itemsOf d = some (l.map enc)) : cmpop .notin (enc a) d = some (!decide (a ∈ l)) := by
  show (match itemsOf d with
    | some ds => if SeqAt.shaped (enc a) && SeqAt.shaped (.list ds) then some (!ds.any fun z => PyData.eqv z (enc a)) else none
    | none => none) = _
  rw [hd]
  show (if _ then _ else _) = _
  rw [shaped_enc (by omega), shaped_list h, any_enc]
  rfl
/-- lists -/
theorem c_eql {α : Type} [Enc α] [DecidableEq α] (h : Enc.dep α ≤ 60) (a b : List α) : cmpop .eq (.list (a.map enc)) (.list (b.map enc)) = some (decide (a = b)) := by
  show (if SeqAt.shaped _ && SeqAt.shaped _ then some (PyData.eqv _ _) else none) = _
  rw [shaped_list h, shaped_list h, show PyData.eqv (.list (a.map enc)) (.list (b.map enc)) = decide (a = b) from by rw [Bool.eq_iff_iff, PyData.eqv, eqvAll_map, decide_eq_true_eq]]
  rfl
theorem c_nel {α : Type} [Enc α] [DecidableEq α] (h : Enc.dep α ≤ 60) (a b : List α) : cmpop .ne (.list (a.map enc)) (.list (b.map enc)) = some (!decide (a = b)) := by
  show (if SeqAt.shaped _ && SeqAt.shaped _ then some (!PyData.eqv _ _) else none) = _
  rw [shaped_list h, shaped_list h, show PyData.eqv (.list (a.map enc)) (.list (b.map enc)) = decide (a = b) from by rw [Bool.eq_iff_iff, PyData.eqv, eqvAll_map, decide_eq_true_eq]]
  rfl
/-! ### sorted -/
theorem allAlike_map {α : Type} [Enc α] (l : List α) : allAlike (l.map enc) = true := by
  simp only [allAlike, List.all_eq_true, List.mem_map]
  rintro d ⟨a, _, rfl⟩ e ⟨b, _, rfl⟩
  exact Enc.alike a b
theorem merge_map {α β : Type} (f : α → β) (r : α → α → Bool) (s : β → β → Bool) (h : ∀ a b, s (f a) (f b) = r a b) (l : List α) : (l.map f).mergeSort s = (l.mergeSort r).map f := by
  rw [List.map_mergeSort (r := r) (s := s)]
  intro a _ b _
  exact (h a b).symm
theorem sortD_int (l : List Int) (hl : l.length ≤ big) : sortD (l.map .int) = some ((l.mergeSort (fun a b => decide (a ≤ b))).map .int) := by
  unfold sortD
  rw [if_pos (by
    have h1 := allAlike_map l
    have h2 := shaped_list (α := Int) (by decide) l
    have e : (l.map enc) = l.map PyData.int := rfl
    rw [e] at h1 h2
    rw [h1, h2]
    have h3 : Ev.sortable (l.map PyData.int) = true := by
      simp [Ev.sortable]
    rw [h3]
    simpa using hl)]
  rw [merge_map PyData.int (fun a b => decide (a ≤ b)) (dataLe false id) (fun a b => by
    show (!dataLt (.int b) (.int a)) = _
    rw [dataLt_int, not_lt_int])]
theorem sortable_map {α : Type} [Enc α] (l : List α) (h : (∀ a : α, ∃ x r, enc a = PyData.tuple (x :: r)) ∨ ∀ a : α, enc a ≠ PyData.none ∧ ∀ xs, enc a ≠ PyData.tuple xs) : Ev.sortable (l.map enc) = true := by
  unfold Ev.sortable
  rw [Bool.or_eq_true]
  cases h with
  | inl h =>
    left
    rw [List.all_eq_true]
    intro d hd
    obtain ⟨a, _, rfl⟩ := List.mem_map.mp hd
    obtain ⟨x, r, e⟩ := h a
    rw [e]
  | inr h =>
    right
    rw [List.all_eq_true]
    intro d hd
    obtain ⟨a, _, rfl⟩ := List.mem_map.mp hd
    have := h a
    revert this
    cases enc a <;> simp
theorem sortD_enc {α : Type} [Enc α] (hd : Enc.dep α ≤ 60) (l : List α) (hl : l.length ≤ big) (h : (∀ a : α, ∃ x r, enc a = PyData.tuple (x :: r)) ∨ ∀ a : α, enc a ≠ PyData.none ∧ ∀ xs, enc a ≠ PyData.tuple xs) : sortD (l.map enc) = some ((l.mergeSort (fun a b => !Enc.lt b a)).map enc) := by
  unfold sortD
  rw [if_pos (by rw [allAlike_map, sortable_map l h, shaped_list hd]; simpa using hl)]
  rw [merge_map enc (fun a b => !Enc.lt b a) (dataLe false id) (fun a b => by
    show (!dataLt (enc b) (enc a)) = _
    rw [Enc.hlt])]
theorem ltD_tup {α : Type} [Enc α] (hd : Enc.dep α ≤ 60) (a b : List α) : ltD (enc a) (enc b) = some (Enc.lt a b) := by
  show (if _ then _ else _) = _
  have h1 := shaped_enc (α := List α) (by show Enc.dep α + 1 ≤ 64; omega) a
  have h2 := shaped_enc (α := List α) (by show Enc.dep α + 1 ≤ 64; omega) b
  rw [if_pos (by
    rw [alikeAll_map]
    simp only [enc_list] at h1 h2
    rw [h1, h2]
    rfl)]
  exact congrArg some (Enc.hlt a b)
theorem ltD_pair {α β : Type} [Enc α] [Enc β] (hd : Enc.dep α + Enc.dep β ≤ 60) (a b : α × β) : ltD (enc a) (enc b) = some (Enc.lt a b) := by
  show (if _ then _ else _) = _
  have h1 := shaped_enc (α := α × β) (by show Enc.dep α + Enc.dep β + 1 ≤ 64; omega) a
  have h2 := shaped_enc (α := α × β) (by show Enc.dep α + Enc.dep β + 1 ≤ 64; omega) b
  rw [if_pos (by
    simp only [enc_pair] at h1 h2
    rw [h1, h2]
    simp [alikeAll, Enc.alike])]
  exact congrArg some (Enc.hlt a b)
theorem ltP_nat (a b c d : Nat) : Enc.lt (a, b) (c, d) = decide (a < c ∨ a = c ∧ b < d) := by
  show (if PyData.eqv (enc a) (enc c) = true then (if PyData.eqv (enc b) (enc d) = true then false else decide (b < d)) else decide (a < c)) = _
  rw [eqv_enc, eqv_enc]
  by_cases h : a = c
  · subst h
    by_cases h2 : b = d
    · subst h2
      simp
    · simp [h2]
  · simp [h]
end Pl
namespace Pl
open Ev
open PySem
theorem log2_le {n k : Nat} (h : n < 2 ^ k) (hk : 0 < k) : n.log2 < k := by
  by_cases h0 : n = 0
  · subst h0
    simpa using hk
  · exact (Nat.log2_lt h0).mpr h
theorem mulOk_of {i j : Int} (hi : i.natAbs < 2 ^ 200) (hj : j.natAbs < 2 ^ 200) : mulOk i j = true := by
  have h1 := log2_le hi (by decide)
  have h2 := log2_le hj (by decide)
  simp [mulOk]
  omega
theorem mulOk_s {i j : Int} (hi : i.natAbs < 2 ^ 64) (hj : j.natAbs < 2 ^ 64) : mulOk i j = true :=
  mulOk_of (Nat.lt_of_lt_of_le hi (Nat.pow_le_pow_right (by decide) (by decide))) (Nat.lt_of_lt_of_le hj (Nat.pow_le_pow_right (by decide) (by decide)))
theorem divOk_nat {m : Nat} (h0 : 0 < m) (h : m < 2 ^ 64) : divOk (m : Int) = true := by
  have h1 := log2_le h (by decide)
  simp [divOk]
  omega
end Pl
namespace Pl
open Ev PySem PySem.W
open Enc (enc)
theorem i_range {O : Orc} {ρ : Fr} {i N : Nat} (hN : N ≤ 1000000) (h : ρ.get i = .v (.int (N : Int))) : evI O (.rng1 (.var i)) ρ = .ok ((List.range N).map enc) ρ := by
  have hr := rngOk_nat hN
  rw [i_rng1, e_var, h]
  show (if rngOk (N : Int) then Out.ok (rangeD 0 (N : Int)) ρ else .stk) = _
  rw [if_pos hr]
  exact congrArg (Out.ok · ρ) rangeD0
theorem rangeD_enc {n : Nat} : rangeD 0 (n : Int) = (List.range n).map enc := rangeD0
theorem c_eq_ints {a b : List Int} : cmpop .eq (.list (a.map .int)) (.list (b.map .int)) = some (decide (a = b)) := c_eql (α := Int) (by decide) a b
theorem map_enc_int (l : List Nat) : l.map (enc : Nat → D) = (l.map Int.ofNat).map PyData.int := by
  rw [List.map_map]
  rfl
theorem intsOf_map (l : List Int) : intsOf (l.map PyData.int) = some l := by
  have := ints_map (f := id) (l := l)
  simpa using this
theorem intsOf_some : ∀ {xs : List D} {l : List Int}, intsOf xs = some l → xs = l.map PyData.int
  | [], l, h => by cases h; rfl
  | x :: r, l, h => by
    cases x with
    | int i =>
      have h : (intsOf r).map (i :: ·) = some l := h
      cases h2 : intsOf r with
      | none => rw [h2] at h; cases h
      | some l' =>
        rw [h2] at h
        cases h
        rw [intsOf_some h2]
        rfl
    | _ => cases h
/-- neighbours rise: all do -/
theorem zip_pw {α : Type} {r : α → α → Prop} (ht : ∀ a b c, r a b → r b c → r a c) : ∀ {xs : List α}, (∀ p ∈ xs.zip xs.tail, r p.1 p.2) ↔ xs.Pairwise r
  | [] => by simp
  | [a] => by simp
  | a :: b :: l => by
    have ih := zip_pw ht (xs := b :: l)
    simp only [List.tail_cons, List.zip_cons_cons, List.mem_cons, forall_eq_or_imp] at ih ⊢
    rw [List.pairwise_cons]
    constructor
    · rintro ⟨h1, h2⟩
      have h3 := ih.mp h2
      refine ⟨fun x hx => ?_, h3⟩
      cases List.mem_cons.mp hx with
      | inl e => rw [e]; exact h1
      | inr h => exact ht _ _ _ h1 ((List.pairwise_cons.mp h3).1 x h)
    · rintro ⟨h1, h2⟩
      exact ⟨h1 b (by simp), ih.mpr h2⟩
theorem zip_tail_map {α β : Type} (f : α → β) (l : List α) : (l.map f).zip (l.map f).tail = (l.zip l.tail).map fun p => (f p.1, f p.2) := by
  rw [← List.map_tail, List.zip_map]
  rfl
theorem mergeSort_perm_iff (l : List Int) (n : Nat) : l.mergeSort (fun a b => decide (a ≤ b)) = (List.range n).map Int.ofNat ↔ l.Perm ((List.range n).map Int.ofNat) := by
  constructor
  · intro h
    rw [← h]
    exact (List.mergeSort_perm l _).symm
  · intro h
    have s1 : (l.mergeSort (fun a b => decide (a ≤ b))).Pairwise (fun a b => a ≤ b) := by
      have := List.pairwise_mergeSort (le := fun a b : Int => decide (a ≤ b)) (by intro a b c; simp; omega) (by intro a b; simp; omega) l
      simpa using this
    have s2 : ((List.range n).map Int.ofNat).Pairwise (fun a b => a ≤ b) := by
      rw [List.pairwise_map]
      exact List.pairwise_lt_range.imp (by intro a b h; simp; omega)
    exact List.Perm.eq_of_pairwise (le := (· ≤ ·)) (by intro a b _ _ h1 h2; omega) s1 s2 ((List.mergeSort_perm l _).trans h)
theorem perm_ofNat {l m : List Nat} : (l.map Int.ofNat).Perm (m.map Int.ofNat) ↔ l.Perm m := by
  constructor
  · intro h
    have := h.map Int.toNat
    simpa [List.map_map, Function.comp_def] using this
  · exact fun h => h.map _
end Pl
end
section
set_option Elab.async false
set_option linter.all false
set_option maxRecDepth 100000
namespace K62
open PySem Ev Pl
/-- the hand: at most N draws so far -/
def Hd (N : Nat) (h : List D) : Prop := ∃ (cells : List Int) (at_ bg tn : Nat), h = [.list (cells.map .int), .int at_, .int bg, .int tn] ∧ tn ≤ N
theorem Hd.mono {N M : Nat} {h : List D} (H : Hd N h) (l : N ≤ M) : Hd M h := by
  obtain ⟨c, a, b, t, e, ht⟩ := H
  exact ⟨c, a, b, t, e, by omega⟩
theorem mixed_ok (F n : Nat) (c : Int) (t : Nat) (ht : t ≤ 2 ^ 40) : ∃ r : Nat, (orc prog F (n + 1)).call 17 [.v (.int c), .v (.int t)] none = .ok (.v (.int r)) .no [] := by
  have m0 : 0 ≤ c % 2147483647 ∧ c % 2147483647 < 2147483647 := ⟨Int.emod_nonneg _ (by decide), Int.emod_lt_of_pos _ (by decide)⟩
  have h1 : mulOk 7919 (t : Int) = true := mulOk_s (by decide) (by simp; omega)
  have h2 : mulOk (c % 2147483647 + 7919 * t + 1) 48271 = true := mulOk_s (by omega) (by decide)
  have b1 : ∀ z : Int, 0 ≤ z % 2147483647 ∧ z % 2147483647 < 2147483647 := fun z => ⟨Int.emod_nonneg _ (by decide), Int.emod_lt_of_pos _ (by decide)⟩
  have b2 : ∀ z : Int, 0 ≤ z % 2147483399 ∧ z % 2147483399 < 2147483399 := fun z => ⟨Int.emod_nonneg _ (by decide), Int.emod_lt_of_pos _ (by decide)⟩
  have h3 : ∀ x : Int, mulOk (x % 2147483647) (x % 2147483647 / 1009 + 69621) = true := fun x => by
    have := b1 x
    exact mulOk_s (by omega) (by omega)
  have h4 : ∀ x : Int, mulOk (x % 2147483647) (x % 2147483647 / 2003 + 40692) = true := fun x => by
    have := b1 x
    exact mulOk_s (by omega) (by omega)
  have d1 : divOk 1009 = true := by decide
  have d2 : divOk 2003 = true := by decide
  have d3 : divOk 16 = true := by decide
  have e := callN (P := prog) (F := F) (n := n) (i := 17) (as := [.v (.int c), .v (.int t)]) rfl rfl
  simp [b__law_mixed, h1, h2, h3, h4, d1, d2, d3] at e
  generalize hz : (_ : Int) / 16 = z at e
  have := b2 (((c % 2147483647 + 7919 * ↑t + 1) * 48271 % 2147483647 * ((c % 2147483647 + 7919 * ↑t + 1) * 48271 % 2147483647 / 1009 + 69621) % 2147483647 * ((c % 2147483647 + 7919 * ↑t + 1) * 48271 % 2147483647 * ((c % 2147483647 + 7919 * ↑t + 1) * 48271 % 2147483647 / 1009 + 69621) % 2147483647 / 2003 + 40692)))
  have hz0 : 0 ≤ z := by omega
  exact ⟨z.toNat, by rw [e, Int.toNat_of_nonneg hz0]⟩
theorem mod_nat {z : Int} {m : Nat} (hm : 0 < m) : ∃ r : Nat, z % (m : Int) = r ∧ r < m := by
  have h1 := Int.emod_nonneg z (b := (m : Int)) (by omega)
  have h2 := Int.emod_lt_of_pos z (b := (m : Int)) (by omega)
  exact ⟨(z % (m : Int)).toNat, by omega, by omega⟩
theorem draw_ok (F n N : Nat) {h : List D} (H : Hd N h) (hN : N < 2 ^ 40) (m : Nat) (hm : 0 < m) (hm2 : m < 2 ^ 64) : ∃ r h', (orc prog F (n + 2)).call 18 [.ol h, .v (.int (m : Int))] none = .ok (.v (.int (r : Nat))) (.ol h') [] ∧ Hd (N + 1) h' ∧ r < m := by
  obtain ⟨cells, at_, bg, tn, rfl, ht⟩ := H
  have e := callN (P := prog) (F := F) (n := n + 1) (i := 18) (as := [.ol [.list (cells.map .int), .int at_, .int bg, .int tn], .v (.int (m : Int))]) rfl rfl
  have i3 : ixOf 4 3 = some 3 := by decide
  have i2 : ixOf 4 2 = some 2 := by decide
  have i1 : ixOf 4 1 = some 1 := by decide
  have dm : divOk (m : Int) = true := divOk_nat hm hm2
  have hm' : (0 : Int) < m := by omega
  obtain ⟨z0, ez⟩ := mixed_ok F n 0 (tn + 1) (by omega)
  have ez : (orc prog F (n + 1)).call 17 [.v (.int 0), .v (.int ((tn : Int) + 1))] none = .ok (.v (.int z0)) .no [] := by simpa using ez
  by_cases hb : 0 < bg
  · simp [b__law_draw, i3, i2, hb, dm, hm] at e
    obtain ⟨r, er, hr⟩ := mod_nat (z := (bg : Int)) hm
    rw [er] at e
    exact ⟨r, _, e, ⟨cells, at_, bg / m, tn + 1, by simp, by omega⟩, hr⟩
  · have hb0 : bg = 0 := by omega
    subst hb0
    by_cases hc : cells = []
    · subst hc
      simp [b__law_draw, i3, i2, i1, dm, hm, ez] at e
      obtain ⟨r, er, hr⟩ := mod_nat (z := (z0 : Int)) hm
      rw [er] at e
      exact ⟨r, _, e, ⟨[], at_ + 1, 0, tn + 1, by simp, by omega⟩, hr⟩
    · have hl : 0 < cells.length := List.length_pos_iff.mpr hc
      obtain ⟨j, ej, hj⟩ := mod_nat (z := (at_ : Int)) hl
      have gj : (L2.atI (cells.map PyData.int) (j : Int)) = some (.int cells[j]) := by
        rw [atI_nat (by simpa using hj)]
        simp
      obtain ⟨z1, ey⟩ := mixed_ok F n cells[j] (tn + 1) (by omega)
      have ey : (orc prog F (n + 1)).call 17 [.v (.int cells[j]), .v (.int ((tn : Int) + 1))] none = .ok (.v (.int z1)) .no [] := by simpa using ey
      have pw : binop .pow (.int 10) (.int 18) = some (.v (.int 1000000000000000000)) := by rfl
      simp [b__law_draw, i3, i2, i1, dm, hm, hc, hl, ej, gj, pw, ey] at e
      by_cases ha : at_ < cells.length
      · by_cases hg : (1000000000000000000 : Int) ≤ (if cells[j] < 0 then -cells[j] else cells[j])
        · simp [ha, hg, hm, dm, i2] at e
          obtain ⟨r, er, hr⟩ := mod_nat (z := (if cells[j] < 0 then -cells[j] else cells[j])) hm
          rw [er] at e
          refine ⟨r, _, e, ⟨cells, at_ + 1, ((if cells[j] < 0 then -cells[j] else cells[j]) / (m : Int)).toNat, tn + 1, ?_, by omega⟩, hr⟩
          have : 0 ≤ (if cells[j] < 0 then -cells[j] else cells[j]) / (m : Int) := Int.ediv_nonneg (by omega) (by omega)
          simp
          omega
        · simp [ha, hg, hm, dm, i2, ey] at e
          obtain ⟨r, er, hr⟩ := mod_nat (z := (z1 : Int)) hm
          rw [er] at e
          exact ⟨r, _, e, ⟨cells, at_ + 1, 0, tn + 1, by simp, by omega⟩, hr⟩
      · simp [ha, hm, dm, i2, ey] at e
        obtain ⟨r, er, hr⟩ := mod_nat (z := (z1 : Int)) hm
        rw [er] at e
        exact ⟨r, _, e, ⟨cells, at_ + 1, 0, tn + 1, by simp, by omega⟩, hr⟩
theorem any_ok (F n N : Nat) {h : List D} (H : Hd N h) (hN : N < 2 ^ 40) (xs : List D) (hx : 0 < xs.length) (hx2 : xs.length < 2 ^ 64) : ∃ r h', ∃ hr : r < xs.length, (orc prog F (n + 3)).call 19 [.ol h, .v (.list xs)] none = .ok (.v xs[r]) (.ol h') [] ∧ Hd (N + 1) h' := by
  obtain ⟨r, h', ed, H', hr⟩ := draw_ok F n N H hN xs.length hx hx2
  have e := callN (P := prog) (F := F) (n := n + 2) (i := 19) (as := [.ol h, .v (.list xs)]) rfl rfl
  simp [b__law_any, ed, atI_nat hr] at e
  exact ⟨r, h', hr, e, H'⟩
theorem hand_ok (F n : Nat) (ns : List Int) (hl : ns.length ≤ 63) : ∃ h, (orc prog F (n + 1)).call 16 [.v (scrD ns)] none = .ok (.l h) .no [] ∧ Hd 0 h := by
  have e := callN (P := prog) (F := F) (n := n) (i := 16) (as := [.v (scrD ns)]) rfl rfl
  simp [b__law_hand] at e
  rw [compF_all (ns.take 63) PyData.int PyData.int] at e
  rotate_left
  · simp [scrD, slice, cutD, sBound]
  · rfl
  · rfl
  · simp [bigN]; omega
  · intro x hx
    simp [turnF_d]
  · simp [bigN] at e
    exact ⟨_, e, ns.take 63, 0, 0, 0, by simp, by omega⟩
end K62
end
section
set_option Elab.async false
set_option linter.all false
set_option maxRecDepth 100000
namespace K62
open PySem Ev Pl
open Enc (enc)
def noDic : D → Bool
  | .dict _ => false
  | _ => true
@[simp] theorem noDic_int {i : Int} : noDic (.int i) = true := id rfl
@[simp] theorem noDic_bool {i : Bool} : noDic (.bool i) = true := id rfl
@[simp] theorem noDic_str {i : Str} : noDic (.str i) = true := id rfl
@[simp] theorem noDic_none : noDic .none = true := id rfl
@[simp] theorem noDic_tup {i : List D} : noDic (.tuple i) = true := id rfl
@[simp] theorem noDic_lst {i : List D} : noDic (.list i) = true := id rfl
@[simp] theorem noDic_enc {α : Type} [Enc α] (a : α) : noDic (enc a) = true := by
  have := Enc.lay a
  cases h : enc a <;> first | rfl | (rw [h] at this; simp [PyData.canLay0] at this)
def isIntD : D → Bool
  | .int _ => true
  | _ => false
@[simp] theorem isIntD_int {i : Int} : isIntD (.int i) = true := id rfl
@[simp] theorem isIntD_bool {i : Bool} : isIntD (.bool i) = false := id rfl
@[simp] theorem isIntD_str {i : Str} : isIntD (.str i) = false := id rfl
@[simp] theorem isIntD_none : isIntD .none = false := id rfl
@[simp] theorem isIntD_tup {i : List D} : isIntD (.tuple i) = false := id rfl
@[simp] theorem isIntD_lst {i : List D} : isIntD (.list i) = false := id rfl
theorem c_is_integer (F n : Nat) (d : D) (h : noDic d = true) : (orc prog F (n + 1)).call 0 [.v d] none = .ok (.v (.bool (isIntD d))) .no [] := by
  cases d <;> first | rfl | cases h
def within (d : D) (lo hi : Int) : Bool := match d with
  | .int i => decide (lo ≤ i) && decide (i ≤ hi)
  | _ => false
@[simp] theorem within_int {i lo hi : Int} : within (.int i) lo hi = (decide (lo ≤ i) && decide (i ≤ hi)) := id rfl
@[simp] theorem within_bool {i : Bool} {lo hi : Int} : within (.bool i) lo hi = false := id rfl
@[simp] theorem within_str {i : Str} {lo hi : Int} : within (.str i) lo hi = false := id rfl
@[simp] theorem within_none {lo hi : Int} : within .none lo hi = false := id rfl
@[simp] theorem within_tup {i : List D} {lo hi : Int} : within (.tuple i) lo hi = false := id rfl
@[simp] theorem within_lst {i : List D} {lo hi : Int} : within (.list i) lo hi = false := id rfl
theorem c_is_within (F n : Nat) (d : D) (lo hi : Int) (hd : noDic d = true) : (orc prog F (n + 2)).call 1 [.v d, .v (.int lo), .v (.int hi)] none = .ok (.v (.bool (within d lo hi))) .no [] := by
  rw [callN rfl rfl]
  cases d with
  | dict _ => cases hd
  | int i =>
    simp [b_is_within, c_is_integer]
    by_cases h : lo ≤ i <;> simp [h]
  | _ => simp [b_is_within, c_is_integer]
def sized (d : D) (lo hi : Int) : Bool := match d with
  | .tuple xs => decide (lo ≤ xs.length) && decide ((xs.length : Int) ≤ hi)
  | _ => false
@[simp] theorem sized_int {i lo hi : Int} : sized (.int i) lo hi = false := id rfl
@[simp] theorem sized_bool {i : Bool} {lo hi : Int} : sized (.bool i) lo hi = false := id rfl
@[simp] theorem sized_str {i : Str} {lo hi : Int} : sized (.str i) lo hi = false := id rfl
@[simp] theorem sized_none {lo hi : Int} : sized .none lo hi = false := id rfl
@[simp] theorem sized_tup {i : List D} {lo hi : Int} : sized (.tuple i) lo hi = (decide (lo ≤ i.length) && decide ((i.length : Int) ≤ hi)) := id rfl
@[simp] theorem sized_lst {i : List D} {lo hi : Int} : sized (.list i) lo hi = false := id rfl
theorem c_is_sized (F n : Nat) (d : D) (lo hi : Int) (hd : noDic d = true) : (orc prog F (n + 1)).call 2 [.v d, .v (.int lo), .v (.int hi)] none = .ok (.v (.bool (sized d lo hi))) .no [] := by
  rw [callN rfl rfl]
  cases d <;> first | (cases hd; done) | skip
  all_goals simp [b_is_sized]
  rename_i xs
  by_cases h : lo ≤ (xs.length : Int) <;> simp [h]
end K62
end
section
set_option Elab.async false
set_option linter.all false
set_option maxRecDepth 100000
namespace K62
open PySem Ev Pl
open Enc (enc)
theorem c_are_rising (F n : Nat) (xs : List D) (hl : xs.length ≤ big) (lt : D → D → Bool) (h : ∀ p ∈ xs.zip xs.tail, ltD p.1 p.2 = some (lt p.1 p.2)) :
    (orc prog F (n + 1)).call 3 [.v (.tuple xs)] none = .ok (.v (.bool (allB (xs.zip xs.tail) fun p => lt p.1 p.2))) .no [] := by
  rw [callN rfl rfl]
  simp [b_are_rising]
  rw [compF_all (xs.zip xs.tail) (fun p => .tuple [p.1, p.2]) (fun p => .bool (lt p.1 p.2))]
  · simp
  · simp [cut_tail]
  · rfl
  · rfl
  · simp
    omega
  · intro p hp
    have := h p hp
    simp [turnF_d, cmpop, this]
def ltI (x y : D) : Bool := match x, y with
  | .int i, .int j => decide (i < j)
  | _, _ => false
def isLotD (d : D) (m : Int) : Bool := match d with
  | .tuple xs => (allB xs fun x => within x 0 (m - 1)) && (allB (xs.zip xs.tail) fun p => ltI p.1 p.2)
  | _ => false
theorem within_is {x : D} {lo hi : Int} (h : within x lo hi = true) : ∃ i, x = .int i ∧ lo ≤ i ∧ i ≤ hi := by
  cases x <;> first | (cases h; done) | skip
  rename_i i
  have h : (decide (lo ≤ i) && decide (i ≤ hi)) = true := h
  rw [Bool.and_eq_true, decide_eq_true_eq, decide_eq_true_eq] at h
  exact ⟨i, rfl, h⟩
def okD (d : D) : Bool := match d with
  | .tuple xs => decide (xs.length ≤ big) && xs.all noDic
  | .list xs => decide (xs.length ≤ big) && xs.all noDic
  | .dict _ => false
  | _ => true
theorem okD_dic {d : D} (h : okD d = true) : noDic d = true := by cases d <;> first | rfl | cases h
theorem c_is_lot (F n : Nat) (d : D) (m : Int) (hd : okD d = true) : (orc prog F (n + 3)).call 4 [.v d, .v (.int m)] none = .ok (.v (.bool (isLotD d m))) .no [] := by
  rw [callN rfl rfl]
  cases d with
  | dict _ => cases hd
  | tuple xs =>
    have hd : (decide (xs.length ≤ big) && xs.all noDic) = true := hd
    rw [Bool.and_eq_true, decide_eq_true_eq, List.all_eq_true] at hd
    obtain ⟨h1, h2⟩ := hd
    simp [b_is_lot]
    rw [compF_all xs id (fun x => .bool (within x 0 (m - 1)))]
    · cases ha : allB xs fun x => within x 0 (m - 1) with
      | true =>
        have ha' := allB_t.mp ha
        simp [ha, isLotD, c_are_rising F (n + 1) xs h1 ltI (fun p hp => by
          have q := List.of_mem_zip (a := p.1) (b := p.2) hp
          obtain ⟨i, ei, _⟩ := within_is (ha' _ q.1)
          obtain ⟨j, ej, _⟩ := within_is (ha' _ (List.mem_of_mem_tail q.2))
          rw [ei, ej]
          rfl)]
      | false => simp [ha, isLotD]
    · simp
    · rfl
    · rfl
    · exact h1
    · intro x hx
      simp [turnF_d, c_is_within, h2 x hx]
  | _ => simp [b_is_lot, isLotD]
end K62
end
section
set_option Elab.async false
set_option linter.all false
set_option maxRecDepth 100000
namespace K62
open PySem Ev Pl
open Enc (enc)
def okD' (d : D) : Bool := match d with
  | .tuple xs => decide (xs.length ≤ big) && xs.all noDic
  | .list xs => decide (xs.length ≤ big) && xs.all noDic
  | .dict _ => false
  | _ => true
def isOrderD (d : D) (m : Nat) : Bool := match d with
  | .tuple xs => match intsOf xs with
    | some l => decide (l.length = m) && decide (l.mergeSort (fun a b => decide (a ≤ b)) = (List.range m).map Int.ofNat)
    | none => false
  | _ => false
theorem ints_all : ∀ {xs : List D}, (∀ x ∈ xs, isIntD x = true) → ∃ l, intsOf xs = some l
  | [], _ => ⟨[], rfl⟩
  | x :: r, h => by
    obtain ⟨l, e⟩ := ints_all (xs := r) fun y hy => h y (List.mem_cons_of_mem _ hy)
    have h1 := h x (List.mem_cons_self ..)
    cases x <;> first | (cases h1; done) | skip
    rename_i i
    exact ⟨i :: l, by show (intsOf r).map _ = _; rw [e]; rfl⟩
theorem ints_none : ∀ {xs : List D} {x : D}, x ∈ xs → isIntD x = false → intsOf xs = none
  | y :: r, x, h, e => by
    cases List.mem_cons.mp h with
    | inl q =>
      subst q
      cases x <;> first | rfl | cases e
    | inr q =>
      cases y <;> first | rfl | skip
      show (intsOf r).map _ = _
      rw [ints_none q e]
      rfl
theorem c_is_order (F n : Nat) (d : D) (m : Nat) (hm : m ≤ 1000000) (hd : okD' d = true) : (orc prog F (n + 2)).call 5 [.v d, .v (.int (m : Int))] none = .ok (.v (.bool (isOrderD d m))) .no [] := by
  rw [callN rfl rfl]
  cases d with
  | dict _ => cases hd
  | tuple xs =>
    have hd : (decide (xs.length ≤ big) && xs.all noDic) = true := hd
    rw [Bool.and_eq_true, decide_eq_true_eq, List.all_eq_true] at hd
    obtain ⟨h1, h2⟩ := hd
    simp [b_is_order, c_is_sized]
    by_cases hl : xs.length = m
    · have e1 : ((m : Int) ≤ xs.length) = True := by simp; omega
      have e2 : ((xs.length : Int) ≤ m) = True := by simp; omega
      simp [hl]
      rw [compF_all xs id (fun x => .bool (isIntD x))]
      · simp
        cases ha : allB xs isIntD with
        | true =>
          obtain ⟨l, el⟩ := ints_all (allB_t.mp ha)
          have ex := intsOf_some el
          have hll : l.length = m := by rw [ex] at hl; simpa using hl
          have r1 : rngOk (m : Int) = true := rngOk_nat hm
          have es := sortD_int l (by rw [ex] at h1; simpa using h1)
          simp [ha, ex, es, r1, rangeD_enc, map_enc_int, c_eq_ints, isOrderD, intsOf_map, hll, -List.map_map]
        | false =>
          obtain ⟨x, hx, e⟩ := allB_f.mp ha
          simp [ha, isOrderD, ints_none hx e]
      · simp
      · rfl
      · rfl
      · exact h1
      · intro x hx
        simp [turnF_d, c_is_integer, h2 x hx]
    · have e1 : ((m : Int) ≤ xs.length ∧ (xs.length : Int) ≤ m) = False := by simp; omega
      have e2 : isOrderD (.tuple xs) m = false := by
        show (match intsOf xs with
          | some l => decide (l.length = m) && decide (l.mergeSort (fun a b => decide (a ≤ b)) = (List.range m).map Int.ofNat)
          | none => false) = false
        cases h : intsOf xs with
        | none => rfl
        | some l =>
          have : l.length ≠ m := by
            rw [intsOf_some h] at hl
            simpa using hl
          simp [this]
      simp [e2]
      rw [if_pos (by omega)]
      rfl
  | _ => simp [b_is_order, c_is_sized, isOrderD]
theorem isOrder_enc (l : List Nat) (m : Nat) : isOrderD (enc l) m = true ↔ l.Perm (List.range m) := by
  show (match intsOf (l.map enc) with
    | some l => decide (l.length = m) && decide (l.mergeSort (fun a b => decide (a ≤ b)) = (List.range m).map Int.ofNat)
    | none => false) = true ↔ _
  rw [map_enc_int, intsOf_map]
  show (_ && _) = true ↔ _
  rw [Bool.and_eq_true, decide_eq_true_eq, decide_eq_true_eq, mergeSort_perm_iff, perm_ofNat]
  constructor
  · exact fun h => h.2
  · exact fun h => ⟨by simpa using h.length_eq, h⟩
end K62
end
section
set_option Elab.async false
set_option linter.all false
set_option maxRecDepth 100000
namespace K62
open PySem Ev Pl
open Enc (enc)
/-! _law_orders -/
def ordStep (m : Nat) (L : List (List Nat)) : List (List Nat) := L.flatMap fun row => ((List.range m).filter fun x => !decide (x ∈ row)).map fun x => row ++ [x]
def ordN (m : Nat) : Nat → List (List Nat)
  | 0 => [[]]
  | k + 1 => ordStep m (ordN m k)
theorem mem_ordN {m k : Nat} {o : List Nat} : o ∈ ordN m k ↔ o.length = k ∧ o.Nodup ∧ ∀ x ∈ o, x < m := by
  induction k generalizing o with
  | zero =>
    simp only [ordN, List.mem_singleton]
    constructor
    · rintro rfl
      simp
    · intro h
      exact List.eq_nil_of_length_eq_zero h.1
  | succ k ih =>
    simp only [ordN, ordStep, List.mem_flatMap, List.mem_map, List.mem_filter, List.mem_range, Bool.not_eq_true', decide_eq_false_iff_not]
    constructor
    · rintro ⟨row, hr, x, ⟨hx, hn⟩, rfl⟩
      obtain ⟨h1, h2, h3⟩ := ih.mp hr
      refine ⟨by simp [h1], ?_, ?_⟩
      · rw [List.nodup_append]
        refine ⟨h2, by simp, ?_⟩
        intro a ha b hb
        simp at hb
        subst hb
        intro e
        subst e
        exact hn ha
      · intro y hy
        simp at hy
        cases hy with
        | inl h => exact h3 y h
        | inr h => omega
    · rintro ⟨h1, h2, h3⟩
      have hne : o ≠ [] := by
        intro e
        subst e
        simp at h1
      refine ⟨o.dropLast, ih.mpr ⟨by simp; omega, ?_, ?_⟩, o.getLast hne, ⟨h3 _ (List.getLast_mem hne), ?_⟩, List.dropLast_concat_getLast hne⟩
      · exact h2.sublist (List.dropLast_sublist o)
      · intro x hx
        exact h3 x ((List.dropLast_sublist o).subset hx)
      · intro hmem
        rw [← List.dropLast_concat_getLast hne, List.nodup_append] at h2
        exact h2.2.2 _ hmem _ (by simp) rfl
theorem ordStep_len (m : Nat) (L : List (List Nat)) : (ordStep m L).length ≤ L.length * m := by
  induction L with
  | nil => simp [ordStep]
  | cons r L ih =>
    unfold ordStep at ih ⊢
    rw [List.flatMap_cons, List.length_append, List.length_map, List.length_cons, Nat.succ_mul]
    have := List.length_filter_le (fun x => !decide (x ∈ r)) (List.range m)
    simp only [List.length_range] at this
    omega
theorem ordN_len (m k : Nat) : (ordN m k).length ≤ m ^ k := by
  induction k with
  | zero => simp [ordN]
  | succ k ih =>
    have := ordStep_len m (ordN m k)
    have h2 := Nat.mul_le_mul_right m ih
    rw [Nat.pow_succ]
    exact Nat.le_trans this h2
theorem ordStep_app (m : Nat) (L : List (List Nat)) (r : List Nat) : ordStep m (L ++ [r]) = ordStep m L ++ ((List.range m).filter fun x => !decide (x ∈ r)).map fun x => r ++ [x] := by
  simp [ordStep]
theorem c_orders (F n m : Nat) (hm : m ≤ 6) : (orc prog F (n + 1)).call 21 [.v (.int (m : Int))] none = .ok (.v (.list ((ordN m m).map enc))) .no [] := by
  rw [callN rfl rfl]
  have hr : rngOk (m : Int) = true := rngOk_nat (by omega)
  have q1 : 1 ≤ big := by decide
  have q0 : 0 ≤ big := by decide
  simp [b__law_orders, hr, rangeD_enc, q1, q0]
  refine forL_inv (Q := fun o => endC (o.bind _) = _) (fun _ rest ρ => ∃ (k : Nat) (s2 s3 s4 : Sl), k + rest.length = m ∧ ρ = ⟨[.v (.int (m : Int)), .v (.list ((ordN m k).map enc)), s2, s3, s4, .no], false, none⟩) ?_ ?_ (List.range m) [] _ ⟨0, _, _, _, by simp, rfl⟩
  · rintro done x rest ρ ⟨k, s2, s3, s4, hk, rfl⟩
    have hk : k + (rest.length + 1) = m := by simpa using hk
    have hlen : (ordN m k).length * m ≤ 46656 := by
      have h1 := ordN_len m k
      have h2 : m ^ k * m ≤ 46656 := by
        have h3 : m ^ (k + 1) ≤ 6 ^ (k + 1) := Nat.pow_le_pow_left hm _
        have h4 : 6 ^ (k + 1) ≤ 6 ^ 6 := Nat.pow_le_pow_right (by decide) (by omega)
        rw [Nat.pow_succ] at h3
        exact Nat.le_trans h3 h4
      exact Nat.le_trans (Nat.mul_le_mul_right m h1) h2
    simp [q0]
    refine forL_inv (Q := fun o => StepOk _ _ _ (o.bind _)) (fun dn rs ρ => ∃ (s4 : Sl), dn ++ rs = ordN m k ∧ ρ = ⟨[.v (.int (m : Int)), .v (.list ((ordN m k).map enc)), .v (enc x), .ol ((ordStep m dn).map enc), s4, .no], false, none⟩) ?_ ?_ (ordN m k) [] _ ⟨_, rfl, rfl⟩
    · rintro dn row rs ρ ⟨s4, hd, rfl⟩
      have hrow : row ∈ ordN m k := by rw [← hd]; simp
      have hrl := (mem_ordN.mp hrow).1
      have hk1 : row.length + 1 ≤ big := by simp [bigN]; omega
      simp [enc_list]
      rw [compF_if (List.range m) enc (fun x => !decide (x ∈ row)) (fun x => enc (row ++ [x]))]
      · have hb : (ordStep m dn).length + (List.filter (fun x => !decide (x ∈ row)) (List.range m)).length ≤ big := by
          have h1 := ordStep_len m (dn ++ [row])
          rw [ordStep_app] at h1
          have h2 : (dn ++ [row]).length ≤ (ordN m k).length := by rw [← hd]; simp
          have h3 := Nat.mul_le_mul_right m h2
          simp [bigN] at h1 h3 ⊢
          omega
        simp [hb]
        exact step_nx ⟨_, by rw [← hd]; simp, by rw [ordStep_app]; simp; rfl⟩
      · simp [hr, rangeD_enc]
      · rfl
      · rfl
      · simp [bigN]; omega
      · intro y hy
        have hin := c_nin (α := Nat) (by decide) y (d := .tuple (row.map enc)) rfl
        simp only [enc_nat] at hin
        by_cases hy2 : y ∈ row
        · simp [turnF_d, enc_nat, hin, hy2]
        · simp [turnF_d, enc_nat, hin, hy2, q1, hk1, enc_list]
    · rintro dn ρ ⟨s4, hd, rfl⟩
      simp only [List.append_nil] at hd
      simp
      exact step_nx ⟨k + 1, _, _, _, by omega, by rw [hd]; rfl⟩
  · rintro done ρ ⟨k, s2, s3, s4, hk, rfl⟩
    simp at hk
    subst hk
    simp
end K62
end
section
set_option Elab.async false
set_option linter.all false
set_option maxRecDepth 100000
namespace K62
open PySem Ev Pl
open Enc (enc)
/-! _law_lots -/
def lotsRaw : List Nat → List (List Nat) := fun xs => xs.foldl (fun L x => L ++ L.map fun l => l ++ [x]) [[]]
theorem lots_snoc (xs : List Nat) (x : Nat) : lotsRaw (xs ++ [x]) = lotsRaw xs ++ (lotsRaw xs).map fun l => l ++ [x] := by
  simp [lotsRaw, List.foldl_append]
theorem lots_len_aux (xs : List Nat) : ∀ L : List (List Nat), (xs.foldl (fun L x => L ++ L.map fun l => l ++ [x]) L).length = L.length * 2 ^ xs.length := by
  induction xs with
  | nil => simp
  | cons x xs ih =>
    intro L
    rw [List.foldl_cons, ih, List.length_append, List.length_map, List.length_cons, Nat.pow_succ]
    rw [← Nat.mul_two, Nat.mul_assoc, Nat.mul_comm 2]
theorem lots_len (xs : List Nat) : (lotsRaw xs).length = 2 ^ xs.length := by
  have := lots_len_aux xs [[]]
  simpa [lotsRaw] using this
theorem mem_lots_aux (r : List Nat) : ∀ (done : List Nat) (L : List (List Nat)), (∀ l, l ∈ L ↔ l.Sublist done) → ∀ l, l ∈ r.foldl (fun L x => L ++ L.map fun l => l ++ [x]) L ↔ l.Sublist (done ++ r) := by
  induction r with
  | nil =>
    intro done L h l
    simpa using h l
  | cons x r ih =>
    intro done L h l
    rw [List.foldl_cons, ih (done ++ [x])]
    · simp
    · intro l
      rw [List.mem_append, List.mem_map, h, List.sublist_append_iff]
      constructor
      · rintro (h1 | ⟨a, h1, rfl⟩)
        · exact ⟨l, [], by simp, h1, by simp⟩
        · exact ⟨a, [x], rfl, (h a).mp h1, by simp⟩
      · rintro ⟨l1, l2, rfl, h1, h2⟩
        have : l2 = [] ∨ l2 = [x] := by
          cases l2 with
          | nil => exact .inl rfl
          | cons y t =>
            right
            have h3 := h2.length_le
            simp at h3
            subst h3
            have h4 := h2.subset (List.mem_cons_self ..)
            simp at h4
            rw [h4]
        cases this with
        | inl e => subst e; left; simpa using h1
        | inr e => subst e; right; exact ⟨l1, (h l1).mpr h1, rfl⟩
theorem mem_lots (xs l : List Nat) : l ∈ lotsRaw xs ↔ l.Sublist xs := by
  have := mem_lots_aux xs [] [[]] (by intro l; simp) l
  simpa [lotsRaw] using this
def lotKey (l : List Nat) : Nat × List Nat := (l.length, l)
def lots (xs : List Nat) : List (List Nat) := (lotsRaw xs).mergeSort fun a b => !Enc.lt (lotKey b) (lotKey a)
theorem mem_lots' (xs l : List Nat) : l ∈ lots xs ↔ l.Sublist xs := by
  unfold lots
  rw [List.mem_mergeSort, mem_lots]
theorem lenKey_enc (l : List Nat) : lenKey (enc l) = enc (lotKey l) := by
  show PyData.tuple [.int ((l.map enc).length : Int), .tuple (l.map enc)] = PyData.tuple [.int (l.length : Int), .tuple (l.map enc)]
  rw [List.length_map]
theorem sortL_enc (L : List (List Nat)) (hl : L.length ≤ big) : sortL (L.map enc) = some ((L.mergeSort fun a b => !Enc.lt (lotKey b) (lotKey a)).map enc) := by
  have e : (L.map enc).map lenKey = (L.map lotKey).map enc := by
    rw [List.map_map, List.map_map]
    apply List.map_congr_left
    intro l _
    exact lenKey_enc l
  have h1 : (L.map (enc : List Nat → D)).all isTup = true := by
    rw [List.all_eq_true]
    intro d hd
    obtain ⟨l, _, rfl⟩ := List.mem_map.mp hd
    rfl
  unfold sortL
  rw [if_pos (by
    rw [h1, e, allAlike_map, shaped_list (α := Nat × List Nat) (by decide), noLsts_map]
    simpa using hl)]
  rw [merge_map enc (fun a b => !Enc.lt (lotKey b) (lotKey a)) (PySem.W.dataLe false lenKey) (fun a b => by
    show (!PySem.W.dataLt (lenKey (enc b)) (lenKey (enc a))) = _
    rw [lenKey_enc, lenKey_enc, Enc.hlt])]
theorem c_lots (F n : Nat) (xs : List Nat) (hl : xs.length ≤ 12) : (orc prog F (n + 1)).call 22 [.v (.list (xs.map enc))] none = .ok (.v (.list ((lots xs).map enc))) .no [] := by
  rw [callN rfl rfl]
  have q1 : 1 ≤ big := by decide
  have q0 : 0 ≤ big := by decide
  have b12 : (2 : Nat) ^ 12 = 4096 := by decide
  simp [b__law_lots, q1, q0]
  refine forL_inv (Q := fun o => endC (o.bind _) = _) (fun dn rest ρ => ∃ (s2 s3 : Sl), dn ++ rest = xs ∧ ρ = ⟨[.v (.list (xs.map enc)), .v (.list ((lotsRaw dn).map enc)), s2, .no], false, none⟩) ?_ ?_ xs [] _ ⟨.no, .no, rfl, rfl⟩
  · rintro dn x rest ρ ⟨s2, s3, hd, rfl⟩
    have hll : (lotsRaw dn).length ≤ 2048 := by
      rw [lots_len]
      have h1 : dn.length ≤ 11 := by
        have : xs.length = dn.length + (rest.length + 1) := by rw [← hd]; simp
        omega
      have := Nat.pow_le_pow_right (n := 2) (by decide) h1
      exact Nat.le_trans this (by decide)
    simp
    rw [compF_all (lotsRaw dn) enc (fun l => enc (l ++ [x]))]
    · have h2 : (lotsRaw dn).length + (lotsRaw dn).length ≤ big := by simp [bigN]; omega
      simp [h2]
      exact step_nx ⟨_, .no, by simpa using hd, by rw [lots_snoc]; simp; rfl⟩
    · simp
    · rfl
    · rfl
    · simp [bigN]; omega
    · intro l hm
      have h3 := ((mem_lots dn l).mp hm).length_le
      have h4 : l.length + 1 ≤ big := by
        have : xs.length = dn.length + (rest.length + 1) := by rw [← hd]; simp
        simp [bigN]; omega
      simp [turnF_d, enc_list, q1, h4]
  · rintro dn ρ ⟨s2, s3, hd, rfl⟩
    simp at hd
    subst hd
    have h5 : (lotsRaw dn).length ≤ big := by
      rw [lots_len]
      have := Nat.pow_le_pow_right (n := 2) (by decide) hl
      simp [bigN]
      omega
    simp [lstOf, sortL_enc _ h5]
    rfl
end K62
end
section
set_option Elab.async false
set_option linter.all false
set_option maxRecDepth 100000
namespace K62
open PySem Ev Pl
open Enc (enc)
def plt (p q : Nat × Nat) : Prop := p.1 < q.1 ∨ p.1 = q.1 ∧ p.2 < q.2
structure Work (N : Nat) (S : List (Nat × Nat)) : Prop where
  lo : 1 ≤ N
  hi : N ≤ 7
  ok : ∀ p ∈ S, p.1 < N ∧ p.2 < N ∧ p.1 ≠ p.2
  up : S.Pairwise plt
  len : S.length ≤ 1000
theorem c_are_soils (F n N : Nat) (S : List (Nat × Nat)) (w : Work N S) : (orc prog F (n + 3)).call 6 [.v (.int (N : Int)), .v (enc S)] none = .ok (.v (.bool true)) .no [] := by
  rw [callN rfl rfl]
  simp only [enc_list]
  simp [b_are_soils]
  refine forL_inv (Q := fun o => endC (o.bind _) = _) (fun _ rest ρ => (∀ p ∈ rest, p ∈ S) ∧ ∃ s, ρ = ⟨[.v (.int (N : Int)), .v (.tuple (S.map enc)), s, .no], false, none⟩) ?_ ?_ S [] _ ⟨fun p h => h, _, rfl⟩
  · rintro done p rest ρ ⟨hr, s, rfl⟩
    obtain ⟨h1, h2, h3⟩ := w.ok p (hr p (List.mem_cons_self ..))
    simp [enc_pair, enc_nat, c_is_sized]
    rw [compF_all [p.1, p.2] enc (fun x => .bool true)]
    · simp [b_all, boolsOf, h3]
      exact step_nx ⟨fun p h => hr p (List.mem_cons_of_mem _ h), _, rfl⟩
    · simp [enc_nat]
    · rfl
    · rfl
    · simp [bigN]
    · intro x hx
      have hx : x < N := by
        simp at hx
        omega
      simp [turnF_d, enc_nat, c_is_within]
      omega
  · rintro done ρ ⟨_, s, rfl⟩
    rw [nx_bind]
    have hz : allB ((S.map enc).zip (S.map enc).tail) (fun p => match ltD p.1 p.2 with | some b => b | none => false) = true := by
      rw [allB_t, zip_tail_map]
      intro p hp
      obtain ⟨q, hq, rfl⟩ := List.mem_map.mp hp
      have := (zip_pw (r := plt) (by unfold plt; intro a b c; omega)).mpr w.up q hq
      obtain ⟨⟨a, b⟩, c, d⟩ := q
      rw [ltD_pair (by decide), ltP_nat]
      simpa [plt] using this
    have e := c_are_rising F (n + 1) (S.map enc) (by have := w.len; simp [bigN]; omega) (fun x y => match ltD x y with | some b => b | none => false) (fun p hp => by
      rw [zip_tail_map] at hp
      obtain ⟨q, hq, rfl⟩ := List.mem_map.mp hp
      rw [ltD_pair (by decide)])
    rw [hz] at e
    simp [e]
theorem c_is_work (F n N : Nat) (S : List (Nat × Nat)) (w : Work N S) : (orc prog F (n + 4)).call 7 [.v (enc (N, S))] none = .ok (.v (.bool true)) .no [] := by
  rw [callN rfl rfl]
  have := w.lo
  have := w.hi
  have hg : prog.glb[0]? = some (.int 7) := rfl
  simp [b_is_work, enc_pair, enc_nat, c_is_sized, c_is_within, hg, c_are_soils F n N S w]
  rw [if_pos (by omega)]
  rfl
theorem c_check_work (F n N : Nat) (S : List (Nat × Nat)) (w : Work N S) : (orc prog F (n + 5)).call 8 [.v (enc (N, S))] none = .ok (.v .none) .no [] := by
  rw [callN rfl rfl]
  simp [b_check_work, c_is_work F n N S w]
theorem c_check_foods (F n N : Nat) (S : List (Nat × Nat)) (w : Work N S) (d : D) (hd : okD d = true) : (orc prog F (n + 6)).call 9 [.v (enc (N, S)), .v d] none = if isLotD d N then .ok (.v .none) .no [] else .ex ⟨2, none⟩ .no [] := by
  rw [callN rfl rfl]
  have e := c_check_work F n N S w
  simp only [enc_pair, enc_nat] at e ⊢
  simp [b_check_foods, e, c_is_lot, hd]
  cases isLotD d N <;> simp
def must (S : List (Nat × Nat)) (cs : List Nat) (f : Nat) : Bool := anyB cs fun c => decide ((c, f) ∈ S)
theorem c_raw_must (F n N f : Nat) (S : List (Nat × Nat)) (cut : D) (cs : List Nat) (hc : itemsOf cut = some (cs.map enc)) (hl : cs.length ≤ big) :
    (orc prog F (n + 1)).call 10 [.v (enc (N, S)), .v cut, .v (.int (f : Int))] none = .ok (.v (.bool (must S cs f))) .no [] := by
  rw [callN rfl rfl]
  simp [b_raw_must]
  rw [compF_all cs enc (fun c => .bool (decide ((c, f) ∈ S)))]
  · simp [must]
  · simp [hc]
  · rfl
  · rfl
  · exact hl
  · intro x hx
    have := c_in (α := Nat × Nat) (by decide) (x, f) (d := .tuple (S.map enc)) rfl
    simp only [enc_pair, enc_nat] at this
    simp [turnF_d, enc_nat, enc_pair, enc_list, bigN, this]
theorem c_check_cut_order (F n N : Nat) (S : List (Nat × Nat)) (w : Work N S) (d : D) (hd : okD' d = true) : (orc prog F (n + 6)).call 12 [.v (enc (N, S)), .v d] none = if isOrderD d N then .ok (.v .none) .no [] else .ex ⟨3, none⟩ .no [] := by
  rw [callN rfl rfl]
  have e := c_check_work F n N S w
  have := w.hi
  simp only [enc_pair, enc_nat] at e ⊢
  simp [b_check_cut_order, e, c_is_order F (n + 3) d N (by omega) hd]
  cases isOrderD d N <;> simp
end K62
end
section
set_option Elab.async false
set_option linter.all false
set_option maxRecDepth 100000
namespace K62
open PySem Ev Pl
open Enc (enc)
def greedy (S : List (Nat × Nat)) : List Nat → Nat → List Nat → List Nat
  | [], _, _ => []
  | f :: r, k, cut => if must S cut f then k :: greedy S r (k + 1) [f] else greedy S r (k + 1) (cut ++ [f])
def washedB (S : List (Nat × Nat)) (w : List Nat) : List Nat → Nat → List Nat → Bool
  | [], _, _ => true
  | f :: r, k, cut => if must S (if k ∈ w then [] else cut) f then false else washedB S w r (k + 1) ((if k ∈ w then [] else cut) ++ [f])
theorem enum_enc (o : List Nat) (k : Nat) : ((o.map enc).zipIdx k).map (fun p => PyData.tuple [.int p.2, p.1]) = (o.zipIdx k).map fun p => PyData.tuple [.int (p.2 : Int), enc p.1] := by
  rw [List.zipIdx_map, List.map_map]
  rfl
theorem zip_cons {r : List Nat} {k : Nat} {x : Nat × Nat} {l : List (Nat × Nat)} (h : x :: l = r.zipIdx k) : ∃ f r', r = f :: r' ∧ x = (f, k) ∧ l = r'.zipIdx (k + 1) := by
  cases r with
  | nil => cases h
  | cons f r' =>
    rw [List.zipIdx_cons] at h
    cases h
    exact ⟨f, r', rfl, rfl, rfl⟩
theorem zip_nil {r : List Nat} {k : Nat} (h : [] = r.zipIdx k) : r = [] := by
  cases r with
  | nil => rfl
  | cons f r' => cases h
theorem c_raw_washes (F n N : Nat) (S : List (Nat × Nat)) (o : List Nat) (hl : o.length ≤ 1000) : (orc prog F (n + 2)).call 13 [.v (enc (N, S)), .v (enc o)] none = .ok (.v (enc (greedy S o 0 []))) .no [] := by
  rw [callN rfl rfl]
  simp only [enc_list (α := Nat)]
  simp [b_raw_washes]
  rw [enum_enc]
  refine forL_inv (Q := fun o => endC (o.bind _) = _) (fun _ rest ρ => ∃ (r : List Nat) (k : Nat) (found cut : List Nat) (s t : Sl), rest = r.zipIdx k ∧ found ++ greedy S r k cut = greedy S o 0 [] ∧ found.length + r.length ≤ 1000 ∧ cut.length + r.length ≤ 1000 ∧ ρ = ⟨[.v (enc (N, S)), .v (.tuple (o.map enc)), .ol (found.map enc), .v (.list (cut.map enc)), s, t], false, none⟩) ?_ ?_ (o.zipIdx 0) [] _ ⟨o, 0, [], [], _, _, rfl, rfl, by simpa using hl, by simpa using hl, rfl⟩
  · rintro done x rest ρ ⟨r, k, found, cut, s, t, hz, hg, l1, l2, rfl⟩
    obtain ⟨f, r', rfl, rfl, rfl⟩ := zip_cons hz
    have l1 : found.length + (r'.length + 1) ≤ 1000 := l1
    have l2 : cut.length + (r'.length + 1) ≤ 1000 := l2
    have hm := c_raw_must F n N f S (.list (cut.map enc)) cut rfl (by simp [bigN]; omega)
    simp only [greedy] at hg
    have q1 : found.length < big := by simp [bigN]; omega
    have q2 : cut.length + 1 ≤ big := by simp [bigN]; omega
    have q3 : 1 ≤ big := by decide
    cases hmu : must S cut f with
    | true =>
      rw [hmu] at hg
      simp [enc_nat, hm, hmu, q1, q2, q3]
      exact step_nx ⟨r', k + 1, found ++ [k], [f], .v (.int k), .v (.int f), rfl, by simpa using hg, by simp; omega, by simp; omega, by simp [enc_nat]⟩
    | false =>
      rw [hmu] at hg
      simp [enc_nat, hm, hmu, q1, q2, q3]
      exact step_nx ⟨r', k + 1, found, cut ++ [f], .v (.int k), .v (.int f), rfl, by simpa using hg, by omega, by simp; omega, by simp [enc_nat]⟩
  · rintro done ρ ⟨r, k, found, cut, s, t, hz, hg, l1, l2, rfl⟩
    rw [zip_nil hz] at hg
    simp [greedy] at hg
    simp [hg, enc_list]
theorem c_washes_of (F n N : Nat) (S : List (Nat × Nat)) (w : Work N S) (o : List Nat) (ho : o.Perm (List.range N)) : (orc prog F (n + 7)).call 14 [.v (enc (N, S)), .v (enc o)] none = .ok (.v (enc (greedy S o 0 []))) .no [] := by
  rw [callN rfl rfl]
  have hl := ho.length_eq
  simp at hl
  have := w.hi
  have h1 := c_check_cut_order F n N S w (enc o) (by simp [enc_list, okD', bigN]; omega)
  rw [if_pos ((isOrder_enc o N).mpr ho)] at h1
  have h2 := c_raw_washes F (n + 4) N S o (by omega)
  simp [b_washes_of, h1, h2]
theorem c_is_washed (F n N : Nat) (S : List (Nat × Nat)) (w : Work N S) (o : List Nat) (ho : o.Perm (List.range N)) (ws : List Nat) (hw : ws.length ≤ 1000) (hlot : isLotD (enc ws) N = true) : (orc prog F (n + 7)).call 15 [.v (enc (N, S)), .v (enc o), .v (enc ws)] none = .ok (.v (.bool (washedB S ws o 0 []))) .no [] := by
  rw [callN rfl rfl]
  have hl := ho.length_eq
  simp at hl
  have := w.hi
  have h1 := c_check_cut_order F n N S w (enc o) (by simp [enc_list, okD', bigN]; omega)
  rw [if_pos ((isOrder_enc o N).mpr ho)] at h1
  have h2 := c_is_lot F (n + 3) (enc ws) N (by simp [enc_list, okD, bigN]; omega)
  rw [hlot] at h2
  simp only [enc_list (α := Nat), enc_pair, enc_nat] at h1 h2 ⊢
  simp [b_is_washed, h1, h2]
  rw [enum_enc]
  refine forL_inv (Q := fun o => endC (o.bind _) = _) (fun _ rest ρ => ∃ (r : List Nat) (k : Nat) (cut : List Nat) (s t : Sl), rest = r.zipIdx k ∧ washedB S ws r k cut = washedB S ws o 0 [] ∧ cut.length + r.length ≤ 1000 ∧ ρ = ⟨[.v (enc (N, S)), .v (.tuple (o.map enc)), .v (.tuple (ws.map enc)), .v (.list (cut.map enc)), s, t], false, none⟩) ?_ ?_ (o.zipIdx 0) [] _ ⟨o, 0, [], _, _, rfl, rfl, by simp; omega, rfl⟩
  · rintro done x rest ρ ⟨r, k, cut, s, t, hz, hg, l2, rfl⟩
    obtain ⟨f, r', rfl, rfl, rfl⟩ := zip_cons hz
    have l2 : cut.length + (r'.length + 1) ≤ 1000 := l2
    have hm := c_raw_must F (n + 5) N f S (.list (cut.map enc)) cut rfl (by simp [bigN]; omega)
    have hm0 := c_raw_must F (n + 5) N f S (.list []) [] rfl (by simp [bigN])
    have hin := c_in (α := Nat) (by decide) k (d := .tuple (ws.map enc)) rfl
    simp only [washedB] at hg
    have q2 : cut.length + 1 ≤ big := by simp [bigN]; omega
    have q3 : 1 ≤ big := by decide
    simp only [enc_nat] at hin
    by_cases hk : k ∈ ws
    · rw [if_pos hk] at hg
      cases hmu : must S [] f with
      | true => cases hmu
      | false =>
        rw [hmu] at hg
        simp [enc_nat, hm0, hmu, q2, q3, hin, hk]
        exact step_nx ⟨r', k + 1, [f], .v (.int k), .v (.int f), rfl, by simpa using hg, by simp; omega, by simp [enc_nat]⟩
    · rw [if_neg hk] at hg
      cases hmu : must S cut f with
      | true =>
        rw [hmu] at hg
        simp [enc_nat, hm, hmu, q2, q3, hin, hk]
        exact step_rt (by simp [← hg])
      | false =>
        rw [hmu] at hg
        simp [enc_nat, hm, hmu, q2, q3, hin, hk]
        exact step_nx ⟨r', k + 1, cut ++ [f], .v (.int k), .v (.int f), rfl, by simpa using hg, by simp; omega, by simp [enc_nat]⟩
  · rintro done ρ ⟨r, k, cut, s, t, hz, hg, l2, rfl⟩
    rw [zip_nil hz] at hg
    simp [← hg, washedB]
end K62
end
section
set_option Elab.async false
set_option linter.all false
set_option maxRecDepth 100000
namespace K62
open PySem Ev Pl
open Enc (enc)
theorem isLot_enc (l : List Nat) (m : Nat) : isLotD (enc l) m = true ↔ (∀ x ∈ l, x < m) ∧ l.Pairwise (· < ·) := by
  show ((allB (l.map enc) fun x => within x 0 (m - 1)) && (allB ((l.map enc).zip (l.map enc).tail) fun p => ltI p.1 p.2)) = true ↔ _
  rw [Bool.and_eq_true, allB_t, allB_t, zip_tail_map]
  have h1 : (∀ x ∈ l.map (enc : Nat → D), within x 0 ((m : Int) - 1) = true) ↔ ∀ x ∈ l, x < m := by
    constructor
    · intro h x hx
      have := h (enc x) (List.mem_map_of_mem hx)
      simp [enc_nat] at this
      omega
    · intro h d hd
      obtain ⟨x, hx, rfl⟩ := List.mem_map.mp hd
      have := h x hx
      simp [enc_nat]
      omega
  rw [h1, ← zip_pw (r := fun a b : Nat => a < b) (fun a b c => Nat.lt_trans)]
  apply and_congr_right
  intro _
  constructor
  · intro h p hp
    have := h _ (List.mem_map_of_mem (f := fun p : Nat × Nat => ((enc p.1 : D), (enc p.2 : D))) hp)
    simpa [enc_nat, ltI] using this
  · intro h q hq
    obtain ⟨p, hp, rfl⟩ := List.mem_map.mp hq
    have := h p hp
    simpa [enc_nat, ltI] using this
theorem lot_ok (l : List Nat) (hl : l.length ≤ 1000) : okD (enc l) = true := by
  simp [enc_list, okD, bigN]
  omega
theorem c_must_wash (F n N f : Nat) (S : List (Nat × Nat)) (w : Work N S) (cs : List Nat) (hl : cs.length ≤ 1000) (hc : isLotD (enc cs) N = true) (hf : f < N) (hn : f ∉ cs) : (orc prog F (n + 7)).call 11 [.v (enc (N, S)), .v (enc cs), .v (.int (f : Int))] none = .ok (.v (.bool (must S cs f))) .no [] := by
  rw [callN rfl rfl]
  have h1 := c_check_foods F n N S w (enc cs) (lot_ok cs hl)
  rw [hc] at h1
  have h2 := c_raw_must F (n + 5) N f S (.tuple (cs.map enc)) cs rfl (by simp [bigN]; omega)
  have hin := c_in (α := Nat) (by decide) f (d := .tuple (cs.map enc)) rfl
  simp only [enc_list (α := Nat), enc_pair, enc_nat] at h1 h2 hin ⊢
  have hw : within (.int (f : Int)) 0 ((N : Int) - 1) = true := by simp; omega
  simp [b_must_wash, h1, c_is_within, -within_int, hw, hin, hn, h2]
theorem c_must_nolot (F n N : Nat) (S : List (Nat × Nat)) (w : Work N S) (d e : D) (hd : okD d = true) (hc : isLotD d N = false) : (orc prog F (n + 7)).call 11 [.v (enc (N, S)), .v d, .v e] none = .ex ⟨2, none⟩ .no [] := by
  rw [callN rfl rfl]
  have h1 := c_check_foods F n N S w d hd
  rw [hc] at h1
  simp [b_must_wash, h1]
theorem c_must_nofood (F n N : Nat) (S : List (Nat × Nat)) (w : Work N S) (cs : List Nat) (hl : cs.length ≤ 1000) (hc : isLotD (enc cs) N = true) (d : D) (hd : noDic d = true) (hf : within d 0 ((N : Int) - 1) = false) : (orc prog F (n + 7)).call 11 [.v (enc (N, S)), .v (enc cs), .v d] none = .ex ⟨1, none⟩ .no [] := by
  rw [callN rfl rfl]
  have h1 := c_check_foods F n N S w (enc cs) (lot_ok cs hl)
  rw [hc] at h1
  simp only [enc_list (α := Nat), enc_pair, enc_nat] at h1 ⊢
  simp [b_must_wash, h1, c_is_within, hd, hf]
theorem c_must_isfood (F n N f : Nat) (S : List (Nat × Nat)) (w : Work N S) (cs : List Nat) (hl : cs.length ≤ 1000) (hc : isLotD (enc cs) N = true) (hf : f ∈ cs) : (orc prog F (n + 7)).call 11 [.v (enc (N, S)), .v (enc cs), .v (.int (f : Int))] none = .ex ⟨1, none⟩ .no [] := by
  rw [callN rfl rfl]
  have h1 := c_check_foods F n N S w (enc cs) (lot_ok cs hl)
  rw [hc] at h1
  have hin := c_in (α := Nat) (by decide) f (d := .tuple (cs.map enc)) rfl
  have hw : within (.int (f : Int)) 0 ((N : Int) - 1) = true := by
    have := ((isLot_enc cs N).mp hc).1 f hf
    simp
    omega
  simp only [enc_list (α := Nat), enc_pair, enc_nat] at h1 hin ⊢
  simp [b_must_wash, h1, c_is_within, -within_int, hw, hin, hf]
theorem c_law_washes (F n N : Nat) (S : List (Nat × Nat)) (o : List Nat) (hl : o.length ≤ 1000) : (orc prog F (n + 1)).call 23 [.v (enc (N, S)), .v (enc o)] none = .ok (.v (enc (greedy S o 0 []))) .no [] := by
  rw [callN rfl rfl]
  simp only [enc_list (α := Nat)]
  simp [b__law_washes]
  rw [enum_enc]
  refine forL_inv (Q := fun o => endC (o.bind _) = _) (fun _ rest ρ => ∃ (r : List Nat) (k : Nat) (found cut : List Nat) (s t : Sl), rest = r.zipIdx k ∧ found ++ greedy S r k cut = greedy S o 0 [] ∧ found.length + r.length ≤ 1000 ∧ cut.length + r.length ≤ 1000 ∧ ρ = ⟨[.v (enc (N, S)), .v (.tuple (o.map enc)), .ol (found.map enc), .ol (cut.map enc), s, t, .no], false, none⟩) ?_ ?_ (o.zipIdx 0) [] _ ⟨o, 0, [], [], .no, .no, rfl, rfl, by simpa using hl, by simpa using hl, rfl⟩
  · rintro done x rest ρ ⟨r, k, found, cut, s, t, hz, hg, l1, l2, rfl⟩
    obtain ⟨f, r', rfl, rfl, rfl⟩ := zip_cons hz
    have l1 : found.length + (r'.length + 1) ≤ 1000 := l1
    have l2 : cut.length + (r'.length + 1) ≤ 1000 := l2
    simp only [greedy] at hg
    have q1 : found.length < big := by simp [bigN]; omega
    have q2 : cut.length < big := by simp [bigN]; omega
    have q0 : 0 < big := by decide
    simp [enc_nat]
    rw [compF_all cut enc (fun c => .bool (decide ((c, f) ∈ S)))]
    · cases hmu : must S cut f with
      | true =>
        rw [hmu] at hg
        have hmu : anyB cut (fun c => decide ((c, f) ∈ S)) = true := hmu
        simp [hmu, q1, q2, q0]
        exact step_nx ⟨r', k + 1, found ++ [k], [f], .v (.int k), .v (.int f), rfl, by simpa using hg, by simp; omega, by simp; omega, by simp [enc_nat]⟩
      | false =>
        rw [hmu] at hg
        have hmu : anyB cut (fun c => decide ((c, f) ∈ S)) = false := hmu
        simp [hmu, q1, q2, q0]
        exact step_nx ⟨r', k + 1, found, cut ++ [f], .v (.int k), .v (.int f), rfl, by simpa using hg, by omega, by simp; omega, by simp [enc_nat]⟩
    · simp
    · rfl
    · rfl
    · omega
    · intro c hc
      have := c_in (α := Nat × Nat) (by decide) (c, f) (d := .tuple (S.map enc)) rfl
      simp only [enc_pair, enc_nat] at this
      simp [turnF_d, enc_nat, enc_pair, enc_list, bigN, this]
  · rintro done ρ ⟨r, k, found, cut, s, t, hz, hg, l1, l2, rfl⟩
    rw [zip_nil hz] at hg
    simp [greedy] at hg
    simp [hg, enc_list]
theorem c_law_is_washed (F n N : Nat) (S : List (Nat × Nat)) (o : List Nat) (hl : o.length ≤ 1000) (ws : List Nat) : (orc prog F (n + 1)).call 26 [.v (enc (N, S)), .v (enc o), .v (enc ws)] none = .ok (.v (.bool (washedB S ws o 0 []))) .no [] := by
  rw [callN rfl rfl]
  simp only [enc_list (α := Nat)]
  simp [b__law_is_washed]
  rw [enum_enc]
  refine forL_inv (Q := fun o => endC (o.bind _) = _) (fun _ rest ρ => ∃ (r : List Nat) (k : Nat) (cut : List Nat) (s t : Sl), rest = r.zipIdx k ∧ washedB S ws r k cut = washedB S ws o 0 [] ∧ cut.length + r.length ≤ 1000 ∧ ρ = ⟨[.v (enc (N, S)), .v (.tuple (o.map enc)), .v (.tuple (ws.map enc)), .ol (cut.map enc), s, t, .no], false, none⟩) ?_ ?_ (o.zipIdx 0) [] _ ⟨o, 0, [], .no, .no, rfl, rfl, by simp; omega, rfl⟩
  · rintro done x rest ρ ⟨r, k, cut, s, t, hz, hg, l2, rfl⟩
    obtain ⟨f, r', rfl, rfl, rfl⟩ := zip_cons hz
    have l2 : cut.length + (r'.length + 1) ≤ 1000 := l2
    have hin := c_in (α := Nat) (by decide) k (d := .tuple (ws.map enc)) rfl
    simp only [washedB] at hg
    have q2 : cut.length < big := by simp [bigN]; omega
    have q0 : 0 < big := by decide
    simp only [enc_nat] at hin
    have tur : ∀ (cut : List Nat) (c : Nat), turnF [6] (.nm 6) (evT (orc prog F n) .tt) (evE (orc prog F n) (.cmp .isin (.tup (.cons (.var 6) (.cons (.var 5) .nil))) (.idx (.var 0) (.cst (.int 1))))) ⟨[.v (enc (N, S)), .v (.tuple (o.map enc)), .v (.tuple (ws.map enc)), .no, .v (.int k), .v (.int f), .no], false, none⟩ (enc c) ⟨[.v (enc (N, S)), .v (.tuple (o.map enc)), .v (.tuple (ws.map enc)), .no, .v (.int k), .v (.int f), .no], false, none⟩ = .ok (some (.bool (decide ((c, f) ∈ S)))) ⟨[.v (enc (N, S)), .v (.tuple (o.map enc)), .v (.tuple (ws.map enc)), .no, .v (.int k), .v (.int f), .no], false, none⟩ := by
      intro cut c
      have := c_in (α := Nat × Nat) (by decide) (c, f) (d := .tuple (S.map enc)) rfl
      simp only [enc_pair, enc_nat] at this
      simp [turnF_d, enc_nat, enc_pair, enc_list, bigN, this]
    by_cases hk : k ∈ ws
    · rw [if_pos hk] at hg
      have hm0 : must S [] f = false := rfl
      rw [hm0] at hg
      simp [enc_nat, hin, hk, q0]
      rw [compF_all ([] : List Nat) enc (fun c => .bool (decide ((c, f) ∈ S)))]
      · have hm0 : anyB ([] : List Nat) (fun c => decide ((c, f) ∈ S)) = false := rfl
        have := b_any_map (l := ([] : List Nat)) (f := (fun c => decide ((c, f) ∈ S)))
        rw [hm0, List.map_nil] at this
        simp [this, hm0, q0]
        exact step_nx ⟨r', k + 1, [f], .v (.int k), .v (.int f), rfl, by simpa using hg, by simp; omega, by simp [enc_nat]⟩
      · simp
      · rfl
      · rfl
      · simp
      · intro x hx
        cases hx
    · rw [if_neg hk] at hg
      simp [enc_nat, hin, hk, q0]
      rw [compF_all cut enc (fun c => .bool (decide ((c, f) ∈ S)))]
      · cases hmu : must S cut f with
        | true =>
          rw [hmu] at hg
          have hmu : anyB cut (fun c => decide ((c, f) ∈ S)) = true := hmu
          simp [hmu]
          exact step_rt (by simp [← hg])
        | false =>
          rw [hmu] at hg
          have hmu : anyB cut (fun c => decide ((c, f) ∈ S)) = false := hmu
          simp [hmu, q2]
          exact step_nx ⟨r', k + 1, cut ++ [f], .v (.int k), .v (.int f), rfl, by simpa using hg, by simp; omega, by simp [enc_nat]⟩
      · simp
      · rfl
      · rfl
      · omega
      · intro c hc
        exact tur cut c
  · rintro done ρ ⟨r, k, cut, s, t, hz, hg, l2, rfl⟩
    rw [zip_nil hz] at hg
    simp [← hg, washedB]
end K62
end
section
set_option Elab.async false
set_option linter.all false
set_option maxRecDepth 100000
namespace K62
open PySem Ev Pl
open Enc (enc)
theorem range_drop (n k : Nat) (x : Nat) (rest : List Nat) (h : x :: rest = (List.range n).drop k) : x = k ∧ k < n ∧ rest = (List.range n).drop (k + 1) := by
  have hk : k < n := by
    by_cases hk : k < n
    · exact hk
    · rw [List.drop_eq_nil_of_le (by simp; omega)] at h
      cases h
  rw [List.drop_eq_getElem_cons (by simpa using hk)] at h
  simp at h
  exact ⟨h.1, hk, h.2⟩
theorem draw_lit (F n N : Nat) {h : List D} (H : Hd N h) (hN : N < 2 ^ 40) (m : Nat) (hm : 0 < m) (hm2 : m < 2 ^ 64) : ∃ r h', (∀ z : Int, z = m → (orc prog F (n + 2)).call 18 [.ol h, .v (.int z)] none = .ok (.v (.int (r : Nat))) (.ol h') []) ∧ Hd (N + 1) h' ∧ r < m := by
  obtain ⟨r, h', e, H', hr⟩ := draw_ok F n N H hN m hm hm2
  exact ⟨r, h', fun z hz => by rw [hz]; exact e, H', hr⟩
theorem c_law_work (F n M : Nat) {h : List D} (H : Hd M h) (hM : M < 2 ^ 39) : ∃ N S h', (orc prog F (n + 3)).call 20 [.ol h, .v (.int 6)] none = .ok (.v (enc ((N, S) : Nat × List (Nat × Nat)))) (.ol h') [] ∧ Work N S ∧ N ≤ 6 ∧ Hd (M + 100) h' := by
  obtain ⟨r, h1, e1, H1, hr⟩ := draw_lit F n M H (by omega) 6 (by omega) (by omega)
  have e1 := e1 6 rfl
  have e := callN (P := prog) (F := F) (n := n + 2) (i := 20) (as := [.ol h, .v (.int 6)]) rfl rfl
  have q0 : 0 ≤ big := by decide
  have hrN : rngOk ((r + 1 : Nat) : Int) = true := rngOk_nat (by omega)
  have ec : (1 : Int) + (r : Int) = ((r + 1 : Nat) : Int) := by omega
  simp [b__law_work, e1, q0] at e
  rw [ec] at e
  simp only [hrN, rangeD_enc, if_true, ok_toS] at e
  generalize hN : r + 1 = N at e hrN
  have hN6 : N ≤ 6 := by omega
  have hN1 : 1 ≤ N := by omega
  rw [e]
  have key := forL_inv (α := Nat) (inj := enc) (b := bodyF (Tg.nm 4) (evS (orc prog F (n + 2)) (.seq (.mut .extend 3 (.comp [5] (.nm 5) (.rng1 (.var 2)) (.and (.cmp .ne (.var 5) (.var 4)) (.cmp .eq (.callM 18 0 (.cons (.cst (.int 3)) .nil)) (.cst (.int 0)))) (.tup (.cons (.var 4) (.cons (.var 5) .nil))))) .skip)))
    (Q := fun o => ∃ S h' s, o = .nx ⟨[.ol h', .v (.int 6), .v (.int (N : Int)), .ol ((S : List (Nat × Nat)).map enc), s, .no], true, none⟩ ∧ (∀ p ∈ S, p.1 < N ∧ p.2 < N ∧ p.1 ≠ p.2) ∧ S.Pairwise plt ∧ S.length ≤ 36 ∧ Hd (M + 100) h')
    (fun _ rest ρ => ∃ k S h' s, rest = (List.range N).drop k ∧ ρ = ⟨[.ol h', .v (.int 6), .v (.int (N : Int)), .ol ((S : List (Nat × Nat)).map enc), s, .no], true, none⟩ ∧ (∀ p ∈ S, p.1 < k ∧ p.2 < N ∧ p.1 ≠ p.2) ∧ S.Pairwise plt ∧ S.length ≤ k * 6 ∧ k ≤ N ∧ Hd (M + 1 + k * 6) h') ?_ ?_ (List.range N) [] ⟨[.ol h1, .v (.int 6), .v (.int (N : Int)), .ol [], .no, .no], true, none⟩ ⟨0, [], h1, .no, rfl, rfl, by simp, by simp, by simp, by omega, H1.mono (by omega)⟩
  · obtain ⟨S, h', s, eo, hS, hp, hl, H'⟩ := key
    refine ⟨N, S, h', ?_, ⟨hN1, by omega, hS, hp, by omega⟩, hN6, H'⟩
    rw [eo]
    simp [enc_pair, enc_nat, enc_list]
  · rintro done x rest ρ ⟨k, S, h', s, hr, rfl, hS, hp, hl, hkN, H'⟩
    obtain ⟨rfl, hkN', rfl⟩ := range_drop _ _ _ _ hr
    simp [enc_nat]
    obtain ⟨ds, ρ1, ec, ys, j, h2, rfl, hj, eds, hys, hpw, hyl, H2⟩ := compF_inv (own := [5]) (g := .nm 5) (it := evI (orc prog F (n + 2)) (.rng1 (.var 2))) (c := evT (orc prog F (n + 2)) (.and (.cmp .ne (.var 5) (.var 4)) (.cmp .eq (.callM 18 0 (.cons (.cst (.int 3)) .nil)) (.cst (.int 0))))) (e := evE (orc prog F (n + 2)) (.tup (.cons (.var 4) (.cons (.var 5) .nil))))
      (ρ := ⟨[.ol h', .v (.int 6), .v (.int (N : Int)), .ol (S.map enc), .v (.int (x : Int)), .no], true, none⟩) (ρ0 := ⟨[.ol h', .v (.int 6), .v (.int (N : Int)), .ol (S.map enc), .v (.int (x : Int)), .no], true, none⟩) (ds := (List.range N).map enc) (List.range N) enc
      (fun acc rest ρ => ∃ (ys : List Nat) (j : Nat) (h2 : List D), ρ = ⟨[.ol h2, .v (.int 6), .v (.int (N : Int)), .ol (S.map enc), .v (.int (x : Int)), .no], true, none⟩ ∧ rest = (List.range N).drop j ∧ acc = (ys.map fun y => (x, y)).map enc ∧ (∀ y ∈ ys, y < j ∧ y < N ∧ y ≠ x) ∧ ys.Pairwise (· < ·) ∧ ys.length ≤ j ∧ j ≤ N ∧ Hd (M + 1 + x * 6 + j) h2)
      (i_range (by omega) rfl) rfl rfl (by simp [bigN]; omega) ⟨[], 0, h', rfl, rfl, rfl, by simp, by simp, by simp, by omega, H'⟩ (fun acc ρ1 ⟨_, _, _, h, _⟩ => by rw [h]) (by
        rintro acc y rest ρ1 ⟨ys, j, h2, rfl, hr2, rfl, hys, hpw, hyl, hjN, H2⟩
        obtain ⟨rfl, hj', rfl⟩ := range_drop _ _ _ _ hr2
        obtain ⟨r3, h3, e3, H3, hr3⟩ := draw_lit F n _ H2 (by omega) 3 (by omega) (by omega)
        have e3 := e3 3 rfl
        by_cases hyx : y = x
        · refine ⟨none, ⟨[.ol h2, .v (.int 6), .v (.int (N : Int)), .ol (S.map enc), .v (.int (x : Int)), .no], true, none⟩, by simp [turnF_d, enc_nat, hyx], ys, y + 1, h2, rfl, rfl, by simp, fun z hz => ?_, hpw, by omega, by omega, H2.mono (by omega)⟩
          have := hys z hz
          omega
        · by_cases hr0 : r3 = 0
          · refine ⟨some (enc (x, y)), ⟨[.ol h3, .v (.int 6), .v (.int (N : Int)), .ol (S.map enc), .v (.int (x : Int)), .no], true, none⟩, by simp [turnF_d, enc_nat, hyx, e3, hr0, enc_pair], ys ++ [y], y + 1, h3, rfl, rfl, by simp, fun z hz => ?_, ?_, by simp; omega, by omega, H3.mono (by omega)⟩
            · rw [List.mem_append] at hz
              cases hz with
              | inl hz => have := hys z hz; omega
              | inr hz => simp at hz; subst hz; exact ⟨by omega, by omega, hyx⟩
            · rw [List.pairwise_append]
              refine ⟨hpw, by simp, fun a ha b hb => ?_⟩
              simp at hb
              have := hys a ha
              omega
          · refine ⟨none, ⟨[.ol h3, .v (.int 6), .v (.int (N : Int)), .ol (S.map enc), .v (.int (x : Int)), .no], true, none⟩, by simp [turnF_d, enc_nat, hyx, e3, hr0], ys, y + 1, h3, rfl, rfl, by simp, fun z hz => ?_, hpw, by omega, by omega, H3.mono (by omega)⟩
            have := hys z hz
            omega)
    rw [ec]
    have hlen : S.length + ys.length ≤ big := by simp [bigN]; omega
    subst eds
    simp [hlen]
    refine step_nx ⟨x + 1, S ++ ys.map fun y => (x, y), h2, .v (.int (x : Int)), rfl, by simp, fun p hp2 => ?_, ?_, by simp; omega, by omega, H2.2.mono (by omega)⟩
    · rw [List.mem_append] at hp2
      cases hp2 with
      | inl h => have := hS p h; omega
      | inr h =>
        obtain ⟨y, hy, rfl⟩ := List.mem_map.mp h
        have := hys y hy
        exact ⟨by simp, this.2.1, fun e => this.2.2 e.symm⟩
    · rw [List.pairwise_append]
      refine ⟨hp, ?_, fun a ha b hb => ?_⟩
      · rw [List.pairwise_map]
        exact hpw.imp fun h => .inr ⟨rfl, h⟩
      · obtain ⟨y, hy, rfl⟩ := List.mem_map.mp hb
        exact .inl (hS a ha).1
  · rintro done ρ ⟨k, S, h', s, hr, rfl, hS, hp, hl, hkN, H'⟩
    have hk : k = N := by
      have := congrArg List.length hr
      simp at this
      omega
    subst hk
    exact ⟨S, h', s, rfl, hS, hp, by omega, H'.mono (by omega)⟩
end K62
end
section
set_option Elab.async false
set_option linter.all false
namespace Pl
open Ev PySem
/-! lists -/
theorem perm_of_sub {α : Type} [DecidableEq α] : ∀ {l r : List α}, l.Nodup → (∀ x ∈ l, x ∈ r) → r.length ≤ l.length → l.Perm r
  | [], r, _, _, hl => by
    have : r = [] := List.eq_nil_of_length_eq_zero (by simpa using hl)
    rw [this]
  | a :: l, r, hn, hs, hl => by
    have ha : a ∈ r := hs a (List.mem_cons_self ..)
    have hn2 := List.nodup_cons.mp hn
    have h1 : l.Perm (r.erase a) := perm_of_sub hn2.2 (fun x hx => by
      have hxa : x ≠ a := fun e => hn2.1 (e ▸ hx)
      exact (List.mem_erase_of_ne hxa).mpr (hs x (List.mem_cons_of_mem _ hx))) (by
      rw [List.length_erase_of_mem ha]
      simp at hl
      omega)
    exact (h1.cons a).trans (List.perm_cons_erase ha).symm
theorem perm_range {l : List Nat} {m : Nat} (hn : l.Nodup) (hs : ∀ x ∈ l, x < m) (hl : l.length = m) : l.Perm (List.range m) :=
  perm_of_sub hn (fun x hx => List.mem_range.mpr (hs x hx)) (by simp [hl])
theorem range_app {m n : Nat} (h : m ≤ n) : List.range n = List.range m ++ (List.range (n - m)).map fun i => m + i := by
  have := List.range_add (n := m) (m := n - m)
  rw [show m + (n - m) = n from by omega] at this
  exact this
theorem countP_step {ws : List Nat} {k : Nat} (h : k ∈ ws) : 1 + ws.countP (fun x => decide (k + 1 ≤ x)) ≤ ws.countP (fun x => decide (k ≤ x)) := by
  induction ws with
  | nil => cases h
  | cons w ws ih =>
    rw [List.countP_cons, List.countP_cons]
    have mono : ws.countP (fun x => decide (k + 1 ≤ x)) ≤ ws.countP (fun x => decide (k ≤ x)) := List.countP_mono_left fun x _ hx => by
      simp at hx ⊢
      omega
    cases List.mem_cons.mp h with
    | inl e =>
      subst e
      have : ¬ (k + 1 ≤ k) := by omega
      simp [this]
      omega
    | inr h2 =>
      have := ih h2
      by_cases h3 : k + 1 ≤ w
      · have h4 : k ≤ w := by omega
        simp [h3, h4]
        omega
      · simp [h3]
        omega
theorem countP_mono1 {ws : List Nat} {k : Nat} : ws.countP (fun x => decide (k + 1 ≤ x)) ≤ ws.countP (fun x => decide (k ≤ x)) := List.countP_mono_left fun x _ hx => by
  simp at hx ⊢
  omega
end Pl
end
section
set_option Elab.async false
set_option linter.all false
namespace K62
open Ev PySem Pl
theorem must_mono {S : List (Nat × Nat)} {a b : List Nat} {f : Nat} (h : ∀ x ∈ a, x ∈ b) (hm : must S a f = true) : must S b f = true := by
  obtain ⟨x, hx, e⟩ := anyB_t.mp hm
  exact anyB_t.mpr ⟨x, h x hx, e⟩
theorem greedy_le (S : List (Nat × Nat)) (ws : List Nat) : ∀ (r : List Nat) (k : Nat) (cg cc : List Nat), washedB S ws r k cc = true →
    (greedy S r k cg).length ≤ 1 + ws.countP (fun x => decide (k ≤ x)) ∧ ((∀ x ∈ cg, x ∈ cc) → (greedy S r k cg).length ≤ ws.countP (fun x => decide (k ≤ x)))
  | [], k, cg, cc, _ => by simp [greedy]
  | f :: r, k, cg, cc, h => by
    simp only [washedB] at h
    cases hm : must S (if k ∈ ws then [] else cc) f with
    | true => rw [hm] at h; cases h
    | false =>
      rw [hm] at h
      have h : washedB S ws r (k + 1) ((if k ∈ ws then [] else cc) ++ [f]) = true := h
      have A := greedy_le S ws r (k + 1) [f] _ h
      have B := greedy_le S ws r (k + 1) (cg ++ [f]) _ h
      have c1 : ws.countP (fun x => decide (k + 1 ≤ x)) ≤ ws.countP (fun x => decide (k ≤ x)) := countP_mono1
      have A2 := A.2 (by simp)
      simp only [greedy]
      cases hg : must S cg f with
      | true =>
        simp only [if_true, List.length_cons]
        refine ⟨by omega, fun hs => ?_⟩
        have hk : k ∈ ws := by
          by_cases hk : k ∈ ws
          · exact hk
          · rw [if_neg hk, must_mono hs hg] at hm
            cases hm
        have := countP_step hk
        omega
      | false =>
        simp only [Bool.false_eq_true, if_false]
        refine ⟨by have := B.1; omega, fun hs => ?_⟩
        by_cases hk : k ∈ ws
        · have := countP_step hk
          have := B.1
          omega
        · have := B.2 (by
            rw [if_neg hk]
            intro x hx
            rw [List.mem_append] at hx ⊢
            exact hx.imp (hs x) id)
          omega
theorem greedy_least {S : List (Nat × Nat)} {ws o : List Nat} (h : washedB S ws o 0 [] = true) : (greedy S o 0 []).length ≤ ws.length :=
  Nat.le_trans ((greedy_le S ws o 0 [] [] h).2 fun x hx => hx) List.countP_le_length
theorem greedy_ge (S : List (Nat × Nat)) : ∀ (r : List Nat) (k : Nat) (cut : List Nat), ∀ x ∈ greedy S r k cut, k ≤ x
  | [], k, cut, x, h => by cases h
  | f :: r, k, cut, x, h => by
    simp only [greedy] at h
    split at h
    · cases List.mem_cons.mp h with
      | inl e => omega
      | inr h2 =>
        have := greedy_ge S r _ _ x h2
        omega
    · have := greedy_ge S r _ _ x h
      omega
theorem greedy_ok (S : List (Nat × Nat)) : ∀ (r : List Nat) (k : Nat) (cut pre : List Nat), (∀ x ∈ pre, x < k) → washedB S (pre ++ greedy S r k cut) r k cut = true
  | [], k, cut, pre, _ => rfl
  | f :: r, k, cut, pre, hp => by
    simp only [washedB, greedy]
    by_cases hm : must S cut f = true
    · simp only [hm, if_true]
      have hk : k ∈ pre ++ k :: greedy S r (k + 1) [f] := by simp
      rw [if_pos hk]
      have m0 : must S [] f = false := rfl
      rw [m0]
      have := greedy_ok S r (k + 1) [f] (pre ++ [k]) (by
        intro x hx
        rw [List.mem_append] at hx
        cases hx with
        | inl h => have := hp x h; omega
        | inr h => simp at h; omega)
      simpa using this
    · have hm : must S cut f = false := by simpa using hm
      simp only [hm, Bool.false_eq_true, if_false]
      have hk : k ∉ pre ++ greedy S r (k + 1) (cut ++ [f]) := by
        intro h
        rw [List.mem_append] at h
        cases h with
        | inl h => have := hp k h; omega
        | inr h => have := greedy_ge S r _ _ k h; omega
      rw [if_neg hk, hm]
      exact greedy_ok S r (k + 1) (cut ++ [f]) pre fun x hx => by have := hp x hx; omega
theorem greedy_washed (S : List (Nat × Nat)) (o : List Nat) : washedB S (greedy S o 0 []) o 0 [] = true := greedy_ok S o 0 [] [] (by simp)
end K62
end
section
set_option Elab.async false
set_option linter.all false
set_option maxRecDepth 100000
namespace K62
open PySem Ev Pl
open Enc (enc)
theorem ne_repr (a b : Bool) : cmpop .ne (.str (reprBool a)) (.str (reprBool b)) = some (!decide (a = b)) := by cases a <;> cases b <;> decide +kernel
theorem rangeD_mn {m n : Nat} (h : m ≤ n) : rangeD (m : Int) (n : Int) = ((List.range (n - m)).map fun i => m + i).map enc := by
  unfold rangeD
  rw [List.map_map, show ((n : Int) - (m : Int)).toNat = n - m from by omega]
  rfl
theorem c_is_right (F n M N : Nat) (S : List (Nat × Nat)) (w : Work N S) (hN : N ≤ 6) {h : List D} (H : Hd M h) (hM : M < 2 ^ 39) : ∃ h', (orc prog F (n + 8)).call 27 [.ol h, .v (enc (N, S))] none = .ok (.v (.bool true)) (.ol h') [] ∧ Hd (M + 2) h' := by
  have hN1 := w.lo
  have em : (if (4 : Int) < (N : Int) then (4 : Int) else (N : Int)) = ((min N 4 : Nat) : Int) := by split <;> omega
  generalize hm : min N 4 = m at em
  have hmN : m ≤ N := by omega
  have o1 := c_orders F (n + 6) m (by omega)
  obtain ⟨r1, h1, hr1, e1, H1⟩ := any_ok F (n + 4) M H (by omega) ((ordN m m).map enc) (by
    have : List.range m ∈ ordN m m := mem_ordN.mpr ⟨by simp, List.nodup_range, by simp⟩
    have := List.length_pos_of_mem this
    simpa using this) (by
    have h1 := ordN_len m m
    have h2 : m ^ m ≤ 6 ^ m := Nat.pow_le_pow_left (by omega) _
    have h3 : 6 ^ m ≤ 6 ^ 6 := Nat.pow_le_pow_right (by decide) (by omega)
    simp
    omega)
  have hr1' : r1 < (ordN m m).length := by simpa using hr1
  obtain ⟨l1, l2, l3⟩ := mem_ordN.mp (List.getElem_mem hr1')
  rw [List.getElem_map] at e1
  generalize (ordN m m)[r1] = o0 at e1 l1 l2 l3
  generalize ho : o0 ++ (List.range (N - m)).map (fun i => m + i) = o
  have hp : o.Perm (List.range N) := by
    rw [← ho, range_app hmN]
    exact (perm_range l2 l3 l1).append_right _
  have hol : o.length = N := by simpa using hp.length_eq
  have ho2 : List.map (enc : Nat → D) o0 ++ List.map (enc ∘ fun i => m + i) (List.range (N - m)) = o.map enc := by
    rw [← ho, List.map_append, List.map_map]
  have ro : rngOk (N : Int) = true := rngOk_nat (by omega)
  have rm : rngOk (m : Int) = true := rngOk_nat (by omega)
  have d1 := c_law_washes F (n + 6) N S o (by omega)
  have d2 := c_lots F (n + 6) (List.range N) (by simp; omega)
  have d3 := c_is_work F (n + 3) N S w
  have d4 := c_washes_of F n N S w o hp
  have d5 := c_law_is_washed F (n + 6) N S o (by omega) (greedy S o 0 [])
  have d6 := c_ne (α := List Nat) (by decide) (greedy S o 0 []) (greedy S o 0 [])
  obtain ⟨r2, h2, hr2, e2, H2⟩ := any_ok F (n + 4) _ H1 (by omega) ((lots (List.range N)).map enc) (by
    have : [] ∈ lots (List.range N) := (mem_lots' _ _).mpr (by simp)
    have := List.length_pos_of_mem this
    simpa using this) (by
    unfold lots
    simp only [List.length_map, List.length_mergeSort, lots_len, List.length_range]
    have : 2 ^ N ≤ 2 ^ 6 := Nat.pow_le_pow_right (by decide) hN
    omega)
  have hr2' : r2 < (lots (List.range N)).length := by simpa using hr2
  have s2 := (mem_lots' _ _).mp (List.getElem_mem hr2')
  rw [List.getElem_map] at e2
  generalize (lots (List.range N))[r2] = lot at e2 s2
  have islot : ∀ l : List Nat, l.Sublist (List.range N) → isLotD (enc l) N = true := fun l hl => (isLot_enc l N).mpr ⟨fun x hx => List.mem_range.mp (hl.subset hx), List.Pairwise.sublist hl List.pairwise_lt_range⟩
  have lotlen : ∀ l : List Nat, l.Sublist (List.range N) → l.length ≤ 6 := fun l hl => by
    have := hl.length_le
    simp at this
    omega
  refine ⟨h2, ?_, H2⟩
  have hsz : o0.length + (N - m) ≤ big := by simp [bigN]; omega
  have d7 := c_law_is_washed F (n + 6) N S o (by omega)
  have d8 := fun l hl => c_is_washed F n N S w o hp l (by have := lotlen l hl; omega) (islot l hl)
  have d9 := fun f hf hn => c_must_wash F n N f S w lot (by have := lotlen lot s2; omega) (islot lot s2) hf hn
  simp only [enc_pair, enc_nat, enc_list (α := Nat), greedy_washed] at d1 d2 d3 d4 d5 d6 d7 d8 d9 e1 e2 ⊢
  rw [callN rfl rfl]
  simp [b__law_is_right, em, o1, e1, ro, rm, rangeD_mn hmN, hsz, ho2, d1, d2, d3, d4, d6, rangeD_enc]
  refine forL_inv (Q := fun o => endC (o.bind _) = _) (fun _ rest ρ => ∃ (s6 s7 : Sl), (∀ l ∈ rest, l.Sublist (List.range N)) ∧ ρ = ⟨[.ol h1, .v (.tuple [.int (N : Int), enc S]), .v (.int (N : Int)), .v (.tuple (o.map enc)), .v (.tuple ((greedy S o 0 []).map enc)), .v (.list ((lots (List.range N)).map enc)), s6, s7, .no, .no], true, none⟩) ?_ ?_ (lots (List.range N)) [] _ ⟨.no, .no, fun l hl => (mem_lots' _ _).mp hl, rfl⟩
  · rintro done l rest ρ ⟨s6, s7, hs, rfl⟩
    have hl := hs l (List.mem_cons_self ..)
    have d7 := d7 l
    have d8 := d8 l hl
    simp [enc_list (α := Nat), d7, d8, ne_repr]
    cases hw : washedB S l o 0 [] with
    | false =>
      simp
      exact step_nx ⟨_, _, fun l hl => hs l (List.mem_cons_of_mem _ hl), rfl⟩
    | true =>
      have := greedy_least hw
      simp
      rw [if_neg (by omega)]
      exact step_nx ⟨_, _, fun l hl => hs l (List.mem_cons_of_mem _ hl), rfl⟩
  · rintro done ρ ⟨s6, s7, hs, rfl⟩
    simp [e2]
    rw [compF_if (List.range N) enc (fun x => !decide (x ∈ lot)) enc]
    · simp
      refine forL_inv (Q := fun o => endC (o.bind _) = _) (fun _ rest ρ => ∃ (s6 s7 s8 : Sl), (∀ f ∈ rest, f < N ∧ f ∉ lot) ∧ ρ = ⟨[.ol h2, .v (.tuple [.int (N : Int), enc S]), .v (.int (N : Int)), .v (.tuple (o.map enc)), .v (.tuple ((greedy S o 0 []).map enc)), .v (.list ((lots (List.range N)).map enc)), .v (.tuple (lot.map enc)), s7, s8, .no], true, none⟩) ?_ ?_ ((List.range N).filter fun x => !decide (x ∈ lot)) [] _ ⟨.no, _, _, by simp, rfl⟩
      · rintro done f rest ρ ⟨s6, s7, s8, hf, rfl⟩
        obtain ⟨f1, f2⟩ := hf f (List.mem_cons_self ..)
        have d9 := d9 f f1 f2
        simp [enc_nat, d9]
        rw [compF_all lot enc (fun c => .bool (decide ((c, f) ∈ S)))]
        · have : anyB lot (fun c => decide ((c, f) ∈ S)) = must S lot f := rfl
          simp [this, ne_repr]
          exact step_nx ⟨.no, _, _, fun g hg => hf g (List.mem_cons_of_mem _ hg), rfl⟩
        · simp
        · rfl
        · rfl
        · have := lotlen lot s2
          simp [bigN]; omega
        · intro c hc
          have := c_in (α := Nat × Nat) (by decide) (c, f) (d := .tuple (S.map enc)) rfl
          simp only [enc_pair, enc_nat] at this
          simp [turnF_d, enc_nat, enc_pair, enc_list, bigN, this]
      · rintro done ρ ⟨s6, s7, s8, hf, rfl⟩
        simp [d5]
    · exact i_range (by omega) rfl
    · rfl
    · rfl
    · simp [bigN]; omega
    · intro x hx
      have hin := c_nin (α := Nat) (by decide) x (d := .tuple (lot.map enc)) rfl
      simp only [enc_nat] at hin
      by_cases hy2 : x ∈ lot
      · simp [turnF_d, enc_nat, hin, hy2]
      · simp [turnF_d, enc_nat, hin, hy2]
end K62
end
section
set_option Elab.async false
set_option linter.all false
set_option maxRecDepth 100000
namespace K62
open PySem Ev Pl
open Enc (enc)
def BadW (d : D) : Prop := ∀ F n, (orc prog F (n + 4)).call 7 [.v d] none = .ok (.v (.bool false)) .no []
def badWs : List D := [.none, .tuple [], .tuple [.int 0, .tuple []], .tuple [.int 8, .tuple []], .tuple [.int 2, .tuple [.tuple [.int 0, .int 0]]], .tuple [.int 2, .tuple [.tuple [.int 0, .int 2]]], .tuple [.int 2, .tuple [.tuple [.int 1, .int 0], .tuple [.int 0, .int 1]]], .list [.int 2, .tuple []], .tuple [.int 2, .list [.tuple [.int 0, .int 1]]],
  .tuple [.int 2, .tuple [.tuple [.int 0, .int 1], .tuple [.int 0, .int 1]]], .tuple [.bool true, .tuple []], .tuple [.int 2, .tuple [.tuple [.int 0]]], .tuple [.int 2, .none], .int 0, .tuple [.int 2]]
theorem bad_all : ∀ d ∈ badWs, BadW d := by
  unfold badWs
  simp only [List.forall_mem_cons]
  refine ⟨?_, ?_, ?_, ?_, ?_, ?_, ?_, ?_, ?_, ?_, ?_, ?_, ?_, ?_, ?_, ?_⟩
  all_goals first | (intro F n; kernel_rfl) | simp
theorem c_no_work (F n M : Nat) {h : List D} (H : Hd M h) (hM : M < 2 ^ 39) : ∃ d h', (orc prog F (n + 4)).call 24 [.ol h] none = .ok (.v d) (.ol h') [] ∧ BadW d ∧ Hd (M + 1) h' := by
  obtain ⟨r, h', hr, e, H'⟩ := any_ok F n M H (by omega) badWs (by decide) (by decide)
  refine ⟨badWs[r], h', ?_, bad_all _ (List.getElem_mem hr), H'⟩
  generalize badWs[r] = d at e
  unfold badWs at e
  rw [callN rfl rfl]
  simp [b__law_no_work, e]
theorem word_ex (F n c : Nat) (a : Option D) (b : E) (sl : List Sl) (ρ1 : Fr) (w : Str) (hw : (c, w) ∈ [(4, Str.ofString "work"), (2, Str.ofString "lot"), (1, Str.ofString "food"), (3, Str.ofString "order")]) (h : evE (orc prog F n) b ⟨sl, false, none⟩ = .ex ⟨c, a⟩ ρ1) : (orc prog F (n + 2)).call 25 [] (some (sl, b)) = .ok (.v (.str w)) .no ρ1.sl := by
  rw [callL' rfl rfl]
  simp at hw
  have x1 : prog.exi 4 4 = true := rfl
  have x2 : prog.exi 2 4 = false := rfl
  have x3 : prog.exi 2 2 = true := rfl
  have x4 : prog.exi 1 4 = false := rfl
  have x5 : prog.exi 1 2 = false := rfl
  have x6 : prog.exi 1 1 = true := rfl
  have x7 : prog.exi 3 4 = false := rfl
  have x8 : prog.exi 3 2 = false := rfl
  have x9 : prog.exi 3 1 = false := rfl
  have x0 : prog.exi 3 3 = true := rfl
  rcases hw with ⟨rfl, rfl⟩ | ⟨rfl, rfl⟩ | ⟨rfl, rfl⟩ | ⟨rfl, rfl⟩ <;> simp [b__law_word_of, h, x1, x2, x3, x4, x5, x6, x7, x8, x9, x0]
theorem bad_check (F n : Nat) (d : D) (h : BadW d) : (orc prog F (n + 5)).call 8 [.v d] none = .ex ⟨4, none⟩ .no [] := by
  rw [callN rfl rfl]
  simp [b_check_work, h F n]
theorem bad_must (F n : Nat) (d x y : D) (h : BadW d) : (orc prog F (n + 7)).call 11 [.v d, .v x, .v y] none = .ex ⟨4, none⟩ .no [] := by
  have e : (orc prog F (n + 6)).call 9 [.v d, .v x] none = .ex ⟨4, none⟩ .no [] := by
    rw [callN rfl rfl]
    simp [b_check_foods, bad_check F n d h]
  rw [callN rfl rfl]
  simp [b_must_wash, e]
theorem bad_washes (F n : Nat) (d x : D) (h : BadW d) : (orc prog F (n + 7)).call 14 [.v d, .v x] none = .ex ⟨4, none⟩ .no [] := by
  have e : (orc prog F (n + 6)).call 12 [.v d, .v x] none = .ex ⟨4, none⟩ .no [] := by
    rw [callN rfl rfl]
    simp [b_check_cut_order, bad_check F n d h]
  rw [callN rfl rfl]
  simp [b_washes_of, e]
theorem noorder_washes (F n N : Nat) (S : List (Nat × Nat)) (w : Work N S) (d : D) (hd : okD' d = true) (ho : isOrderD d N = false) : (orc prog F (n + 7)).call 14 [.v (enc (N, S)), .v d] none = .ex ⟨3, none⟩ .no [] := by
  have e := c_check_cut_order F n N S w d hd
  rw [ho] at e
  rw [callN rfl rfl]
  simp [b_washes_of, e]
theorem noorder_is (F n N : Nat) (S : List (Nat × Nat)) (w : Work N S) (d x : D) (hd : okD' d = true) (ho : isOrderD d N = false) : (orc prog F (n + 7)).call 15 [.v (enc (N, S)), .v d, .v x] none = .ex ⟨3, none⟩ .no [] := by
  have e := c_check_cut_order F n N S w d hd
  rw [ho] at e
  rw [callN rfl rfl]
  simp [b_is_washed, e]
theorem nolot_is (F n N : Nat) (S : List (Nat × Nat)) (w : Work N S) (o : List Nat) (ho : o.Perm (List.range N)) (d : D) (hd : okD d = true) (hl : isLotD d N = false) : (orc prog F (n + 7)).call 15 [.v (enc (N, S)), .v (enc o), .v d] none = .ex ⟨2, none⟩ .no [] := by
  have hl2 := ho.length_eq
  simp at hl2
  have := w.hi
  have e := c_check_cut_order F n N S w (enc o) (by simp [enc_list, okD', bigN]; omega)
  rw [if_pos ((isOrder_enc o N).mpr ho)] at e
  have e2 := c_is_lot F (n + 3) d N hd
  rw [hl] at e2
  rw [callN rfl rfl]
  simp only [enc_pair, enc_nat] at e ⊢
  simp [b_is_washed, e, e2]
end K62
end
section
set_option Elab.async false
set_option linter.all false
set_option maxRecDepth 100000
namespace K62
open PySem Ev Pl
open Enc (enc)
def badL (N : Nat) : List D := [.none, .list [.int 0], .tuple [.int N], .tuple [.int (-1)], .tuple [.int 0, .int 0], .tuple [.bool true], .str (Str.ofString "0"), .int 0]
theorem badL_ok (N : Nat) (hN : 1 ≤ N) : ∀ d ∈ badL N, okD d = true ∧ isLotD d N = false := by
  unfold badL
  simp only [List.forall_mem_cons]
  refine ⟨⟨rfl, rfl⟩, ⟨rfl, rfl⟩, ⟨rfl, ?_⟩, ⟨rfl, ?_⟩, ⟨rfl, ?_⟩, ⟨rfl, rfl⟩, ⟨rfl, rfl⟩, ⟨rfl, rfl⟩, by simp⟩
  · simp [isLotD, allB]
    omega
  · simp [isLotD, allB]
  · simp [isLotD, allB, ltI]
def badO (N : Nat) : List D := [.none, .tuple [], .list ((List.range N).map enc), .tuple (List.replicate (N + 1) (PyData.int 0)), enc ((List.range N).map fun i => i + 1), .int 0]
theorem flat_rep (n : Nat) : List.replicate n (PyData.int 0) = (List.replicate n (0 : Int)).map PyData.int := by simp
theorem badO_ok (N : Nat) (hN : 1 ≤ N) (hN7 : N ≤ 7) : ∀ d ∈ badO N, okD' d = true ∧ isOrderD d N = false := by
  unfold badO
  simp only [List.forall_mem_cons]
  refine ⟨⟨rfl, rfl⟩, ⟨rfl, ?_⟩, ⟨?_, rfl⟩, ⟨?_, ?_⟩, ⟨?_, ?_⟩, ⟨rfl, rfl⟩, by simp⟩
  · simp [isOrderD, intsOf]
    omega
  · simp [okD', bigN]
    omega
  · rw [flat_rep]
    simp [okD', bigN]
    omega
  · simp only [isOrderD, flat_rep, intsOf_map]
    simp
  · simp [enc_list, okD', bigN]
    omega
  · rw [Bool.eq_false_iff]
    intro h
    have h := (isOrder_enc _ _).mp h
    have h2 : N ∈ (List.range N).map fun i => i + 1 := List.mem_map.mpr ⟨N - 1, by simp; omega, by omega⟩
    have := h.mem_iff.mp h2
    simp at this
def W : String → D := fun s => .str (Str.ofString s)
theorem law_true (F n : Nat) (ns : List Int) (hl : ns.length ≤ 63) : (orc prog F (n + 12)).call 28 [.v (scrD ns)] none = .ok (.v (.bool true)) .no [] := by
  obtain ⟨h0, e0, H0⟩ := hand_ok F (n + 10) ns hl
  rw [callN rfl rfl]
  have r4 : rangeD 0 4 = (List.range 4).map enc := rangeD_enc (n := 4)
  have r4' : rngOk 4 = true := by decide
  simp [b_law, e0, r4', r4]
  refine forL_inv (Q := fun o => endC (o.bind _) = _) (fun _ rest ρ => ∃ (k : Nat) (h : List D) (s2 s3 s4 s5 s6 s7 s9 : Sl), k + rest.length = 4 ∧ Hd (k * 200) h ∧ ρ = ⟨[.v (scrD ns), .ol h, s2, s3, s4, s5, s6, s7, .no, s9], false, none⟩) ?_ ?_ (List.range 4) [] _ ⟨0, h0, .no, .no, .no, .no, .no, .no, .no, rfl, H0, rfl⟩
  · rintro done x rest ρ ⟨k, h, s2, s3, s4, s5, s6, s7, s9, hk, H, rfl⟩
    have hk : k + (rest.length + 1) = 4 := by simpa using hk
    obtain ⟨N, S, h1, e1, w, hN, H1⟩ := c_law_work F (n + 8) _ H (by omega)
    obtain ⟨h2, e2, H2⟩ := c_is_right F (n + 3) _ N S w hN H1 (by omega)
    obtain ⟨d, h3, e3, bw, H3⟩ := c_no_work F (n + 7) _ H2 (by omega)
    obtain ⟨r4, h4, hr4, e4, H4⟩ := any_ok F (n + 8) _ H3 (by omega) (badL N) (by simp [badL]) (by simp [badL])
    obtain ⟨l1, l2⟩ := badL_ok N w.lo _ (List.getElem_mem hr4)
    generalize (badL N)[r4] = lot at e4 l1 l2
    obtain ⟨r5, h5, hr5, e5, H5⟩ := any_ok F (n + 8) _ H4 (by omega) (badO N) (by simp [badO]) (by simp [badO])
    obtain ⟨o1, o2⟩ := badO_ok N w.lo w.hi _ (List.getElem_mem hr5)
    generalize (badO N)[r5] = ord at e5 o1 o2
    obtain ⟨r6, h6, hr6, e6, H6⟩ := any_ok F (n + 6) _ H5 (by omega) [.int N, .int (-1), .none, .bool true, W "0"] (by simp) (by simp)
    have f6 : ∀ d ∈ ([.int N, .int (-1), .none, .bool true, W "0"] : List D), noDic d = true ∧ within d 0 ((N : Int) - 1) = false := by
      simp [W]
      omega
    obtain ⟨f1, f2⟩ := f6 _ (List.getElem_mem hr6)
    generalize ([.int N, .int (-1), .none, .bool true, W "0"] : List D)[r6] = fo at e6 f1 f2
    unfold badL at e4
    unfold badO at e5
    unfold W at e6
    have mul : binop .mul (.tuple [.int 0]) (.int ((N : Int) + 1)) = some (.v (.tuple (List.replicate (N + 1) (PyData.int 0)))) := by
      show (if _ then _ else _) = _
      have := w.hi
      have := w.lo
      rw [if_pos ⟨rfl, by omega, by omega, by simp⟩]
      simp
    have rN : rngOk (N : Int) = true := rngOk_nat (by have := w.hi; omega)
    have hx := w.hi
    have hlo := w.lo
    have wd : ∀ (h : List D) (b : E) (c : Nat) (v : String) (h' : List D) (s9 : Sl), (c, Str.ofString v) ∈ [(4, Str.ofString "work"), (2, Str.ofString "lot"), (1, Str.ofString "food"), (3, Str.ofString "order")] →
        evE (orc prog F (n + 9)) b ⟨[.v (scrD ns), .ol h, .v (.int (x : Int)), .v (enc (N, S)), .v (.int (N : Int)), .v d, .v lot, .v ord, .no, s9], false, none⟩ = .ex ⟨c, none⟩ ⟨[.v (scrD ns), .ol h', .v (.int (x : Int)), .v (enc (N, S)), .v (.int (N : Int)), .v d, .v lot, .v ord, .no, s9], false, none⟩ →
        (orc prog F (n + 11)).call 25 [] (some ([.v (scrD ns), .ol h, .v (.int (x : Int)), .v (enc (N, S)), .v (.int (N : Int)), .v d, .v lot, .v ord, .no, s9], b)) = .ok (.v (W v)) .no [.v (scrD ns), .ol h', .v (.int (x : Int)), .v (enc (N, S)), .v (.int (N : Int)), .v d, .v lot, .v ord, .no, s9] := fun h b c v h' s9 hc he => by
      rw [word_ex F (n + 9) c none b _ _ _ hc he]
      rfl
    have lot0 : isLotD (enc ([] : List Nat)) N = true := (isLot_enc _ _).mpr (by simp)
    have lot1 : isLotD (enc ([0] : List Nat)) N = true := (isLot_enc _ _).mpr (by simp; omega)
    have b1 := bad_must F (n + 2) d lot .none bw
    have b2 := c_must_nolot F (n + 2) N S w lot .none l1 l2
    have b3 := c_must_nofood F (n + 2) N S w [] (by simp) lot0 fo f1 f2
    have b4 := c_must_isfood F (n + 2) N 0 S w [0] (by simp) lot1 (by simp)
    have b5 := bad_washes F (n + 2) d ord bw
    have b6 := noorder_washes F (n + 2) N S w ord o1 o2
    have b7 := noorder_is F (n + 2) N S w ord lot o1 o2
    have b8 := nolot_is F (n + 2) N S w (List.range N) (List.Perm.refl _) lot l1 l2
    have rd : rangeD 0 (N : Int) = (List.range N).map enc := rangeD_enc
    simp only [enc_list (α := Nat), enc_pair, enc_nat, List.map_nil, List.map_cons] at b1 b2 b3 b4 b5 b6 b7 b8
    have w1 := fun s9 => wd h5 (.call 11 (.cons (.var 5) (.cons (.var 6) (.cons (.cst .none) .nil)))) 4 "work" h5 s9 (by simp) (by simp [b1])
    have w2 := fun s9 => wd h5 (.call 11 (.cons (.var 3) (.cons (.var 6) (.cons (.cst .none) .nil)))) 2 "lot" h5 s9 (by simp) (by simp [b2, enc_pair, enc_nat])
    have w3 := fun s9 => wd h5 (.call 11 (.cons (.var 3) (.cons (.tup .nil) (.cons (.callM 19 1 (.cons (.lst (.cons (.var 4) (.cons (.neg (.cst (.int 1))) (.cons (.cst .none) (.cons (.cst (.bool true)) (.cons (.cst (.str (Str.ofString "0"))) .nil)))))) .nil)) .nil)))) 1 "food" h6 s9 (by simp) (by simp [b3, e6, enc_pair, enc_nat])
    have w4 := fun s9 => wd h6 (.call 11 (.cons (.var 3) (.cons (.tup (.cons (.cst (.int 0)) .nil)) (.cons (.cst (.int 0)) .nil)))) 1 "food" h6 s9 (by simp) (by simp at b4; simp [b4, enc_pair, enc_nat])
    have w5 := fun s9 => wd h6 (.call 14 (.cons (.var 5) (.cons (.var 7) .nil))) 4 "work" h6 s9 (by simp) (by simp [b5])
    have w6 := fun s9 => wd h6 (.call 14 (.cons (.var 3) (.cons (.var 7) .nil))) 3 "order" h6 s9 (by simp) (by simp [b6, enc_pair, enc_nat])
    have w7 := fun s9 => wd h6 (.call 15 (.cons (.var 3) (.cons (.var 7) (.cons (.var 6) .nil)))) 3 "order" h6 s9 (by simp) (by simp [b7, enc_pair, enc_nat])
    have w8 := fun s9 => wd h6 (.call 15 (.cons (.var 3) (.cons (.bi .tuple (.cons (.lrg1 (.var 4)) .nil)) (.cons (.var 6) .nil)))) 2 "lot" h6 s9 (by simp) (by simp [b8, rN, rd, enc_pair, enc_nat])
    have cw : cmpop .ne (.list [W "work", W "lot", W "food", W "food", W "work", W "order", W "order", W "lot"]) (.list [.str (Str.ofString "work"), .str (Str.ofString "lot"), .str (Str.ofString "food"), .str (Str.ofString "food"), .str (Str.ofString "work"), .str (Str.ofString "order"), .str (Str.ofString "order"), .str (Str.ofString "lot")]) = some false := by decide +kernel
    have ib := bw F (n + 7)
    simp only [enc_nat, enc_pair] at e1 e2 w1 w2 w3 w4 w5 w6 w7 w8 ⊢
    simp [e1, e2, e3, e4, rN, rd, mul]
    rw [compF_all (List.range N) enc (fun i => .int ((i : Int) + 1))]
    · have ee : (List.range N).map (fun (i : Nat) => PyData.int ((i : Int) + 1)) = ((List.range N).map fun i => i + 1).map enc := by
        rw [List.map_map]
        rfl
      rw [enc_list] at e5
      simp [rN, rd, mul, ee, -List.map_map, e5, w1, w2, w3, w4, w5, w6, w7, w8, cw, ib]
      exact step_nx ⟨k + 1, h6, _, _, _, _, _, _, _, by omega, H6.mono (by omega), rfl⟩
    · exact i_range (by omega) rfl
    · rfl
    · rfl
    · simp [bigN]; omega
    · intro i hi
      simp [turnF_d, enc_nat]
  · rintro done ρ ⟨k, h, s2, s3, s4, s5, s6, s7, s9, hk, H, rfl⟩
    have w3 : Work 3 [(0, 1), (1, 0), (1, 2)] := ⟨by decide, by decide, by decide, by simp [plt], by decide⟩
    have a1 := c_washes_of F (n + 4) 3 _ w3 [0, 1, 2] (by decide)
    have a2 := c_washes_of F (n + 4) 3 _ w3 [0, 2, 1] (by decide)
    have g1 : greedy [(0, 1), (1, 0), (1, 2)] [0, 1, 2] 0 [] = [1, 2] := by decide
    have g2 : greedy [(0, 1), (1, 0), (1, 2)] [0, 2, 1] 0 [] = [2] := by decide
    rw [g1] at a1
    rw [g2] at a2
    have q1 := c_eq (α := List Nat) (by decide) [1, 2] [1, 2]
    have q2 := c_eq (α := List Nat) (by decide) [2] [2]
    simp [enc_pair, enc_list, enc_nat] at a1 a2 q1 q2
    simp [a1, a2, q1, q2]
end K62
end
set_option Elab.async false
set_option linter.all false
set_option maxRecDepth 100000
set_option maxHeartbeats 0
namespace K62
open PySem PySem.Spec PyProof.Rows Ev L2 LamX C8
def depth : Nat := 20
theorem ev_true : EvTrue 100000 depth := fun ns hl _ => ⟨.no, [], law_true 100000 9 ns hl⟩

end K62
open PySem PySem.W PySem.Calls PyProof.Rows
theorem PySem.Challenge.cw_kitchenhall_k62_whole_washes_between_foo_holds : PySem.Challenge.rw_kitchenhall_k62_whole_washes_between_foo.Holds := by
  w_on; o_law
  refine HandSHeadRun.head_any (r := K62.R) (q := view K62.R.prog [38]) (H := K62.hk) (ob := K62.ob) (M := 2400) (loose := K62.loose) (d := HandSHeadRun.topDef K62.R.prog 38) (kwd := []) K62.ob_eq (by kernel_rfl) (fun s => by kernel_rfl) K62.run (by kernel_rfl) (by kernel_rfl) (by kernel_rfl) (by rfl) (by first | assumption | decide +kernel) (by decide +kernel) ⟨rfl, rfl, rfl, rfl, rfl, by decide +kernel⟩ ?hw ?hc
  case hw => w_witness2
  case hc =>
    refine LamX.walk_ofTsE (l := K62.RW) (n := 63) (k := K62.depth + 2) (x := "script") (CX := fun w => L2.CX K62.RW.prog w) rfl (by decide) (by kernel_rfl) ⟨rfl, by decide, by decide⟩ ?F (fun w H s e s' z => Ev.cx_none z)
    intro w mg fL h Y G hmg0
    refine K62.at_law K62.ev_true w mg fL h Y G ?_
    have e : (HandSHeadRun.topDef K62.R.prog 38).name = ("law" : PySem.Str) := by kernel_rfl
    rw [← e]
    exact hmg0
