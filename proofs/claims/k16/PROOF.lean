import PyProof.Rows.All
import Wide.All
import OpenK.AllK
import Wide.FinOn
import HandS.ForMost
import HandS.Wide
import HandS.WideBits
import HandS.IsInst
import HandS.Exc
import HandS.ExcOwn
import HandS.CallSlots
import HandS.TryOnly
import HandS.ExcCtx
import HandS.HotCalls
import HandS.Defaults
import HandS.MakeKw
import HandS.MakeKwOnly
import PySem.Challenge.RW_oncenear_k16_sums_and_products_of_stretc
set_option Elab.async false
set_option linter.all false
set_option maxRecDepth 100000
/-! RfCore: a small language of slots, its plain meaning. -/
namespace Rf
open PySem

/-- plain data -/
inductive D where
  | non | bl (b : Bool) | int (i : Int) | str (x : Str) | tup (l : List D) | lst (l : List D) | frz (l : List D) | ins (c : Nat) (l : List D)
/-- what a slot holds: nothing, a datum, a list of the frame's own (borrowed or not) -/
inductive S where
  | non | val (d : D) | own (b : Bool) (l : List D)
/-- how an evaluation ends -/
inductive Res (α : Type) where
  | ok (a : α) (r : List S)
  | exc (c : Nat) (l : List D) (r : List S)
  | bot
def Res.bind {α β : Type} (x : Res α) (f : α → List S → Res β) : Res β :=
  match x with
  | .ok a r => f a r
  | .exc c l r => .exc c l r
  | .bot => .bot
def Res.of {α : Type} (x : Option α) (r : List S) : Res α :=
  match x with
  | some a => .ok a r
  | none => .bot

inductive Op where | add | sub | mul | fdv | mod | shl | shr | pow | band
inductive Cp where | lt | le | gt | ge | eq | ne | is | nis | isin | notin
/-- builtins by values -/
inductive P where
  | len | abs | min2 | max2 | int | str | bits | list | idx | all
  | isa (t : Nat) | fld (c i : Nat) | isc (c : Nat) | drop (n : Nat)

def lineN : Nat := 16777216

def mulOk (i j : Int) : Bool := decide ((Builtin.Int.intBits i : Int) + (Builtin.Int.intBits j : Int) ≤ 134217728)
def shlOk (i j : Int) : Bool := decide (0 ≤ j) && decide ((Builtin.Int.intBits i : Int) + j ≤ 2 ^ 27)
def powOk (i j : Int) : Bool := decide (0 ≤ j) && decide (j ≤ 1000000) && decide (i.natAbs < 2 ^ 64)
def arI : Op → Int → Int → Option Int
  | .add, i, j => some (i + j)
  | .sub, i, j => some (i - j)
  | .mul, i, j => if mulOk i j = true then some (i * j) else none
  | .fdv, i, j => if 0 < j then (if Builtin.divisionGoesByPylong i j = true then none else some (i / j)) else none
  | .mod, i, j => if 0 < j then some (i % j) else none
  | .shl, i, j => if shlOk i j = true then some (i * 2 ^ j.toNat) else none
  | .shr, i, j => if 0 ≤ j then some (i / 2 ^ j.toNat) else none
  | .pow, i, j => if powOk i j = true then some (i ^ j.toNat) else none
  | .band, i, j => some (Builtin.bitAnd i j)
def repL {α : Type} : Nat → List α → List α
  | 0, _ => []
  | n + 1, l => l ++ repL n l
def bin : Op → D → D → Option D
  | o, .int i, .int j => (arI o i j).map .int
  | .add, .str x, .str y => if x.length + y.length ≤ lineN then some (.str (x ++ y)) else none
  | .add, .lst a, .lst b => if a.length ≤ lineN then (if b.length ≤ lineN then (if a.length + b.length ≤ lineN then some (.lst (a ++ b)) else none) else none) else none
  | .mul, .lst a, .int k => if 0 ≤ k then (if k < 2 ^ 62 then (if a.length * k.toNat ≤ lineN then some (.lst (repL k.toNat a)) else none) else none) else none
  | _, _, _ => none

mutual
/-- as data that == compares -/
def toPy : D → Option PyData
  | .non => some .none
  | .bl b => some (.bool b)
  | .int i => some (.int i)
  | .str x => some (.str x)
  | .tup l => (toPys l).map .tuple
  | .lst l => (toPys l).map .list
  | .frz l => (toPys l).map .list
  | .ins _ _ => none
def toPys : List D → Option (List PyData)
  | [] => some []
  | d :: l => (toPy d).bind fun p => (toPys l).map fun q => p :: q
end
def eqD (x y : D) : Option Bool :=
  match toPy x, toPy y with
  | some p, some q => if SeqAt.shaped p = true then (if SeqAt.shaped q = true then some (PyData.eqv p q) else none) else none
  | _, _ => none
def isNon : D → Bool
  | .non => true
  | _ => false
def flatD : D → Bool
  | .non => true
  | .bl _ => true
  | .int _ => true
  | .str _ => true
  | _ => false
def eqF : D → D → Bool
  | .non, .non => true
  | .bl a, .bl b => a == b
  | .bl a, .int b => (if a then 1 else 0) == b
  | .int a, .bl b => a == (if b then 1 else 0)
  | .int a, .int b => a == b
  | .str a, .str b => a == b
  | _, _ => false
def inL (x : D) (l : List D) : Option Bool := if flatD x = true then (if l.all flatD = true then some (l.any fun y => eqF y x) else none) else none
def inD (x : D) : D → Option Bool
  | .tup l => inL x l
  | .lst l => inL x l
  | .frz l => inL x l
  | _ => none
def cmp : Cp → D → D → Option Bool
  | .lt, .int i, .int j => some (decide (i < j))
  | .le, .int i, .int j => some (decide (i ≤ j))
  | .gt, .int i, .int j => some (decide (j < i))
  | .ge, .int i, .int j => some (decide (j ≤ i))
  | .eq, x, y => eqD x y
  | .ne, x, y => (eqD x y).map not
  | .is, x, .non => some (isNon x)
  | .nis, x, .non => some (!isNon x)
  | .isin, x, y => inD x y
  | .notin, x, y => (inD x y).map not
  | _, _, _ => none

def isBl : D → Bool
  | .bl _ => true
  | _ => false
/-- isinstance against int, bool, tuple, list, str (0 .. 4); own classes from 10 on -/
def isa : Nat → D → Option Bool
  | 0, .int _ => some true
  | 0, .bl _ => some true
  | 0, .non | 0, .str _ | 0, .tup _ | 0, .lst _ => some false
  | 1, .bl _ => some true
  | 1, .int _ | 1, .non | 1, .str _ | 1, .tup _ | 1, .lst _ => some false
  | 2, .tup _ => some true
  | 2, .int _ | 2, .non | 2, .str _ | 2, .bl _ | 2, .lst _ => some false
  | 3, .lst _ => some true
  | 3, .int _ | 3, .non | 3, .str _ | 3, .bl _ | 3, .tup _ => some false
  | 4, .str _ => some true
  | 4, .int _ | 4, .non | 4, .lst _ | 4, .bl _ | 4, .tup _ => some false
  | _, _ => none
def pLen : List D → Option D
  | [.tup l] => some (.int l.length)
  | [.lst l] => some (.int l.length)
  | [.frz l] => some (.int l.length)
  | [.str x] => if x.length ≤ lineN then some (.int x.length) else none
  | _ => none
def pAbs : List D → Option D
  | [.int i] => some (.int (if i < 0 then -i else i))
  | _ => none
def pMin : List D → Option D
  | [.int i, .int j] => some (.int (if j < i then j else i))
  | _ => none
def pMax : List D → Option D
  | [.int i, .int j] => some (.int (if j > i then j else i))
  | _ => none
def pInt : List D → Option D
  | [.int i] => some (.int i)
  | [.bl b] => some (.int (if b = true then 1 else 0))
  | _ => none
def pStr : List D → Option D
  | [.int i] => if i.natAbs.log2 < 1920 then some (.str (Str.ofString (toString i))) else none
  | _ => none
def pBits : List D → Option D
  | [.int i] => some (.int (Builtin.Int.intBits i : Nat))
  | _ => none
def pList : List D → Option D
  | [.tup l] => some (.lst l)
  | [.lst l] => some (.lst l)
  | [.frz l] => some (.lst l)
  | _ => none
def pIsa (t : Nat) : List D → Option D
  | [d] => (isa t d).map .bl
  | _ => none
def bls : List D → Option (List Bool)
  | [] => some []
  | .bl b :: l => (bls l).map fun bs => b :: bs
  | _ => none
def pAll : List D → Option D
  | [.lst l] => (bls l).map fun bs => .bl (bs.all id)
  | _ => none
def pIdx : List D → Option D
  | [.tup l, .int i] => L2.atI l i
  | [.lst l, .int i] => L2.atI l i
  | [.frz l, .int i] => L2.atI l i
  | _ => none
def pFld (c i : Nat) : List D → Option D
  | [.ins c' l] => if c' = c then l[i]? else none
  | _ => none
def pIsc (c : Nat) : List D → Option D
  | [.ins c' _] => if c' = c then some (.bl true) else none
  | [.non] => some (.bl false)
  | [.bl _] => some (.bl false)
  | [.int _] => some (.bl false)
  | [.str _] => some (.bl false)
  | [.tup _] => some (.bl false)
  | [.lst _] => some (.bl false)
  | _ => none
def pDrop (n : Nat) : List D → Option D
  | [.lst l] => some (.lst (l.drop n))
  | _ => none
def prim : P → List D → Option D
  | .len, l => pLen l
  | .abs, l => pAbs l
  | .min2, l => pMin l
  | .max2, l => pMax l
  | .int, l => pInt l
  | .str, l => pStr l
  | .bits, l => pBits l
  | .list, l => pList l
  | .isa t, l => pIsa t l
  | .idx, l => pIdx l
  | .all, l => pAll l
  | .fld c i, l => pFld c i l
  | .isc c, l => pIsc c l
  | .drop n, l => pDrop n l

/-- targets -/
inductive Tg where
  | name (i : Nat) | tup (l : List Nat)
mutual
/-- expressions -/
inductive E where
  | var (i : Nat) | cst (d : D)
  | bin (o : Op) (a b : E) | cmp (o : Cp) (a b : E) | chn (o p : Cp) (a b c : E)
  | and (a b : E) | or (a b : E) | not (a : E) | neg (a : E) | ite (c a b : E)
  | tup (l : Es) | lst (l : Es) | prim (p : P) (l : Es)
  | mix (i : Nat) (e : E)
  | call (f : Nat) (perm : List (Nat ⊕ D)) (l : As) | callk (f : Nat) (perm : List (Nat ⊕ D)) (l m : Es)
  | comp (i : Nat) (it : It) (c : E) (e : E)
  | comp2 (i : Nat) (it : It) (j : Nat) (it2 : It) (e : E)
  | make (c f : Nat) (l : Es) | meth (c f : Nat) (perm : List (Nat ⊕ D)) (o : E) (l : As)
inductive Es where
  | nil | cons (e : E) (l : Es)
/-- arguments of a def: a value, a list of the frame's own, a new list -/
inductive As where
  | nil | val (e : E) (l : As) | own (i : Nat) (l : As) | tmp (e : Es)
/-- what a for walks -/
inductive It where
  | val (e : E) | rng1 (a : E) | rng2 (a b : E) | rng3 (a b c : E)
end
/-- an evaluated argument -/
inductive Av where
  | val (d : D) | own (i : Nat) | tmp (l : List D)

def getS (r : List S) (i : Nat) : S := r.getD i .non
/-- a slot is read as a value: a list of one's own is one's own no more -/
def rd (r : List S) (i : Nat) : Res D :=
  match getS r i with
  | .val d => .ok d r
  | .own false l => .ok (.lst l) (r.set i (.val (.lst l)))
  | _ => .bot
def putS (r : List S) (i : Nat) (s : S) : Option (List S) :=
  match getS r i with
  | .own true _ => none
  | _ => some (r.set i s)
def putAll : List Nat → List D → List S → Option (List S)
  | [], [], r => some r
  | i :: is, d :: ds, r => (putS r i (.val d)).bind fun r' => putAll is ds r'
  | _, _, _ => none
def bindT : Tg → D → List S → Option (List S)
  | .name i, d, r => putS r i (.val d)
  | .tup is, .tup ds, r => putAll is ds r
  | .tup is, .lst ds, r => putAll is ds r
  | _, _, _ => none
/-- the slots that hold the arguments -/
def avS (r : List S) : Av → S
  | .val d => .val d
  | .own i => (match getS r i with
    | .own _ l => .own true l
    | _ => .non)
  | .tmp l => .own true l
/-- into the parameters' order, defaults between -/
def permG {α : Type} : List (Nat ⊕ D) → List α → List α → List α
  | .inl i :: p, x :: xs, l => l.getD i x :: permG p xs l
  | .inr _ :: p, x :: xs, l => x :: permG p xs l
  | _, _, _ => []
def permD : List (Nat ⊕ D) → List S
  | [] => []
  | .inl _ :: p => .non :: permD p
  | .inr d :: p => .val d :: permD p
def permS (r : List S) (vs : List Av) (p : List (Nat ⊕ D)) : List S := permG p (permD p) (vs.map (avS r))
def isOwn (j : Nat) : Option Av → Bool
  | some (.own i) => i == j
  | _ => false
def noOwn (j : Nat) : List Av → Bool
  | [] => true
  | v :: vs => !isOwn j (some v) && noOwn j vs
/-- the parameter to which the list of slot j is lent -/
def lentAt (vs : List Av) : List (Nat ⊕ D) → Nat → Nat → Option Nat
  | [], _, _ => none
  | .inl i :: p, k, j => if isOwn j vs[i]? = true then some k else lentAt vs p (k + 1) j
  | .inr _ :: p, k, j => lentAt vs p (k + 1) j
def back1 (outs : List S) : Option Nat → S → S
  | some k, .own b l => (match getS outs k with
    | .own _ l' => .own b l'
    | _ => .own b l)
  | _, s => s
/-- behind the call: the lists lent come back -/
def backS (outs : List S) (vs : List Av) (p : List (Nat ⊕ D)) : Nat → List S → List S
  | _, [] => []
  | j, s :: r => back1 outs (lentAt vs p 0 j) s :: backS outs vs p (j + 1) r

structure Cx where
  call : Nat → List S → Res D
  fuel : Nat

def seqOf : D → Option (List D)
  | .lst l => some l
  | .tup l => some l
  | _ => none
def rng (lo : Int) : Nat → List D
  | 0 => []
  | n + 1 => .int lo :: rng (lo + 1) n
def rngD (lo : Int) : Nat → List D
  | 0 => []
  | n + 1 => .int lo :: rngD (lo - 1) n
def rngOk (i : Int) : Bool := decide (-(2 ^ 62) ≤ i) && decide (i < 2 ^ 62)

def clr (i : Nat) (r : List S) : Option (List S) :=
  match getS r i with
  | .own _ _ => none
  | _ => some (r.set i .non)
/-- a comprehension's turns -/
def compL (i : Nat) (c e : List S → Res D) : List D → List D → List S → Res (List D)
  | [], acc, r => .ok acc r
  | x :: xs, acc, r => (c (r.set i (.val x))).bind fun b r2 => match b with
      | .bl true => (e r2).bind fun y r3 => if acc.length < lineN then (match clr i r3 with
        | some r4 => compL i c e xs (acc ++ [y]) r4
        | none => .bot) else .bot
      | .bl false => (match clr i r2 with
        | some r3 => compL i c e xs acc r3
        | none => .bot)
      | _ => .bot

def isOk : D → Bool
  | .non => true
  | _ => false
def yes (r : List S) : Res D := .ok (.bl true) r
/-- two for clauses -/
def compO (i j : Nat) (it2 : List S → Res (List D)) (e : List S → Res D) : List D → List D → List S → Res (List D)
  | [], acc, r => .ok acc r
  | x :: xs, acc, r => (it2 (r.set i (.val x))).bind fun ys r2 => match clr j r2 with
    | some r2' => (compL j yes e ys acc r2').bind fun acc' r3 => (match clr i r3 with
      | some r4 => compO i j it2 e xs acc' r4
      | none => .bot)
    | none => .bot
def isNS : S → Bool
  | .non => true
  | _ => false
def isVal : S → Bool
  | .own _ _ => false
  | _ => true
mutual
def evE (C : Cx) : E → List S → Res D
  | .var i, r => rd r i
  | .cst d, r => .ok d r
  | .bin o a b, r => (evE C a r).bind fun x r1 => (evE C b r1).bind fun y r2 => .of (bin o x y) r2
  | .cmp o a b, r => (evE C a r).bind fun x r1 => (evE C b r1).bind fun y r2 => .of ((cmp o x y).map .bl) r2
  | .chn o p a b c, r => (evE C a r).bind fun x r1 => (evE C b r1).bind fun y r2 => match cmp o x y with
    | some true => (evE C c r2).bind fun z r3 => .of ((cmp p y z).map .bl) r3
    | some false => .ok (.bl false) r2
    | none => .bot
  | .and a b, r => (evE C a r).bind fun x r1 => match x with
    | .bl true => evE C b r1
    | .bl false => .ok (.bl false) r1
    | _ => .bot
  | .or a b, r => (evE C a r).bind fun x r1 => match x with
    | .bl false => evE C b r1
    | .bl true => .ok (.bl true) r1
    | _ => .bot
  | .not a, r => (evE C a r).bind fun x r1 => match x with
    | .bl b => .ok (.bl (!b)) r1
    | _ => .bot
  | .neg a, r => (evE C a r).bind fun x r1 => match x with
    | .int i => .ok (.int (-i)) r1
    | _ => .bot
  | .ite c a b, r => (evE C c r).bind fun x r1 => match x with
    | .bl true => evE C a r1
    | .bl false => evE C b r1
    | _ => .bot
  | .tup l, r => (evEs C l r).bind fun ds r1 => if ds.length ≤ lineN then .ok (.tup ds) r1 else .bot
  | .lst l, r => (evEs C l r).bind fun ds r1 => if ds.length ≤ lineN then .ok (.lst ds) r1 else .bot
  | .prim p l, r => (evEs C l r).bind fun ds r1 => .of (prim p ds) r1
  | .mix i e, r => (match getS r i with
    | .own _ _ => (evE C e r).bind fun x r1 => match getS r1 i, x with
      | .own _ l, .int j => .of (L2.atI l j) r1
      | _, _ => .bot
    | _ => .bot)
  | .call f perm l, r => (evAs C l r).bind fun vs r1 => match C.call f (permS r1 vs perm) with
    | .ok d outs => .ok d (backS outs vs perm 0 r1)
    | .exc c l outs => .exc c l (backS outs vs perm 0 r1)
    | .bot => .bot
  | .callk f perm l m, r => (evEs C l r).bind fun xs r1 => (evEs C m r1).bind fun ys r2 => match C.call f (permG perm (permD perm) ((xs ++ ys).map .val)) with
    | .ok d _ => .ok d r2
    | .exc c l _ => .exc c l r2
    | .bot => .bot
  | .comp i it c e, r => (evI C it r).bind fun xs r1 => match getS r1 i with
    | .own _ _ => .bot
    | s => (match compL i (evE C c) (evE C e) xs [] (r1.set i .non) with
      | .ok ys r2 => .ok (.lst ys) (r2.set i s)
      | _ => .bot)
  | .comp2 i it j it2 e, r => (evI C it r).bind fun xs r1 => if (isNS (getS r1 i) && isNS (getS r1 j)) = true then (match compO i j (evI C it2) (evE C e) xs [] ((r1.set j .non).set i .non) with
      | .ok ys r2 => .ok (.lst ys) ((r2.set i .non).set j .non)
      | _ => .bot) else .bot
  | .make c f l, r => (evEs C l r).bind fun ds r1 => match C.call f (.non :: ds.map .val) with
    | .ok d _ => if isOk d = true then .ok (.ins c ds) r1 else .bot
    | _ => .bot
  | .meth c f perm o l, r => (evE C o r).bind fun x r1 => match x with
    | .ins c' ds => if c' = c then (evAs C l r1).bind fun vs r2 => (match C.call f (permS r2 (.val (.ins c' ds) :: vs) perm) with
      | .ok d outs => .ok d (backS outs (.val (.ins c' ds) :: vs) perm 0 r2)
      | .exc q m outs => .exc q m (backS outs (.val (.ins c' ds) :: vs) perm 0 r2)
      | .bot => .bot) else .bot
    | _ => .bot
def evEs (C : Cx) : Es → List S → Res (List D)
  | .nil, r => .ok [] r
  | .cons e l, r => (evE C e r).bind fun x r1 => (evEs C l r1).bind fun xs r2 => .ok (x :: xs) r2
def evAs (C : Cx) : As → List S → Res (List Av)
  | .nil, r => .ok [] r
  | .val e l, r => (evE C e r).bind fun x r1 => (evAs C l r1).bind fun xs r2 => .ok (.val x :: xs) r2
  | .own i l, r => (match getS r i with
    | .own _ _ => (evAs C l r).bind fun xs r2 => (match getS r2 i with
      | .own _ _ => if noOwn i xs = true then .ok (.own i :: xs) r2 else .bot
      | _ => .bot)
    | _ => .bot)
  | .tmp es, r => (evEs C es r).bind fun x r1 => if x.length ≤ lineN then .ok [.tmp x] r1 else .bot
def evI (C : Cx) : It → List S → Res (List D)
  | .val e, r => (evE C e r).bind fun x r1 => .of (seqOf x) r1
  | .rng1 a, r => (evE C a r).bind fun x r1 => match x with
    | .int j => if rngOk j = true then .ok (rng 0 j.toNat) r1 else .bot
    | _ => .bot
  | .rng2 a b, r => (evE C a r).bind fun x r1 => (evE C b r1).bind fun y r2 => match x, y with
    | .int i, .int j => if (rngOk i && rngOk j) = true then .ok (rng i (j - i).toNat) r2 else .bot
    | _, _ => .bot
  | .rng3 a b c, r => (evE C a r).bind fun x r1 => (evE C b r1).bind fun y r2 => (evE C c r2).bind fun z r3 => match x, y, z with
    | .int i, .int j, .int q => if q = -1 then (if (rngOk i && rngOk j) = true then .ok (rngD i (i - j).toNat) r3 else .bot) else .bot
    | _, _, _ => .bot
end

/-- statements -/
inductive St where
  | skip | seq (a b : St) | asg (t : Tg) (e : E) | new (i : Nat) (e : E) | app (i : Nat) (e : E) | put (i : Nat) (x e : E)
  | exp (e : E) | ret (e : E) | ite (c : E) (a b : St) | whl (c : E) (b : St) | for (t : Tg) (it : It) (b : St) | brk | cnt | never
inductive SR where
  | nx (r : List S) | rt (d : D) (r : List S) | bk (r : List S) | ct (r : List S) | exc (c : Nat) (l : List D) (r : List S) | bot
def Res.thn {α : Type} (x : Res α) (f : α → List S → SR) : SR :=
  match x with
  | .ok a r => f a r
  | .exc c l r => .exc c l r
  | .bot => .bot
def SR.of (x : Option (List S)) : SR :=
  match x with
  | some r => .nx r
  | none => .bot
def SR.thn (x : SR) (f : List S → SR) : SR :=
  match x with
  | .nx r => f r
  | y => y
def newK (i : Nat) (x : D) (r : List S) : SR :=
  match x with
  | .lst l => .of (putS r i (.own false l))
  | _ => .bot
def whl (c : List S → Res D) (b : List S → SR) : Nat → List S → SR
  | 0, _ => .bot
  | n + 1, r => (c r).thn fun x r1 => match x with
    | .bl true => (match b r1 with
      | .nx r2 => whl c b n r2
      | .ct r2 => whl c b n r2
      | .bk r2 => .nx r2
      | y => y)
    | .bl false => .nx r1
    | _ => .bot
def forL (t : D → List S → Option (List S)) (b : List S → SR) : List D → List S → SR
  | [], r => .nx r
  | x :: xs, r => match t x r with
    | none => .bot
    | some r1 => match b r1 with
      | .nx r2 => forL t b xs r2
      | .ct r2 => forL t b xs r2
      | .bk r2 => .nx r2
      | y => y
def exS (C : Cx) : St → List S → SR
  | .skip, r => .nx r
  | .seq a b, r => (exS C a r).thn fun r1 => exS C b r1
  | .asg t e, r => (evE C e r).thn fun x r1 => .of (bindT t x r1)
  | .new i e, r => (evE C e r).thn (newK i)
  | .app i e, r => (match getS r i with
    | .own _ _ => (evE C e r).thn fun x r1 => (match getS r1 i with
      | .own b l => if l.length < lineN then .nx (r1.set i (.own b (l ++ [x]))) else .bot
      | _ => .bot)
    | _ => .bot)
  | .put i x e, r => (evE C e r).thn fun v r1 => (match getS r1 i with
    | .own _ _ => (evE C x r1).thn fun j r2 => (match getS r2 i, j with
      | .own b l, .int k => (match L2.ixN l.length k with
        | some n => .nx (r2.set i (.own b (l.set n v)))
        | none => .bot)
      | _, _ => .bot)
    | _ => .bot)
  | .exp e, r => (evE C e r).thn fun _ r1 => .nx r1
  | .ret e, r => (evE C e r).thn fun x r1 => .rt x r1
  | .ite c a b, r => (evE C c r).thn fun x r1 => match x with
    | .bl true => exS C a r1
    | .bl false => exS C b r1
    | _ => .bot
  | .whl c b, r => whl (evE C c) (exS C b) C.fuel r
  | .for t it b, r => (evI C it r).thn fun xs r1 => forL (bindT t) (exS C b) xs r1
  | .brk, r => .bk r
  | .cnt, r => .ct r
  | .never, _ => .bot

/-- a def: how many parameters, how many slots, its body -/
structure Fd where
  np : Nat
  n : Nat
  body : St
def finish (np : Nat) : SR → Res D
  | .nx r => .ok .non (r.take np)
  | .rt d r => .ok d (r.take np)
  | .exc c l r => .exc c l (r.take np)
  | _ => .bot
def run (T : Nat → Option Fd) (fuel : Nat) : Nat → Nat → List S → Res D
  | 0, _, _ => .bot
  | k + 1, f, args => match T f with
    | none => .bot
    | some d => finish d.np (exS ⟨run T fuel k, fuel⟩ d.body (args ++ List.replicate (d.n - args.length) .non))
end Rf

set_option Elab.async false
set_option linter.all false
set_option maxRecDepth 100000
set_option maxHeartbeats 2000000
/-! RfRep: how the model's values stand for plain data. -/
namespace Rf
open PySem PySem.Spec PyProof.Rows L2

/-- classes by number: where they stand, their fields' names -/
structure CI where
  ad : Nat → Addr
  nm : Nat → List Str
mutual
inductive Rep (K : PySem.W.Frag) (ci : CI) (H : Hp) : V → D → Prop
  | non : Rep K ci H .non .non
  | bl (b : Bool) : Rep K ci H (.bl b) (.bl b)
  | int (i : Int) : Rep K ci H (.int i) (.int i)
  | str (x : Str) : Rep K ci H (.str x) (.str x)
  | tup {a : Addr} {vs : List V} {ds : List D} : SqT K H a vs → Reps K ci H vs ds → Rep K ci H (.ref a) (.tup ds)
  | lst {a : Addr} {vs : List V} {ds : List D} : H a = some (.lst vs) → Reps K ci H vs ds → Rep K ci H (.ref a) (.lst ds)
  | frz {a : Addr} {vs : List V} {ds : List D} : SqL K H a vs → Reps K ci H vs ds → Rep K ci H (.ref a) (.frz ds)
  | ins {a dx : Addr} {c : Nat} {fs : List (Str × V)} {ds : List D} : H a = some (.ins (ci.ad c) dx fs) → fs.map (·.1) = ci.nm c → Reps K ci H (fs.map (·.2)) ds → Rep K ci H (.ref a) (.ins c ds)
inductive Reps (K : PySem.W.Frag) (ci : CI) (H : Hp) : List V → List D → Prop
  | nil : Reps K ci H [] []
  | cons {v : V} {vs : List V} {d : D} {ds : List D} : Rep K ci H v d → Reps K ci H vs ds → Reps K ci H (v :: vs) (d :: ds)
end
theorem sqt_mono {K : PySem.W.Frag} {H H' : Hp} (e : Same H H') {a : Addr} {xs : List V} (h : SqT K H a xs) : SqT K H' a xs := by
  rcases h with (h | ⟨o, h⟩) | h
  · exact .inl (.inl (e _ _ h))
  · exact .inl (.inr ⟨o, e _ _ h⟩)
  · exact .inr h
section
variable {K : PySem.W.Frag} {ci : CI} {H H' : Hp}
mutual
theorem Rep.mono (e : Same H H') : ∀ {v : V} (d : D), Rep K ci H v d → Rep K ci H' v d
  | _, .non, .non => .non
  | _, .bl _, .bl b => .bl b
  | _, .int _, .int i => .int i
  | _, .str _, .str x => .str x
  | _, .tup _, .tup s r => .tup (sqt_mono e s) (Reps.mono e _ r)
  | _, .lst _, .lst s r => .lst (e _ _ s) (Reps.mono e _ r)
  | _, .frz _, .frz s r => .frz (e.seq s) (Reps.mono e _ r)
  | _, .ins _ _, .ins s n r => .ins (e _ _ s) n (Reps.mono e _ r)
theorem Reps.mono (e : Same H H') : ∀ {vs : List V} (ds : List D), Reps K ci H vs ds → Reps K ci H' vs ds
  | _, [], .nil => .nil
  | _, _ :: _, .cons r t => .cons (Rep.mono e _ r) (Reps.mono e _ t)
end
theorem Reps.length : ∀ {vs : List V} {ds : List D}, Reps K ci H vs ds → vs.length = ds.length
  | _, _, .nil => rfl
  | _, _, .cons _ t => congrArg Nat.succ (Reps.length t)
theorem Reps.append : ∀ {vs ws : List V} {ds es : List D}, Reps K ci H vs ds → Reps K ci H ws es → Reps K ci H (vs ++ ws) (ds ++ es)
  | _, _, _, _, .nil, s => s
  | _, _, _, _, .cons r t, s => .cons r (Reps.append t s)
theorem Reps.get : ∀ {vs : List V} {ds : List D} {i : Nat} {d : D}, Reps K ci H vs ds → ds[i]? = some d → ∃ v, vs[i]? = some v ∧ Rep K ci H v d
  | _, _, _, _, .nil, e => by simp at e
  | _, _, 0, _, .cons r _, e => by simp at e; subst e; exact ⟨_, rfl, r⟩
  | _, _, i + 1, _, .cons _ t, e => by
    obtain ⟨v, h1, h2⟩ := Reps.get (i := i) t (by simpa using e)
    exact ⟨v, by simpa using h1, h2⟩
theorem Reps.get' : ∀ {vs : List V} {ds : List D} {i : Nat} {v : V}, Reps K ci H vs ds → vs[i]? = some v → ∃ d, ds[i]? = some d ∧ Rep K ci H v d
  | _, _, _, _, .nil, e => by simp at e
  | _, _, 0, _, .cons r _, e => by simp at e; subst e; exact ⟨_, rfl, r⟩
  | _, _, i + 1, _, .cons _ t, e => by
    obtain ⟨v, h1, h2⟩ := Reps.get' (i := i) t (by simpa using e)
    exact ⟨v, by simpa using h1, h2⟩
theorem Reps.set {v : V} {d : D} (r : Rep K ci H v d) : ∀ {vs : List V} {ds : List D} (i : Nat), Reps K ci H vs ds → Reps K ci H (vs.set i v) (ds.set i d)
  | _, _, _, .nil => .nil
  | _, _, 0, .cons _ t => .cons r t
  | _, _, i + 1, .cons q t => .cons q (Reps.set r i t)
theorem Reps.rep : ∀ (n : Nat) {vs : List V} {ds : List D}, Reps K ci H vs ds → Reps K ci H (List.replicate n vs).flatten (repL n ds)
  | 0, _, _, _ => .nil
  | n + 1, _, _, r => by
    rw [List.replicate_succ, List.flatten_cons]
    exact r.append (Reps.rep n r)
theorem Reps.atI {vs : List V} {ds : List D} {i : Int} {d : D} (r : Reps K ci H vs ds) (h : L2.atI ds i = some d) : ∃ v, L2.atI vs i = some v ∧ Rep K ci H v d := by
  unfold L2.atI at h ⊢
  rw [r.length]
  cases e : ixN ds.length i with
  | none => rw [e] at h; cases h
  | some j =>
    rw [e] at h
    exact Reps.get r h
mutual
theorem Rep.dp : ∀ {v : V} (d : D) {p : PyData}, Rep K ci H v d → toPy d = some p → Dp K H v p
  | _, .non, _, .non, e => by unfold toPy at e; cases e; exact .non
  | _, .bl _, _, .bl b, e => by unfold toPy at e; cases e; exact .bl b
  | _, .int _, _, .int i, e => by unfold toPy at e; cases e; exact .int i
  | _, .str _, _, .str x, e => by unfold toPy at e; cases e; exact .str x
  | _, .tup l, _, .tup s r, e => by
    unfold toPy at e
    cases q : toPys l with
    | none => rw [q] at e; cases e
    | some ps => rw [q] at e; cases e; exact .tup s (Reps.dp l r q)
  | _, .lst l, _, .lst s r, e => by
    unfold toPy at e
    cases q : toPys l with
    | none => rw [q] at e; cases e
    | some ps => rw [q] at e; cases e; exact .lst (.of s) (Reps.dp l r q)
  | _, .frz l, _, .frz s r, e => by
    unfold toPy at e
    cases q : toPys l with
    | none => rw [q] at e; cases e
    | some ps => rw [q] at e; cases e; exact .lst s (Reps.dp l r q)
  | _, .ins _ _, _, .ins _ _ _, e => by unfold toPy at e; cases e
theorem Reps.dp : ∀ {vs : List V} (ds : List D) {ps : List PyData}, Reps K ci H vs ds → toPys ds = some ps → DpAll K H vs ps
  | _, [], _, .nil, e => by unfold toPys at e; cases e; exact .nil
  | _, d :: ds, _, .cons r t, e => by
    unfold toPys at e
    cases q : toPy d with
    | none => rw [q] at e; cases e
    | some p =>
      rw [q] at e
      cases q2 : toPys ds with
      | none => rw [q2] at e; cases e
      | some ps => rw [q2] at e; cases e; exact .cons (Rep.dp d r q) (Reps.dp ds t q2)
end

/-! ### the heap grows -/
/-- H0: what stands for good; H: all that is tracked -/
structure Grow (H0 H H0' H' : Hp) : Prop where
  a : Same H0 H0'
  b : Same H H'
  c : Same H0' H'
  d : ∀ b o, H0' b = some o → H0 b = some o ∨ H b = none
theorem Grow.refl {H0 H : Hp} (s : Same H0 H) : Grow H0 H H0 H := ⟨.refl _, .refl _, s, fun _ _ e => .inl e⟩
theorem same_upd {H : Hp} {p : Addr} {o : HO} (h : H p = none) : Same H (upd H p o) := fun b x e => by
  rw [upd_ne (ne_of_none e h)]
  exact e
theorem same_none {H0 H : Hp} (s : Same H0 H) {p : Addr} (h : H p = none) : H0 p = none := by
  cases e : H0 p with
  | none => rfl
  | some o => rw [s p o e] at h; cases h
theorem same_upd2 {H0 H : Hp} (s : Same H0 H) {p : Addr} {o : HO} : Same (upd H0 p o) (upd H p o) := fun b x e => by
  by_cases hb : b = p
  · subst hb
    rw [upd_same] at e ⊢
    exact e
  · rw [upd_ne hb] at e ⊢
    exact s b x e
theorem Grow.new {H0 H : Hp} (s : Same H0 H) {p : Addr} {o : HO} (h : H p = none) : Grow H0 H (upd H0 p o) (upd H p o) :=
  ⟨same_upd (same_none s h), same_upd h, same_upd2 s, fun b x e => by
    by_cases hb : b = p
    · subst hb; exact .inr h
    · rw [upd_ne hb] at e; exact .inl e⟩
theorem Grow.trans {H0 H H1 H2 H3 H4 : Hp} (a : Grow H0 H H1 H2) (b : Grow H1 H2 H3 H4) : Grow H0 H H3 H4 :=
  ⟨a.a.trans b.a, a.b.trans b.b, b.c, fun c o e => by
    rcases b.d c o e with h | h
    · exact a.d c o h
    · exact .inr (same_none a.b h)⟩
/-- what is wanted of a datum that comes out -/
def Post (K : PySem.W.Frag) (ci : CI) (H0 H : Hp) (z : D) (Q : VK) : Prop := ∀ v H0' H', Grow H0 H H0' H' → Rep K ci H0' v z → Q v H'
theorem Post.here {H0 : Hp} {z : D} {Q : VK} (p : Post K ci H0 H z Q) (s : Same H0 H) {v : V} (r : Rep K ci H0 v z) : Q v H := p v H0 H (.refl s) r
theorem Post.new {H0 : Hp} {z : D} {Q : VK} (p : Post K ci H0 H z Q) (s : Same H0 H) {a : Addr} {o : HO} (ha : H a = none) (r : Rep K ci (upd H0 a o) (.ref a) z) : Q (.ref a) (upd H a o) := p _ _ _ (.new s ha) r
end
end Rf

set_option Elab.async false
set_option linter.all false
set_option maxRecDepth 100000
set_option maxHeartbeats 2000000
/-! RfOps: operators and builtins, by values. -/
namespace Rf
open PySem PySem.Spec PyProof.Rows L2

def toOp : Op → Operator
  | .add => .Add | .sub => .Sub | .mul => .Mult | .fdv => .FloorDiv | .mod => .Mod | .shl => .LShift | .shr => .RShift | .pow => .Pow | .band => .BitAnd
def toCp : Cp → CmpOp
  | .lt => .Lt | .le => .LtE | .gt => .Gt | .ge => .GtE | .eq => .Eq | .ne => .NotEq | .is => .Is | .nis => .IsNot | .isin => .In | .notin => .NotIn

section
variable {X : L2.Cx} {ci : CI}
def rBin (K : PySem.W.Frag) (ci : CI) (o : Op) : R2 := fun x y H Q => ∃ H0 dx dy z, Same H0 H ∧ Rep K ci H0 x dx ∧ Rep K ci H0 y dy ∧ bin o dx dy = some z ∧ Post K ci H0 H z Q
def rCmp (K : PySem.W.Frag) (ci : CI) (o : Cp) : R2 := fun x y H Q => ∃ H0 dx dy z, Same H0 H ∧ Rep K ci H0 x dx ∧ Rep K ci H0 y dy ∧ cmp o dx dy = some z ∧ Post K ci H0 H (.bl z) Q

theorem opImp {f : Value → Value → Sem Value} {r r' : R2} (h : OpR X f r) (w : ∀ x y H Q, r' x y H Q → r x y H Q) : OpR X f r' :=
  fun pins s σ H x y v u Q I rx ry q => h pins s σ H x y v u Q I rx ry (w x y H Q q)
theorem callImp {f : Value} {r r' : List V → Hp → VK → Prop} (h : CallR X f r) (w : ∀ xs H Q, r' xs H Q → r xs H Q) : CallR X f r' :=
  fun pins s σ H xs us Q I rx q => h pins s σ H xs us Q I rx (w xs H Q q)
theorem mulOk_ok {i j : Int} (h : mulOk i j = true) : CMulX i j := by
  unfold mulOk at h
  have h2 := of_decide_eq_true h
  exact h2
theorem shlOk_ok {i j : Int} (h : shlOk i j = true) : CShl i j := by
  unfold shlOk at h
  rw [Bool.and_eq_true] at h
  exact ⟨of_decide_eq_true h.1, of_decide_eq_true h.2⟩
theorem powOk_ok {i j : Int} (h : powOk i j = true) : CPow i j := by
  unfold powOk at h
  rw [Bool.and_eq_true, Bool.and_eq_true] at h
  exact ⟨of_decide_eq_true h.1.1, of_decide_eq_true h.1.2, of_decide_eq_true h.2⟩
theorem lineN_eq : lineN = sizeLine := by rw [sizeLine_eq]; rfl
/-- // by a positive divisor, where C divides -/
theorem op_fdivC : OpR X (binaryOp .FloorDiv) (rI (fun i j => 0 < j ∧ Builtin.divisionGoesByPylong i j = false) fun i j => .int (i / j)) := opI fun i j _ _ _ _ _ hc q => by
  have h1 : (0 : Int) < j := hc.1
  exact floordiv_int (by omega) (by rw [Int.fdiv_eq_ediv_of_nonneg i (by omega)]; exact q) (.inl hc.2)
theorem opr_int (o : Op) : OpR X (binaryOp (toOp o)) (fun x y H Q => ∃ i j k, x = .int i ∧ y = .int j ∧ arI o i j = some k ∧ Q (.int k) H) := by
  cases o with
  | add => exact opImp op_add fun x y H Q ⟨i, j, k, e1, e2, e, q⟩ => ⟨i, j, e1, e2, by cases e; exact q⟩
  | sub => exact opImp op_sub fun x y H Q ⟨i, j, k, e1, e2, e, q⟩ => ⟨i, j, e1, e2, by cases e; exact q⟩
  | mul =>
    exact opImp op_mulX fun x y H Q ⟨i, j, k, e1, e2, e, q⟩ => by
      simp only [arI] at e
      split at e
      · rename_i h; cases e; exact ⟨i, j, e1, e2, mulOk_ok h, q⟩
      · cases e
  | fdv =>
    exact opImp op_fdivC fun x y H Q ⟨i, j, k, e1, e2, e, q⟩ => by
      simp only [arI] at e
      split at e
      · rename_i h
        split at e
        · cases e
        · rename_i h2; cases e; exact ⟨i, j, e1, e2, ⟨h, by simpa using h2⟩, q⟩
      · cases e
  | mod =>
    exact opImp op_mod fun x y H Q ⟨i, j, k, e1, e2, e, q⟩ => by
      simp only [arI] at e
      split at e
      · rename_i h; cases e; exact ⟨i, j, e1, e2, h, q⟩
      · cases e
  | shl =>
    exact opImp op_shlW fun x y H Q ⟨i, j, k, e1, e2, e, q⟩ => by
      simp only [arI] at e
      split at e
      · rename_i h; cases e; exact ⟨i, j, e1, e2, shlOk_ok h, q⟩
      · cases e
  | shr =>
    exact opImp op_shr fun x y H Q ⟨i, j, k, e1, e2, e, q⟩ => by
      simp only [arI] at e
      split at e
      · rename_i h; cases e; exact ⟨i, j, e1, e2, h, q⟩
      · cases e
  | pow =>
    exact opImp op_pow fun x y H Q ⟨i, j, k, e1, e2, e, q⟩ => by
      simp only [arI] at e
      split at e
      · rename_i h; cases e; exact ⟨i, j, e1, e2, powOk_ok h, q⟩
      · cases e
  | band => exact opImp op_and fun x y H Q ⟨i, j, k, e1, e2, e, q⟩ => ⟨i, j, e1, e2, by cases e; exact q⟩
theorem opr_bin (o : Op) : OpR X (binaryOp (toOp o)) (rBin X.K ci o) := by
  intro pins s σ H x y v u Q I rx ry ⟨H0, dx, dy, z, sm, hx, hy, e, q⟩
  unfold bin at e
  split at e
  · rename_i i j
    cases hx; cases hy
    cases e2 : arI o i j with
    | none => rw [e2] at e; cases e
    | some k =>
      rw [e2] at e; cases e
      exact opr_int o pins s σ H _ _ v u Q I rx ry ⟨i, j, k, rfl, rfl, e2, q.here sm (.int k)⟩
  · rename_i a b _
    cases hx; cases hy
    split at e
    · rename_i h; cases e
      exact op_add_str pins s σ H _ _ v u Q I rx ry ⟨_, _, rfl, rfl, by rw [← lineN_eq]; exact h, q.here sm (.str _)⟩
    · cases e
  · cases hx with
    | lst ha ra =>
      cases hy with
      | lst hb rb =>
        split at e
        · split at e
          · split at e
            · rename_i h; cases e
              refine op_cat pins s σ H _ _ v u Q I rx ry ⟨_, _, _, _, rfl, rfl, sm _ _ ha, sm _ _ hb, by rw [ra.length, rb.length, ← lineN_eq]; exact h, fun p hp => q.new sm hp (.lst upd_same ?_)⟩
              exact (ra.mono (same_upd (same_none sm hp))).append (rb.mono (same_upd (same_none sm hp)))
            · cases e
          · cases e
        · cases e
  · cases hx with
    | lst ha ra =>
      cases hy
      split at e
      · split at e
        · split at e
          · rename_i h1 h2 h; cases e
            refine op_rep pins s σ H _ _ v u Q I rx ry ⟨_, _, _, rfl, rfl, sm _ _ ha, by omega, by omega, by rw [ra.length, ← lineN_eq]; exact h, fun p hp => q.new sm hp (.lst upd_same ?_)⟩
            exact Reps.rep _ (ra.mono (same_upd (same_none sm hp)))
          · cases e
        · cases e
      · cases e
  · cases e
theorem eqD_py {dx dy : D} {b : Bool} (e : eqD dx dy = some b) : ∃ p q, toPy dx = some p ∧ toPy dy = some q ∧ SeqAt.shaped p = true ∧ SeqAt.shaped q = true ∧ PyData.eqv p q = b := by
  unfold eqD at e
  split at e
  · rename_i p q e1 e2
    split at e
    · split at e
      · rename_i h1 h2
        cases e
        exact ⟨p, q, e1, e2, h1, h2, rfl⟩
      · cases e
    · cases e
  · cases e
theorem rep_flat {K : PySem.W.Frag} {H : Hp} {v : V} {d : D} (r : Rep K ci H v d) (h : flatD d = true) : flatV v = true := by
  cases r <;> first | rfl | cases h
theorem reps_flat {K : PySem.W.Frag} {H : Hp} : ∀ {vs : List V} {ds : List D}, Reps K ci H vs ds → ds.all flatD = true → vs.all flatV = true
  | _, _, .nil, _ => rfl
  | _, _, .cons r t, h => by
    rw [List.all_cons, Bool.and_eq_true] at h
    rw [List.all_cons, rep_flat r h.1, reps_flat t h.2]
    rfl
theorem rep_eqF {K : PySem.W.Frag} {H : Hp} {v w : V} {d e : D} (r : Rep K ci H v d) (q : Rep K ci H w e) (h : flatD d = true) (h2 : flatD e = true) : eqV v w = eqF d e := by
  cases r <;> first | (cases q <;> first | rfl | cases h2) | cases h
theorem reps_any {K : PySem.W.Frag} {H : Hp} {w : V} {e : D} (q : Rep K ci H w e) (h2 : flatD e = true) : ∀ {vs : List V} {ds : List D}, Reps K ci H vs ds → ds.all flatD = true → (vs.any fun y => eqV y w) = ds.any fun y => eqF y e
  | _, _, .nil, _ => rfl
  | _, _, .cons r t, h => by
    rw [List.all_cons, Bool.and_eq_true] at h
    rw [List.any_cons, List.any_cons, rep_eqF r q h.1 h2, reps_any q h2 t h.2]
theorem in_d {K : PySem.W.Frag} {H0 H : Hp} {x y : V} {dx dy : D} {z : Bool} (sm : Same H0 H) (hx : Rep K ci H0 x dx) (hy : Rep K ci H0 y dy) (e : inD dx dy = some z) : ∃ p xs, y = .ref p ∧ (SqL K H p xs ∨ SqT K H p xs) ∧ flatV x = true ∧ xs.all flatV = true ∧ inV x xs = z := by
  have fin : ∀ {l : List D} {vs : List V}, Reps K ci H0 vs l → inL dx l = some z → flatV x = true ∧ vs.all flatV = true ∧ inV x vs = z := fun {l vs} r e => by
    unfold inL at e
    split at e
    · rename_i h1
      split at e
      · rename_i h2
        cases e
        exact ⟨rep_flat hx h1, reps_flat r h2, reps_any hx h1 r h2⟩
      · cases e
    · cases e
  unfold inD at e
  split at e
  · cases hy with
    | tup s r => exact ⟨_, _, rfl, .inr (sqt_mono sm s), fin r e⟩
  · cases hy with
    | lst s r => exact ⟨_, _, rfl, .inl (.of (sm _ _ s)), fin r e⟩
  · cases hy with
    | frz s r => exact ⟨_, _, rfl, .inl (sm.seq s), fin r e⟩
  · cases e
theorem opr_cmp (hu : X.A.units + 64 < cLine) (o : Cp) : OpR X (compareOp (toCp o)) (rCmp X.K ci o) := by
  intro pins s σ H x y v u Q I rx ry ⟨H0, dx, dy, z, sm, hx, hy, e, q⟩
  unfold cmp at e
  split at e
  · cases hx; cases hy; cases e
    exact op_lt pins s σ H _ _ v u Q I rx ry ⟨_, _, rfl, rfl, q.here sm (.bl _)⟩
  · cases hx; cases hy; cases e
    exact op_le pins s σ H _ _ v u Q I rx ry ⟨_, _, rfl, rfl, q.here sm (.bl _)⟩
  · cases hx; cases hy; cases e
    exact op_gt pins s σ H _ _ v u Q I rx ry ⟨_, _, rfl, rfl, q.here sm (.bl _)⟩
  · cases hx; cases hy; cases e
    exact op_ge pins s σ H _ _ v u Q I rx ry ⟨_, _, rfl, rfl, q.here sm (.bl _)⟩
  · obtain ⟨p, p', e1, e2, s1, s2, rfl⟩ := eqD_py e
    exact op_eqD hu pins s σ H _ _ v u Q I rx ry ⟨p, p', (hx.mono sm).dp _ e1, (hy.mono sm).dp _ e2, s1, s2, q.here sm (.bl _)⟩
  · cases e3 : eqD dx dy with
    | none => rw [e3] at e; cases e
    | some b =>
      rw [e3] at e; cases e
      obtain ⟨p, p', e1, e2, s1, s2, rfl⟩ := eqD_py e3
      exact op_neD hu pins s σ H _ _ v u Q I rx ry ⟨p, p', (hx.mono sm).dp _ e1, (hy.mono sm).dp _ e2, s1, s2, q.here sm (.bl _)⟩
  · cases hy; cases e
    refine op_isN pins s σ H _ _ v u Q I rx ry ⟨rfl, ?_⟩
    have e4 : decide (x = V.non) = isNon dx := by cases hx <;> simp [isNon]
    rw [e4]; exact q.here sm (.bl _)
  · cases hy; cases e
    refine op_notN pins s σ H _ _ v u Q I rx ry ⟨rfl, ?_⟩
    have e4 : decide (x = V.non) = isNon dx := by cases hx <;> simp [isNon]
    rw [e4]; exact q.here sm (.bl _)
  · obtain ⟨p, xs, e1, e2, e3, e4, e5⟩ := in_d sm hx hy e
    exact op_in_seq pins s σ H _ _ v u Q I rx ry ⟨p, xs, e1, e2, e3, e4, by rw [if_neg Bool.false_ne_true, e5]; exact q.here sm (.bl _)⟩
  · cases e3 : inD dx dy with
    | none => rw [e3] at e; cases e
    | some b =>
      rw [e3] at e; cases e
      obtain ⟨p, xs, e1, e2, e3, e4, e5⟩ := in_d sm hx hy e3
      exact op_notIn_seq pins s σ H _ _ v u Q I rx ry ⟨p, xs, e1, e2, e3, e4, by rw [if_pos rfl, e5]; exact q.here sm (.bl _)⟩
  · cases e
end
end Rf

set_option Elab.async false
set_option linter.all false
set_option maxRecDepth 100000
set_option maxHeartbeats 2000000
/-! RfPrim: builtins called. -/
namespace Rf
open PySem PySem.Spec PyProof.Rows L2

def rPrim (K : PySem.W.Frag) (ci : CI) (p : P) : List V → Hp → VK → Prop := fun xs H Q => ∃ H0 ds z, Same H0 H ∧ Reps K ci H0 xs ds ∧ prim p ds = some z ∧ Post K ci H0 H z Q
section
variable {X : L2.Cx} {ci : CI}
theorem reps1 {K : PySem.W.Frag} {H : Hp} {xs : List V} {d : D} (r : Reps K ci H xs [d]) : ∃ x, xs = [x] ∧ Rep K ci H x d := by
  cases r with
  | cons a b => cases b; exact ⟨_, rfl, a⟩
theorem reps2 {K : PySem.W.Frag} {H : Hp} {xs : List V} {d e : D} (r : Reps K ci H xs [d, e]) : ∃ x y, xs = [x, y] ∧ Rep K ci H x d ∧ Rep K ci H y e := by
  cases r with
  | cons a b =>
    cases b with
    | cons c b => cases b; exact ⟨_, _, rfl, a, c⟩
theorem prim_len : CallR X (.builtin "len") (rPrim X.K ci .len) := callImp call_len fun xs H Q ⟨H0, ds, z, sm, r, e, q⟩ => by
  change pLen ds = some z at e
  unfold pLen at e
  split at e
  · obtain ⟨x, rfl, r1⟩ := reps1 r
    cases e
    cases r1 with
    | tup s r => exact ⟨_, _, rfl, .inr ⟨_, sqt_mono sm s, rfl⟩, by rw [r.length]; exact q.here sm (.int _)⟩
  · obtain ⟨x, rfl, r1⟩ := reps1 r
    cases e
    cases r1 with
    | lst s r => exact ⟨_, _, rfl, .inl ⟨_, .of (sm _ _ s), rfl⟩, by rw [r.length]; exact q.here sm (.int _)⟩
  · obtain ⟨x, rfl, r1⟩ := reps1 r
    cases e
    cases r1 with
    | frz s r => exact ⟨_, _, rfl, .inl ⟨_, sm.seq s, rfl⟩, by rw [r.length]; exact q.here sm (.int _)⟩
  · obtain ⟨x, rfl, r1⟩ := reps1 r
    split at e
    · rename_i h
      cases e
      cases r1
      exact ⟨_, _, rfl, ⟨by rw [← lineN_eq]; exact h, rfl⟩, q.here sm (.int _)⟩
    · cases e
  · cases e
theorem prim_abs : CallR X (.builtin "abs") (rPrim X.K ci .abs) := callImp call_abs fun xs H Q ⟨H0, ds, z, sm, r, e, q⟩ => by
  change pAbs ds = some z at e
  unfold pAbs at e
  split at e
  · obtain ⟨x, rfl, r1⟩ := reps1 r
    cases e
    cases r1
    exact ⟨_, rfl, q.here sm (.int _)⟩
  · cases e
theorem prim_min (hc : X.calm = true) : CallR X (.builtin "min") (rPrim X.K ci .min2) := callImp (call_min2 hc) fun xs H Q ⟨H0, ds, z, sm, r, e, q⟩ => by
  change pMin ds = some z at e
  unfold pMin at e
  split at e
  · obtain ⟨x, y, rfl, r1, r2⟩ := reps2 r
    cases e
    cases r1; cases r2
    exact ⟨_, _, rfl, q.here sm (.int _)⟩
  · cases e
theorem prim_max (hc : X.calm = true) : CallR X (.builtin "max") (rPrim X.K ci .max2) := callImp (call_max2 hc) fun xs H Q ⟨H0, ds, z, sm, r, e, q⟩ => by
  change pMax ds = some z at e
  unfold pMax at e
  split at e
  · obtain ⟨x, y, rfl, r1, r2⟩ := reps2 r
    cases e
    cases r1; cases r2
    exact ⟨_, _, rfl, q.here sm (.int _)⟩
  · cases e
theorem prim_int : CallR X (.type "int") (rPrim X.K ci .int) := callImp call_int1 fun xs H Q ⟨H0, ds, z, sm, r, e, q⟩ => by
  change pInt ds = some z at e
  unfold pInt at e
  split at e
  · obtain ⟨x, rfl, r1⟩ := reps1 r
    cases e
    cases r1
    exact .inl ⟨_, rfl, q.here sm (.int _)⟩
  · obtain ⟨x, rfl, r1⟩ := reps1 r
    cases e
    cases r1
    exact .inr ⟨_, rfl, q.here sm (.int _)⟩
  · cases e
theorem prim_str : CallR X (.type "str") (rPrim X.K ci .str) := callImp call_str_int fun xs H Q ⟨H0, ds, z, sm, r, e, q⟩ => by
  change pStr ds = some z at e
  unfold pStr at e
  split at e
  · obtain ⟨x, rfl, r1⟩ := reps1 r
    split at e
    · rename_i h
      cases e
      cases r1
      exact ⟨_, rfl, h, q.here sm (.str _)⟩
    · cases e
  · cases e
theorem prim_list : CallR X (.type "list") (rPrim X.K ci .list) := callImp call_list_of fun xs H Q ⟨H0, ds, z, sm, r, e, q⟩ => by
  change pList ds = some z at e
  unfold pList at e
  split at e
  · obtain ⟨x, rfl, r1⟩ := reps1 r
    cases e
    cases r1 with
    | tup s r => exact ⟨_, _, rfl, .inr (sqt_mono sm s), fun l hl => q.new sm hl (.lst upd_same (r.mono (same_upd (same_none sm hl))))⟩
  · obtain ⟨x, rfl, r1⟩ := reps1 r
    cases e
    cases r1 with
    | lst s r => exact ⟨_, _, rfl, .inl (.of (sm _ _ s)), fun l hl => q.new sm hl (.lst upd_same (r.mono (same_upd (same_none sm hl))))⟩
  · obtain ⟨x, rfl, r1⟩ := reps1 r
    cases e
    cases r1 with
    | frz s r => exact ⟨_, _, rfl, .inl (sm.seq s), fun l hl => q.new sm hl (.lst upd_same (r.mono (same_upd (same_none sm hl))))⟩
  · cases e
theorem reps_bls {K : PySem.W.Frag} {H : Hp} : ∀ {l : List D} {vs : List V} {bs : List Bool}, Reps K ci H vs l → bls l = some bs → vs = bs.map V.bl
  | [], _, bs, .nil, e => by cases e; rfl
  | d :: l, _, bs, .cons r t, e => by
    unfold bls at e
    split at e
    · rename_i q; cases q
    · rename_i b l' q
      cases q
      cases r
      cases q2 : bls l with
      | none => rw [q2] at e; cases e
      | some bs' =>
        rw [q2] at e
        cases e
        rw [reps_bls t q2]
        rfl
    · cases e
theorem prim_all (hc : X.calm = true) : CallR X (.builtin "all") (rPrim X.K ci .all) := callImp (cr_all hc) fun xs H Q ⟨H0, ds, z, sm, r, e, q⟩ => by
  change pAll ds = some z at e
  unfold pAll at e
  split at e
  · rename_i l
    obtain ⟨x, rfl, r1⟩ := reps1 r
    cases q2 : bls l with
    | none => rw [q2] at e; cases e
    | some bs =>
      rw [q2] at e
      cases e
      cases r1 with
      | lst s r => exact ⟨_, bs, rfl, .of (by rw [← reps_bls r q2]; exact sm _ _ s), q.here sm (.bl _)⟩
  · cases e
/-- an item by its index -/
def rIdx (K : PySem.W.Frag) (ci : CI) : R2 := fun x y H Q => ∃ H0 dx dy z, Same H0 H ∧ Rep K ci H0 x dx ∧ Rep K ci H0 y dy ∧ pIdx [dx, dy] = some z ∧ Post K ci H0 H z Q
theorem ix_idx : IxR X (rIdx X.K ci) := by
  intro value slice pins s σ H x y v u Q I rx ry ⟨H0, dx, dy, z, sm, hx, hy, e, q⟩ hs
  refine ix_seq value slice pins s σ H x y v u Q I rx ry ?_ hs
  unfold pIdx at e
  split at e
  · rename_i z2
    injection z2 with e1 e2
    injection e2 with e2 e3
    subst e1 e2
    cases hy
    cases hx with
    | tup s r =>
      obtain ⟨w, h1, h2⟩ := r.atI e
      exact .inr (.inl ⟨_, _, _, _, rfl, rfl, sqt_mono sm s, h1, q.here sm h2⟩)
  · rename_i z2
    injection z2 with e1 e2
    injection e2 with e2 e3
    subst e1 e2
    cases hy
    cases hx with
    | lst s r =>
      obtain ⟨w, h1, h2⟩ := r.atI e
      exact .inl ⟨_, _, _, _, rfl, rfl, .of (sm _ _ s), h1, q.here sm h2⟩
  · rename_i z2
    injection z2 with e1 e2
    injection e2 with e2 e3
    subst e1 e2
    cases hy
    cases hx with
    | frz s r =>
      obtain ⟨w, h1, h2⟩ := r.atI e
      exact .inl ⟨_, _, _, _, rfl, rfl, sm.seq s, h1, q.here sm h2⟩
  · cases e
/-! ### isinstance -/
def tyS : Nat → String
  | 0 => "int" | 1 => "bool" | 2 => "tuple" | 3 => "list" | _ => "str"
def tyD : D → String
  | .non => "NoneType" | .bl _ => "bool" | .int _ => "int" | .str _ => "str" | .tup _ => "tuple" | .lst _ => "list" | .frz _ => "list" | .ins _ _ => "object"
theorem rep_tyx {K : PySem.W.Frag} {H : Hp} {x : V} {d : D} (r : Rep K ci H x d) (hi : ∀ c l, d ≠ .ins c l) : TyX K H x (.type (tyD d)) := by
  cases r with
  | non => exact .base .non
  | bl b => exact .base (.bl b)
  | int i => exact .base (.int i)
  | str x => exact .base (.str x)
  | tup s r =>
    rcases s with (s | ⟨o, s⟩) | ⟨o, its, n, hk, hc, _⟩
    · exact .base (.tup s)
    · exact .fTuple s
    · exact .kTuple hk hc
  | lst s r => exact .base (.lst s)
  | frz s r =>
    rcases s with (s | ⟨o, s⟩) | ⟨o, its, n, hk, hc, _⟩
    · exact .base (.lst s)
    · exact .base (.frz s)
    · exact .kList hk hc
  | ins s n r => exact absurd rfl (hi _ _)
theorem isa_kit : ∀ (t : Nat) (d : D) (b : Bool), isa t d = some b → t < 5 ∧ (∀ c l, d ≠ .ins c l) ∧ kitB (tyD d) (tyS t) = some b := by
  intro t d b e
  unfold isa at e
  split at e <;> cases e <;> (refine ⟨by decide, (fun c l z => by cases z), ?_⟩; simp only [tyD, tyS]; decide +kernel)
/-- isinstance(x, T), T a builtin's name -/
def rIsa (K : PySem.W.Frag) (ci : CI) (t : Nat) : List V → Hp → VK → Prop := fun xs H Q => ∃ H0 x d z, xs = [x, .ty (tyS t)] ∧ Same H0 H ∧ Rep K ci H0 x d ∧ pIsa t [d] = some z ∧ Post K ci H0 H z Q
theorem prim_isa {t : Nat} : CallR X (.builtin "isinstance") (rIsa X.K ci t) := callImp call_isi fun xs H Q ⟨H0, x, d, z, ex, sm, r, e, q⟩ => by
  subst ex
  change (isa t d).map D.bl = some z at e
  cases e2 : isa t d with
  | none => rw [e2] at e; cases e
  | some b =>
    rw [e2] at e; cases e
    obtain ⟨h1, h2, h3⟩ := isa_kit t d b e2
    exact ⟨x, _, _, _, b, rfl, .ty _, rep_tyx (r.mono sm) h2, kit_ty h3, q.here sm (.bl _)⟩
end
end Rf

set_option Elab.async false
set_option linter.all false
set_option maxRecDepth 100000
set_option maxHeartbeats 2000000
/-! RfRl: a frame's slots against the plain slots. -/
namespace Rf
open PySem PySem.Spec PyProof.Rows L2

/-- one slot -/
def SlotR (K : PySem.W.Frag) (ci : CI) (He : Hp) (Pw : List Addr) (H0 H : Hp) : Option V → S → Prop
  | _, .non => True
  | some v, .val d => Rep K ci H0 v d
  | some v, .own b l => ∃ a vs, v = .ref a ∧ H a = some (.lst vs) ∧ H0 a = none ∧ Reps K ci H0 vs l ∧ (b = true → a ∈ Pw) ∧ (b = false → a ∉ Pw ∧ He a = none)
  | none, _ => False
/-- He: what was tracked at the entry; Pp: the lists lent, by slot; H0e, H0: what stands for good, at the entry and now -/
structure Rl (K : PySem.W.Frag) (ci : CI) (He : Hp) (Pp : List (Nat × Addr)) (H0e H0 H : Hp) (σ : L2.St) (ρ : List S) : Prop where
  len : σ.length = ρ.length
  sub : Same H0 H
  ext : Same H0e H0
  ent : ∀ b o, He b = some o → b ∉ Pp.map (·.2) → H b = some o
  pin : ∀ b ∈ Pp.map (·.2), ∃ vs, H b = some (.lst vs)
  fresh : ∀ b o, H0 b = some o → H0e b = some o ∨ He b = none
  slot : ∀ (i : Nat) s o, ρ[i]? = some s → σ[i]? = some o → SlotR K ci He (Pp.map (·.2)) H0 H o s
  sep : ∀ (i j : Nat) a b l b' l', i ≠ j → ρ[i]? = some (.own b l) → ρ[j]? = some (.own b' l') → σ[i]? = some (some (.ref a)) → σ[j]? = some (some (.ref a)) → False
  par : ∀ p ∈ Pp, ∃ l, ρ[p.1]? = some (.own true l) ∧ σ[p.1]? = some (some (.ref p.2))
section
variable {K : PySem.W.Frag} {ci : CI} {He : Hp} {Pp : List (Nat × Addr)} {H0e H0 H H0' H' : Hp} {σ : L2.St} {ρ ρ' : List S}
theorem SlotR.grow {Pw : List Addr} (g : Grow H0 H H0' H') : ∀ {o : Option V} {s : S}, SlotR K ci He Pw H0 H o s → SlotR K ci He Pw H0' H' o s
  | none, .non, _ => trivial
  | some _, .non, _ => trivial
  | some v, .val d, r => Rep.mono g.a d r
  | some v, .own b l, ⟨a, vs, e, h1, h2, h3, h4, h5⟩ => by
      refine ⟨a, vs, e, g.b _ _ h1, ?_, h3.mono g.a, h4, h5⟩
      cases q : H0' a with
      | none => rfl
      | some o =>
        rcases g.d a o q with z | z
        · rw [h2] at z; cases z
        · rw [h1] at z; cases z
theorem Rl.grow (r : Rl K ci He Pp H0e H0 H σ ρ) (g : Grow H0 H H0' H') : Rl K ci He Pp H0e H0' H' σ ρ where
  len := r.len
  sub := g.c
  ext := r.ext.trans g.a
  ent := fun b o e n => g.b _ _ (r.ent b o e n)
  pin := fun b hb => let ⟨vs, e⟩ := r.pin b hb; ⟨vs, g.b _ _ e⟩
  fresh := fun b o e => by
    rcases g.d b o e with z | z
    · exact r.fresh b o z
    · right
      cases q : He b with
      | none => rfl
      | some u =>
        by_cases hb : b ∈ Pp.map (·.2)
        · obtain ⟨vs, e⟩ := r.pin b hb
          rw [z] at e; cases e
        · have e := r.ent b u q hb
          rw [z] at e; cases e
  slot := fun i s o e1 e2 => (r.slot i s o e1 e2).grow g
  sep := r.sep
  par := r.par
theorem getS_some {i : Nat} {s : S} (h : getS ρ i = s) (hn : s ≠ .non) : ρ[i]? = some s := by
  unfold getS at h
  rw [List.getD_eq_getElem?_getD] at h
  cases q : ρ[i]? with
  | none => rw [q] at h; exact absurd h.symm hn
  | some u => rw [q] at h; exact congrArg some h
theorem Rl.at (r : Rl K ci He Pp H0e H0 H σ ρ) {i : Nat} {s : S} (h : ρ[i]? = some s) : ∃ o, σ[i]? = some o ∧ SlotR K ci He (Pp.map (·.2)) H0 H o s := by
  have hi : i < σ.length := by
    rw [r.len]
    exact (List.getElem?_eq_some_iff.mp h).1
  exact ⟨_, List.getElem?_eq_getElem hi, r.slot i s _ h (List.getElem?_eq_getElem hi)⟩
theorem Rl.own (r : Rl K ci He Pp H0e H0 H σ ρ) {i : Nat} {b : Bool} {l : List D} (h : getS ρ i = .own b l) :
    ∃ a vs, σ[i]? = some (some (.ref a)) ∧ H a = some (.lst vs) ∧ H0 a = none ∧ Reps K ci H0 vs l ∧ (b = true → a ∈ Pp.map (·.2)) ∧ (b = false → a ∉ Pp.map (·.2) ∧ He a = none) := by
  have h' := getS_some h (by intro z; cases z)
  obtain ⟨o, e, q⟩ := r.at h'
  cases o with
  | none => exact q.elim
  | some v =>
    obtain ⟨a, vs, rfl, q⟩ := q
    exact ⟨a, vs, e, q⟩
/-- a slot is set -/
theorem set_get {α : Type} {l : List α} {i j : Nat} {x y : α} (h : (l.set i x)[j]? = some y) : (j = i ∧ y = x ∧ i < l.length) ∨ (j ≠ i ∧ l[j]? = some y) := by
  by_cases e : i = j
  · subst e
    by_cases hl : i < l.length
    · rw [List.getElem?_set_self hl] at h
      exact .inl ⟨rfl, (Option.some.inj h).symm, hl⟩
    · rw [List.getElem?_eq_none (by simpa using hl)] at h; cases h
  · rw [List.getElem?_set_ne e] at h
    exact .inr ⟨fun z => e z.symm, h⟩
theorem Rl.set (r : Rl K ci He Pp H0e H0 H σ ρ) {i : Nat} {o : Option V} {s : S} (hs : SlotR K ci He (Pp.map (·.2)) H0 H o s)
    (hb : ∀ l, getS ρ i ≠ .own true l) (hd : ∀ (j : Nat) a b l b' l', i ≠ j → s = .own b l → ρ[j]? = some (.own b' l') → o = some (.ref a) → σ[j]? = some (some (.ref a)) → False) :
    Rl K ci He Pp H0e H0 H (σ.set i o) (ρ.set i s) where
  len := by rw [List.length_set, List.length_set]; exact r.len
  sub := r.sub
  ext := r.ext
  ent := r.ent
  pin := r.pin
  fresh := r.fresh
  slot := fun j s' o' e1 e2 => by
    rcases set_get e1 with ⟨h1, h2, _⟩ | ⟨h1, h2⟩
    · rcases set_get e2 with ⟨_, h3, _⟩ | ⟨h3, _⟩
      · rw [h2, h3]; exact hs
      · exact absurd h1 h3
    · rcases set_get e2 with ⟨h3, _⟩ | ⟨_, h4⟩
      · exact absurd h3 h1
      · exact r.slot j s' o' h2 h4
  sep := fun j k a b l b' l' hjk e1 e2 e3 e4 => by
    rcases set_get e1 with ⟨h1, h2, _⟩ | ⟨h1, h2⟩
    · subst h1
      rcases set_get e2 with ⟨h3, _⟩ | ⟨_, h4⟩
      · exact hjk h3.symm
      · rcases set_get e3 with ⟨_, h5, _⟩ | ⟨h5, _⟩
        · rcases set_get e4 with ⟨h6, _⟩ | ⟨_, h7⟩
          · exact hjk h6.symm
          · exact hd k a b l b' l' hjk h2.symm h4 h5.symm h7
        · exact h5 rfl
    · rcases set_get e3 with ⟨h5, _⟩ | ⟨_, h5⟩
      · exact h1 h5
      · rcases set_get e2 with ⟨h3, h4, _⟩ | ⟨h3, h4⟩
        · subst h3
          rcases set_get e4 with ⟨_, h6, _⟩ | ⟨h6, _⟩
          · exact hd j a b' l' b l h1.symm h4.symm h2 h6.symm h5
          · exact h6 rfl
        · rcases set_get e4 with ⟨h6, _⟩ | ⟨_, h7⟩
          · exact h3 h6
          · exact r.sep j k a b l b' l' hjk h2 h4 h5 h7
  par := fun p hp => by
    obtain ⟨l, e1, e2⟩ := r.par p hp
    have hne : i ≠ p.1 := fun z => by
      subst z
      refine hb l ?_
      unfold getS
      rw [List.getD_eq_getElem?_getD, e1] <;> rfl
    exact ⟨l, by rw [List.getElem?_set_ne hne]; exact e1, by rw [List.getElem?_set_ne hne]; exact e2⟩
theorem putS_eq {i : Nat} {s : S} (h : putS ρ i s = some ρ') : ρ' = ρ.set i s ∧ ∀ l, getS ρ i ≠ .own true l := by
  unfold putS at h
  split at h
  · cases h
  · rename_i hn
    cases h
    exact ⟨rfl, fun l z => hn l z⟩
theorem Rl.put (r : Rl K ci He Pp H0e H0 H σ ρ) {i : Nat} {v : V} {d : D} (h : putS ρ i (.val d) = some ρ') (hv : Rep K ci H0 v d) : Rl K ci He Pp H0e H0 H (σ.set i (some v)) ρ' := by
  obtain ⟨rfl, hb⟩ := putS_eq h
  exact r.set (o := some v) (s := .val d) hv hb fun _ _ _ _ _ _ _ z => by cases z
/-- a slot is read as a value -/
theorem Rl.rd (r : Rl K ci He Pp H0e H0 H σ ρ) {i : Nat} {d : D} (h : Rf.rd ρ i = .ok d ρ') : ∃ v H0', σ[i]? = some (some v) ∧ Rl K ci He Pp H0e H0' H σ ρ' ∧ Same H0 H0' ∧ Rep K ci H0' v d := by
  unfold Rf.rd at h
  split at h
  · rename_i d' e
    cases h
    have e' := getS_some e (by intro z; cases z)
    obtain ⟨o, h1, h2⟩ := r.at e'
    cases o with
    | none => exact h2.elim
    | some v => exact ⟨v, H0, h1, r, .refl _, h2⟩
  · rename_i l e
    cases h
    obtain ⟨a, vs, h1, h2, h3, h4, _, h6⟩ := r.own e
    have e' := getS_some e (by intro z; cases z)
    obtain ⟨h6, h7⟩ := h6 rfl
    have g : Same H0 (upd H0 a (.lst vs)) := same_upd h3
    have rp : Rep K ci (upd H0 a (.lst vs)) (.ref a) (.lst l) := .lst upd_same (h4.mono g)
    refine ⟨.ref a, upd H0 a (.lst vs), h1, ?_, g, rp⟩
    refine ⟨by rw [List.length_set]; exact r.len, fun b o eb => ?_, r.ext.trans g, r.ent, r.pin, fun b o eb => ?_, fun j s o e1 e2 => ?_, fun j k c b l' b' l'' hjk e1 e2 e3 e4 => ?_, fun p hp => ?_⟩
    · by_cases hb : b = a
      · subst hb; rw [upd_same] at eb; rw [← eb]; exact h2
      · rw [upd_ne hb] at eb; exact r.sub b o eb
    · by_cases hb : b = a
      · subst hb; exact .inr h7
      · rw [upd_ne hb] at eb; exact r.fresh b o eb
    · rcases set_get e1 with ⟨hj, hs, _⟩ | ⟨hj, hs⟩
      · subst hj
        rw [h1] at e2; cases e2
        rw [hs]; exact rp
      · have q := r.slot j s o hs e2
        match o, s, q with
        | none, .non, _ => exact trivial
        | some _, .non, _ => exact trivial
        | some v, .val d, q => exact Rep.mono g d q
        | some v, .own b l', ⟨c, ws, ev, k1, k2, k3, k4, k5⟩ =>
          refine ⟨c, ws, ev, k1, ?_, k3.mono g, k4, k5⟩
          have hca : c ≠ a := fun z => by
            subst z; subst ev
            exact r.sep j i c b l' false l hj hs e' e2 h1
          rw [upd_ne hca]; exact k2
    · rcases set_get e1 with ⟨_, hs, _⟩ | ⟨_, hs⟩
      · cases hs
      · rcases set_get e2 with ⟨_, hs2, _⟩ | ⟨_, hs2⟩
        · cases hs2
        · exact r.sep j k c b l' b' l'' hjk hs hs2 e3 e4
    · obtain ⟨l', k1, k2⟩ := r.par p hp
      have hne : i ≠ p.1 := fun z => by
        subst z
        rw [e'] at k1; cases k1
      exact ⟨l', by rw [List.getElem?_set_ne hne]; exact k1, k2⟩
  · cases h
/-- a list of one's own is made -/
theorem Rl.new (r : Rl K ci He Pp H0e H0 H σ ρ) {i : Nat} {p : Addr} {vs : List V} {l : List D} (h : putS ρ i (.own false l) = some ρ') (hp : H p = none) (hv : Reps K ci H0 vs l) :
    Rl K ci He Pp H0e H0 (upd H p (.lst vs)) (σ.set i (some (.ref p))) ρ' := by
  obtain ⟨rfl, hb⟩ := putS_eq h
  have hp0 : H0 p = none := same_none r.sub hp
  have hPw : p ∉ Pp.map (·.2) := fun z => by
    obtain ⟨ws, e⟩ := r.pin p z
    rw [hp] at e; cases e
  have hHe : He p = none := by
    cases q : He p with
    | none => rfl
    | some u => have e := r.ent p u q hPw; rw [hp] at e; cases e
  have g : Grow H0 H H0 (upd H p (.lst vs)) := ⟨.refl _, same_upd hp, r.sub.trans (same_upd hp), fun b o e => .inl e⟩
  refine (r.grow g).set (o := some (.ref p)) (s := .own false l) ⟨p, vs, rfl, upd_same, hp0, hv, (fun z => by cases z), fun _ => ⟨hPw, hHe⟩⟩ hb fun j a b l' b' l'' hij e1 e2 e3 e4 => ?_
  cases e3
  obtain ⟨o, k1, k2⟩ := r.at e2
  rw [e4] at k1; cases k1
  obtain ⟨c, ws, ev, k, _⟩ := k2
  cases ev
  rw [hp] at k; cases k
/-- a list of one's own is written -/
theorem Rl.wr (r : Rl K ci He Pp H0e H0 H σ ρ) {i : Nat} {a : Addr} {b : Bool} {l l' : List D} {vs : List V} (e : getS ρ i = .own b l) (ha : σ[i]? = some (some (.ref a))) (hv : Reps K ci H0 vs l') :
    Rl K ci He Pp H0e H0 (upd H a (.lst vs)) σ (ρ.set i (.own b l')) := by
  have e' := getS_some e (by intro z; cases z)
  obtain ⟨a', ws, h1, h2, h3, h4, h5, h6⟩ := r.own e
  rw [ha] at h1; cases h1
  refine ⟨by rw [List.length_set]; exact r.len, fun c o ec => ?_, r.ext, fun c o ec hc => ?_, fun c hc => ?_, r.fresh, fun j s o e1 e2 => ?_, fun j k c b1 l1 b2 l2 hjk e1 e2 e3 e4 => ?_, fun p hp => ?_⟩
  · have hca : c ≠ a := fun z => by subst z; rw [h3] at ec; cases ec
    rw [upd_ne hca]; exact r.sub c o ec
  · have hca : c ≠ a := fun z => by
      subst z
      cases b with
      | true => exact hc (h5 rfl)
      | false => rw [(h6 rfl).2] at ec; cases ec
    rw [upd_ne hca]; exact r.ent c o ec hc
  · by_cases hca : c = a
    · subst hca; exact ⟨_, upd_same⟩
    · rw [upd_ne hca]; exact r.pin c hc
  · rcases set_get e1 with ⟨hj, hs, _⟩ | ⟨hj, hs⟩
    · subst hj
      rw [ha] at e2; cases e2
      rw [hs]; exact ⟨a, vs, rfl, upd_same, h3, hv, h5, h6⟩
    · have q := r.slot j s o hs e2
      match o, s, q with
      | none, .non, _ => exact trivial
      | some _, .non, _ => exact trivial
      | some v, .val d, q => exact q
      | some v, .own b1 l1, ⟨c, us, ev, k1, k2, k3, k4, k5⟩ =>
        refine ⟨c, us, ev, ?_, k2, k3, k4, k5⟩
        have hca : c ≠ a := fun z => by
          subst z; subst ev
          exact r.sep j i c b1 l1 b l hj hs e' e2 ha
        rw [upd_ne hca]; exact k1
  · have look : ∀ {j : Nat} {b1 : Bool} {l1 : List D}, (ρ.set i (.own b l'))[j]? = some (.own b1 l1) → ∃ b2 l2, ρ[j]? = some (.own b2 l2) := fun {j b1 l1} q => by
      rcases set_get q with ⟨hj, _, _⟩ | ⟨_, hs⟩
      · subst hj; exact ⟨_, _, e'⟩
      · exact ⟨_, _, hs⟩
    obtain ⟨_, _, q1⟩ := look e1
    obtain ⟨_, _, q2⟩ := look e2
    exact r.sep j k c _ _ _ _ hjk q1 q2 e3 e4
  · obtain ⟨l1, k1, k2⟩ := r.par p hp
    by_cases hi : i = p.1
    · subst hi
      rw [e'] at k1; cases k1
      exact ⟨l', List.getElem?_set_self (List.getElem?_eq_some_iff.mp e').1, k2⟩
    · exact ⟨l1, by rw [List.getElem?_set_ne hi]; exact k1, k2⟩
end
end Rf

set_option Elab.async false
set_option linter.all false
set_option maxRecDepth 100000
set_option maxHeartbeats 2000000
/-! RfRd: readings by the plain meaning; expressions. -/
namespace Rf
open PySem PySem.Spec PyProof.Rows L2

/-- an exception as the plain meaning has it -/
def ExcR (K : PySem.W.Frag) (ci : CI) (H0 : Hp) (c : Nat) (l : List D) (cls : Value) (d : Option Addr) : Prop :=
  cls = .ref (ci.ad c) ∧ ((d = none ∧ l = []) ∨ ∃ a fs, d = some a ∧ H0 a = some (.xd fs) ∧ fs.map (·.1) = ci.nm c ∧ Reps K ci H0 (fs.map (·.2)) l)
def Out (K : PySem.W.Frag) (ci : CI) (W : WX) (σ : L2.St) (He : Hp) (Pp : List (Nat × Addr)) (H0e H0 : Hp) {α : Type} (R : α → Hp → Hp → List S → Prop) : Res α → Prop
  | .ok a ρ' => ∀ H0' H', Same H0 H0' → Rl K ci He Pp H0e H0' H' σ ρ' → R a H0' H' ρ'
  | .exc c l ρ' => ∀ H0' H' cls d, Same H0 H0' → Rl K ci He Pp H0e H0' H' σ ρ' → ExcR K ci H0' c l cls d → W cls d σ H'
  | .bot => False
section
variable {K : PySem.W.Frag} {ci : CI} {W : WX} {σ : L2.St} {He : Hp} {Pp : List (Nat × Addr)} {H0e H0 H0' H H' : Hp} {α β : Type}
theorem Out.from {R : α → Hp → Hp → List S → Prop} (s : Same H0 H0') : ∀ {x : Res α}, Out K ci W σ He Pp H0e H0 R x → Out K ci W σ He Pp H0e H0' R x
  | .ok a ρ', h => fun h0 h1 s' r => h h0 h1 (s.trans s') r
  | .exc c l ρ', h => fun h0 h1 cls d s' r e => h h0 h1 cls d (s.trans s') r e
  | .bot, h => h
theorem Out.bind {R : β → Hp → Hp → List S → Prop} {f : α → List S → Res β} : ∀ {x : Res α}, Out K ci W σ He Pp H0e H0 R (x.bind f) →
    Out K ci W σ He Pp H0e H0 (fun a h0 h1 ρ' => Rl K ci He Pp H0e h0 h1 σ ρ' ∧ Out K ci W σ He Pp H0e h0 R (f a ρ')) x
  | .ok a ρ', h => fun h0 h1 s r => ⟨r, Out.from s h⟩
  | .exc c l ρ', h => h
  | .bot, h => h
theorem Out.imp {R R' : α → Hp → Hp → List S → Prop} (w : ∀ a h0 h1 ρ', Same H0 h0 → Rl K ci He Pp H0e h0 h1 σ ρ' → R a h0 h1 ρ' → R' a h0 h1 ρ') : ∀ {x : Res α}, Out K ci W σ He Pp H0e H0 R x → Out K ci W σ He Pp H0e H0 R' x
  | .ok a ρ', h => fun h0 h1 s r => w a h0 h1 ρ' s r (h h0 h1 s r)
  | .exc c l ρ', h => h
  | .bot, h => h
theorem Out.of {R : α → Hp → Hp → List S → Prop} {ρ' : List S} : ∀ {x : Option α}, Out K ci W σ He Pp H0e H0 R (.of x ρ') → ∃ a, x = some a ∧ Out K ci W σ He Pp H0e H0 R (.ok a ρ')
  | some a, h => ⟨a, rfl, h⟩
  | none, h => h.elim
/-- what is wanted of an expression's value -/
abbrev RE (K : PySem.W.Frag) (ci : CI) (Q : VK) : D → Hp → Hp → List S → Prop := fun d h0 h1 _ => ∀ v, Rep K ci h0 v d → Q v h1
theorem Out.post {Q : VK} {d : D} {ρ' : List S} (h : Out K ci W σ He Pp H0e H0 (RE K ci Q) (.ok d ρ')) (r : Rl K ci He Pp H0e H0 H σ ρ') : Post K ci H0 H d Q :=
  fun v h0 h1 g rv => h h0 h1 g.a (r.grow g) v rv
end
def tE (K : PySem.W.Frag) (ci : CI) (W : WX) (C : Rf.Cx) (c : E) : TE := fun σ H Q => ∃ He Pp H0e H0 ρ, Rl K ci He Pp H0e H0 H σ ρ ∧ Out K ci W σ He Pp H0e H0 (RE K ci Q) (evE C c ρ)
def tEs (K : PySem.W.Frag) (ci : CI) (W : WX) (C : Rf.Cx) (c : Es) : TA := fun σ H Q => ∃ He Pp H0e H0 ρ, Rl K ci He Pp H0e H0 H σ ρ ∧ Out K ci W σ He Pp H0e H0 (fun ds h0 h1 _ => ∀ vs, Reps K ci h0 vs ds → Q vs h1) (evEs C c ρ)
def tT (K : PySem.W.Frag) (ci : CI) (W : WX) (C : Rf.Cx) (c : E) : TT := fun σ H Q => ∃ He Pp H0e H0 ρ, Rl K ci He Pp H0e H0 H σ ρ ∧ Out K ci W σ He Pp H0e H0 (fun d _ h1 _ => ∃ b, d = .bl b ∧ Q b h1) (evE C c ρ)

theorem peImp {X : L2.Cx} {e : Expr} {t t' : TE} (h : PE X e t) (w : ∀ σ H Q, t' σ H Q → t σ H Q) : PE X e t' := ⟨fun pins s σ H Q I q => h.run pins s σ H Q I (w σ H Q q)⟩
theorem ptImp {X : L2.Cx} {e : Expr} {t t' : TT} (h : PT X e t) (w : ∀ σ H Q, t' σ H Q → t σ H Q) : PT X e t' := ⟨fun pins s σ H Q I q => h.run pins s σ H Q I (w σ H Q q)⟩
theorem pwImp {X : L2.Cx} {e : Expr} {t t' : TT} (h : PW X e t) (w : ∀ σ H Q, t' σ H Q → t σ H Q) : PW X e t' := ⟨fun wh pins s σ H Q I q => h.run wh pins s σ H Q I (w σ H Q q)⟩
theorem paImp {X : L2.Cx} {e : List Expr} {t t' : TA} (h : PA X e t) (w : ∀ σ H Q, t' σ H Q → t σ H Q) : PA X e t' := ⟨fun pos pins s σ H Q I q => h.run pos pins s σ H Q I (w σ H Q q)⟩

section
variable {X : L2.Cx} {ci : CI} {W : WX} {C : Rf.Cx} {a b c : Expr} {ca cb cc : E} {pos : Pos}
theorem r_var {i : Nat} {x : Str} (h : PE X (.Name x pos) (tVar i)) : PE X (.Name x pos) (tE X.K ci W C (.var i)) := peImp h fun σ H Q ⟨He, Pp, H0e, H0, ρ, r, o⟩ => by
  cases e : rd ρ i with
  | ok d ρ' =>
    have o' : Out X.K ci W σ He Pp H0e H0 (RE X.K ci Q) (rd ρ i) := o
    rw [e] at o'
    obtain ⟨v, H0', h1, h2, h3, h4⟩ := r.rd e
    exact ⟨v, h1, o' H0' H h3 h2 v h4⟩
  | exc c l ρ' =>
    unfold rd at e
    split at e <;> cases e
  | bot =>
    have o' : Out X.K ci W σ He Pp H0e H0 (RE X.K ci Q) (rd ρ i) := o
    rw [e] at o'
    exact o'.elim
theorem r_cst {e : Expr} {v : V} {d : D} (h : PE X e (tC v)) (hv : ∀ H, Rep X.K ci H v d) : PE X e (tE X.K ci W C (.cst d)) := peImp h fun σ H Q ⟨He, Pp, H0e, H0, ρ, r, o⟩ => o H0 H (.refl _) r v (hv _)
theorem r_bin {o : Op} (ha : PE X a (tE X.K ci W C ca)) (hb : PE X b (tE X.K ci W C cb)) : PE X (.BinOp a (toOp o) b pos) (tE X.K ci W C (.bin o ca cb)) :=
  peImp (pe_op (opr_bin (ci := ci) o) ha hb) fun σ H Q ⟨He, Pp, H0e, H0, ρ, r, out⟩ => by
    refine ⟨He, Pp, H0e, H0, ρ, r, Out.imp (fun x h0 h1 ρ1 _ _ ⟨r1, o1⟩ v hv => ?_) (Out.bind out)⟩
    refine ⟨He, Pp, H0e, h0, ρ1, r1, Out.imp (fun y k0 k1 ρ2 s2 _ ⟨r2, o2⟩ u hu => ?_) (Out.bind o1)⟩
    obtain ⟨z, e, o3⟩ := Out.of o2
    exact ⟨k0, x, y, z, r2.sub, hv.mono s2, hu, e, Out.post o3 r2⟩
theorem r_cmp {o : Cp} (hu : X.A.units + 64 < cLine) (hm : behindInMarks (toCp o) b = false) (ha : PE X a (tE X.K ci W C ca)) (hb : PE X b (tE X.K ci W C cb)) : PE X (.Compare a [toCp o] [b] pos) (tE X.K ci W C (.cmp o ca cb)) :=
  peImp (pe_cmpR (opr_cmp (ci := ci) hu o) ha hb hm) fun σ H Q ⟨He, Pp, H0e, H0, ρ, r, out⟩ => by
    refine ⟨He, Pp, H0e, H0, ρ, r, Out.imp (fun x h0 h1 ρ1 _ _ ⟨r1, o1⟩ v hv => ?_) (Out.bind out)⟩
    refine ⟨He, Pp, H0e, h0, ρ1, r1, Out.imp (fun y k0 k1 ρ2 s2 _ ⟨r2, o2⟩ u hu => ?_) (Out.bind o1)⟩
    obtain ⟨z, e, o3⟩ := Out.of o2
    cases e2 : Rf.cmp o x y with
    | none => rw [e2] at e; cases e
    | some q =>
      rw [e2] at e; cases e
      exact ⟨k0, x, y, q, r2.sub, hv.mono s2, hu, e2, Out.post o3 r2⟩
theorem r_chn {o p : Cp} (hu : X.A.units + 64 < cLine) (ha : PE X a (tE X.K ci W C ca)) (hb : PE X b (tE X.K ci W C cb)) (hc : PE X c (tE X.K ci W C cc)) (hm : lastMarks [toCp o, toCp p] [b, c] = false) : PE X (.Compare a [toCp o, toCp p] [b, c] pos) (tE X.K ci W C (.chn o p ca cb cc)) :=
  peImp (pe_chain (opr_cmp (ci := ci) hu o) (opr_cmp (ci := ci) hu p) ha hb hc hm) fun σ H Q ⟨He, Pp, H0e, H0, ρ, r, out⟩ => by
    refine ⟨He, Pp, H0e, H0, ρ, r, Out.imp (fun x h0 h1 ρ1 _ _ ⟨r1, o1⟩ v hv => ?_) (Out.bind out)⟩
    refine ⟨He, Pp, H0e, h0, ρ1, r1, Out.imp (fun y k0 k1 ρ2 s2 _ ⟨r2, o2⟩ u hu => ?_) (Out.bind o1)⟩
    cases e : Rf.cmp o x y with
    | none => rw [e] at o2; exact o2.elim
    | some q =>
      rw [e] at o2
      refine ⟨k0, x, y, q, r2.sub, hv.mono s2, hu, e, fun w l0 l1 g rw' => ?_⟩
      cases rw'
      refine ⟨q, rfl, ?_⟩
      cases q with
      | true =>
        refine iteT ?_
        refine ⟨He, Pp, H0e, l0, ρ2, r2.grow g, Out.imp (fun z m0 m1 ρ3 s3 _ ⟨r3, o3⟩ t ht => ?_) (Out.bind (Out.from g.a o2))⟩
        obtain ⟨z', e', o4⟩ := Out.of o3
        cases e2 : Rf.cmp p y z with
        | none => rw [e2] at e'; cases e'
        | some q2 =>
          rw [e2] at e'; cases e'
          exact ⟨m0, y, z, q2, r3.sub, (hu.mono g.a).mono s3, ht, e2, Out.post o4 r3⟩
      | false =>
        refine iteF ?_
        exact (Out.post o2 r2) _ _ _ g (.bl _)
theorem bl_of {H0 : Hp} {v : V} {b : Bool} (h : Rep X.K ci H0 v (.bl b)) : v = .bl b := by cases h; rfl
theorem r_and {rest : List Expr} (ha : PE X a (tE X.K ci W C ca)) (hb : PE X (.BoolOp .And (b :: rest) pos) (tE X.K ci W C cb)) : PE X (.BoolOp .And (a :: b :: rest) pos) (tE X.K ci W C (.and ca cb)) :=
  peImp (pe_and ha hb) fun σ H Q ⟨He, Pp, H0e, H0, ρ, r, out⟩ => by
    refine ⟨He, Pp, H0e, H0, ρ, r, Out.imp (fun x h0 h1 ρ1 _ _ ⟨r1, o1⟩ v hv => ?_) (Out.bind out)⟩
    split at o1
    · cases hv
      refine ⟨true, rfl, ?_⟩
      refine iteT ?_
      exact ⟨He, Pp, H0e, h0, ρ1, r1, o1⟩
    · cases hv
      refine ⟨false, rfl, ?_⟩
      refine iteF ?_
      exact o1 h0 h1 (.refl _) r1 _ (.bl _)
    · exact o1.elim
theorem r_or {rest : List Expr} (ha : PE X a (tE X.K ci W C ca)) (hb : PE X (.BoolOp .Or (b :: rest) pos) (tE X.K ci W C cb)) : PE X (.BoolOp .Or (a :: b :: rest) pos) (tE X.K ci W C (.or ca cb)) :=
  peImp (pe_or ha hb) fun σ H Q ⟨He, Pp, H0e, H0, ρ, r, out⟩ => by
    refine ⟨He, Pp, H0e, H0, ρ, r, Out.imp (fun x h0 h1 ρ1 _ _ ⟨r1, o1⟩ v hv => ?_) (Out.bind out)⟩
    split at o1
    · cases hv
      refine ⟨false, rfl, ?_⟩
      refine iteF ?_
      exact ⟨He, Pp, H0e, h0, ρ1, r1, o1⟩
    · cases hv
      refine ⟨true, rfl, ?_⟩
      refine iteT ?_
      exact o1 h0 h1 (.refl _) r1 _ (.bl _)
    · exact o1.elim
theorem r_not (ha : PE X a (tE X.K ci W C ca)) : PE X (.UnaryOp .Not a pos) (tE X.K ci W C (.not ca)) :=
  peImp (pe_not ha) fun σ H Q ⟨He, Pp, H0e, H0, ρ, r, out⟩ => by
    refine ⟨He, Pp, H0e, H0, ρ, r, Out.imp (fun x h0 h1 ρ1 _ _ ⟨r1, o1⟩ v hv => ?_) (Out.bind out)⟩
    split at o1
    · cases hv
      exact ⟨_, rfl, o1 h0 h1 (.refl _) r1 _ (.bl _)⟩
    · exact o1.elim
theorem r_neg (ha : PE X a (tE X.K ci W C ca)) : PE X (.UnaryOp .USub a pos) (tE X.K ci W C (.neg ca)) :=
  peImp (pe_un un_neg ha) fun σ H Q ⟨He, Pp, H0e, H0, ρ, r, out⟩ => by
    refine ⟨He, Pp, H0e, H0, ρ, r, Out.imp (fun x h0 h1 ρ1 _ _ ⟨r1, o1⟩ v hv => ?_) (Out.bind out)⟩
    split at o1
    · cases hv
      exact ⟨_, rfl, o1 h0 h1 (.refl _) r1 _ (.int _)⟩
    · exact o1.elim
theorem r_ite (hc : PT X c (tT X.K ci W C cc)) (ha : PE X a (tE X.K ci W C ca)) (hb : PE X b (tE X.K ci W C cb)) : PE X (.IfExp c a b pos) (tE X.K ci W C (.ite cc ca cb)) :=
  peImp (pe_ifExp hc ha hb) fun σ H Q ⟨He, Pp, H0e, H0, ρ, r, out⟩ => by
    refine ⟨He, Pp, H0e, H0, ρ, r, Out.imp (fun x h0 h1 ρ1 _ _ ⟨r1, o1⟩ => ?_) (Out.bind out)⟩
    split at o1
    · refine ⟨true, rfl, ?_⟩
      refine iteT ?_
      exact ⟨He, Pp, H0e, h0, ρ1, r1, o1⟩
    · refine ⟨false, rfl, ?_⟩
      refine iteF ?_
      exact ⟨He, Pp, H0e, h0, ρ1, r1, o1⟩
    · exact o1.elim
/-! ### tests -/
theorem r_tval {e : Expr} {c : E} (h : PE X e (tE X.K ci W C c)) (he : ∀ whole, isTrue e X.env whole = (do let v ← whole; standAt e.pos; holding [v] (truthy v))) : PT X e (tT X.K ci W C c) :=
  ptImp (pt_val h he) fun σ H Q ⟨He, Pp, H0e, H0, ρ, r, out⟩ => ⟨He, Pp, H0e, H0, ρ, r, Out.imp (fun x h0 h1 ρ1 _ r1 ⟨b, e, q⟩ v hv => by
    subst e
    cases hv
    exact ⟨b, rfl, q⟩) out⟩
theorem r_tcmp {o : Cp} (hu : X.A.units + 64 < cLine) (hm : behindInMarks (toCp o) b = false) (ha : PE X a (tE X.K ci W C ca)) (hb : PE X b (tE X.K ci W C cb)) : PT X (.Compare a [toCp o] [b] pos) (tT X.K ci W C (.cmp o ca cb)) :=
  ptImp (pt_cmpR (opr_cmp (ci := ci) hu o) ha hb hm) fun σ H Q ⟨He, Pp, H0e, H0, ρ, r, out⟩ => by
    refine ⟨He, Pp, H0e, H0, ρ, r, Out.imp (fun x h0 h1 ρ1 _ _ ⟨r1, o1⟩ v hv => ?_) (Out.bind out)⟩
    refine ⟨He, Pp, H0e, h0, ρ1, r1, Out.imp (fun y k0 k1 ρ2 s2 _ ⟨r2, o2⟩ u hu => ?_) (Out.bind o1)⟩
    obtain ⟨z, e, o3⟩ := Out.of o2
    cases e2 : Rf.cmp o x y with
    | none => rw [e2] at e; cases e
    | some q =>
      rw [e2] at e; cases e
      refine ⟨k0, x, y, q, r2.sub, hv.mono s2, hu, e2, fun w l0 l1 g rw' => ?_⟩
      cases rw'
      obtain ⟨b', e3, q3⟩ := o3 l0 l1 g.a (r2.grow g)
      cases e3
      exact ⟨q, rfl, q3⟩
theorem r_tnot (ha : PT X a (tT X.K ci W C ca)) : PT X (.UnaryOp .Not a pos) (tT X.K ci W C (.not ca)) :=
  ptImp (pt_not ha) fun σ H Q ⟨He, Pp, H0e, H0, ρ, r, out⟩ => by
    refine ⟨He, Pp, H0e, H0, ρ, r, Out.imp (fun x h0 h1 ρ1 _ _ ⟨r1, o1⟩ => ?_) (Out.bind out)⟩
    split at o1
    · obtain ⟨b', e3, q3⟩ := o1 h0 h1 (.refl _) r1
      cases e3
      exact ⟨_, rfl, q3⟩
    · exact o1.elim
theorem r_tand {rest : List Expr} (ha : PT X a (tT X.K ci W C ca)) (hb : PW X (.BoolOp .And (b :: rest) pos) (tT X.K ci W C cb)) : PW X (.BoolOp .And (a :: b :: rest) pos) (tT X.K ci W C (.and ca cb)) :=
  pwImp (pw_and ha hb) fun σ H Q ⟨He, Pp, H0e, H0, ρ, r, out⟩ => by
    refine ⟨He, Pp, H0e, H0, ρ, r, Out.imp (fun x h0 h1 ρ1 _ _ ⟨r1, o1⟩ => ?_) (Out.bind out)⟩
    split at o1
    · refine ⟨true, rfl, ?_⟩
      refine iteT ?_
      exact ⟨He, Pp, H0e, h0, ρ1, r1, o1⟩
    · refine ⟨false, rfl, ?_⟩
      refine iteF ?_
      obtain ⟨b', e3, q3⟩ := o1 h0 h1 (.refl _) r1
      cases e3
      exact q3
    · exact o1.elim
theorem r_tor {rest : List Expr} (ha : PT X a (tT X.K ci W C ca)) (hb : PW X (.BoolOp .Or (b :: rest) pos) (tT X.K ci W C cb)) : PW X (.BoolOp .Or (a :: b :: rest) pos) (tT X.K ci W C (.or ca cb)) :=
  pwImp (pw_or ha hb) fun σ H Q ⟨He, Pp, H0e, H0, ρ, r, out⟩ => by
    refine ⟨He, Pp, H0e, H0, ρ, r, Out.imp (fun x h0 h1 ρ1 _ _ ⟨r1, o1⟩ => ?_) (Out.bind out)⟩
    split at o1
    · refine ⟨false, rfl, ?_⟩
      refine iteF ?_
      exact ⟨He, Pp, H0e, h0, ρ1, r1, o1⟩
    · refine ⟨true, rfl, ?_⟩
      refine iteT ?_
      obtain ⟨b', e3, q3⟩ := o1 h0 h1 (.refl _) r1
      cases e3
      exact q3
    · exact o1.elim
/-! ### displays, builtins, items -/
theorem r_nil : PA X [] (tEs X.K ci W C .nil) := paImp pa_nil fun σ H Q ⟨He, Pp, H0e, H0, ρ, r, out⟩ => out H0 H (.refl _) r [] .nil
theorem r_cons {es : List Expr} {l : Es} (hs : starEach (a :: es) X.env = (false, eval a X.env) :: starEach es X.env) (ha : PE X a (tE X.K ci W C ca)) (hr : PA X es (tEs X.K ci W C l)) : PA X (a :: es) (tEs X.K ci W C (.cons ca l)) :=
  paImp (pa_cons ha hr hs) fun σ H Q ⟨He, Pp, H0e, H0, ρ, r, out⟩ => by
    refine ⟨He, Pp, H0e, H0, ρ, r, Out.imp (fun x h0 h1 ρ1 _ _ ⟨r1, o1⟩ v hv => ?_) (Out.bind out)⟩
    refine ⟨He, Pp, H0e, h0, ρ1, r1, Out.imp (fun ys k0 k1 ρ2 s2 _ ⟨r2, o2⟩ us hu => ?_) (Out.bind o1)⟩
    exact o2 k0 k1 (.refl _) r2 _ (.cons (hv.mono s2) hu)
theorem r_tup {es : List Expr} {k : Nat} {l : Es} (h : PA X es (tEs X.K ci W C l)) : PE X (.Tuple es k pos) (tE X.K ci W C (.tup l)) :=
  peImp (pe_tup h) fun σ H Q ⟨He, Pp, H0e, H0, ρ, r, out⟩ => by
    refine ⟨He, Pp, H0e, H0, ρ, r, Out.imp (fun xs h0 h1 ρ1 _ _ ⟨r1, o1⟩ vs hv => ?_) (Out.bind out)⟩
    split at o1
    · rename_i hz
      refine ⟨by rw [hv.length, ← lineN_eq]; exact hz, fun p hp => ?_⟩
      exact (Out.post o1 r1).new r1.sub hp (.tup (.of upd_same) (hv.mono (same_upd (same_none r1.sub hp))))
    · exact o1.elim
theorem r_lst {es : List Expr} {l : Es} (h : PA X es (tEs X.K ci W C l)) : PE X (.List es pos) (tE X.K ci W C (.lst l)) :=
  peImp (pe_lst h) fun σ H Q ⟨He, Pp, H0e, H0, ρ, r, out⟩ => by
    refine ⟨He, Pp, H0e, H0, ρ, r, Out.imp (fun xs h0 h1 ρ1 _ _ ⟨r1, o1⟩ vs hv => ?_) (Out.bind out)⟩
    split at o1
    · rename_i hz
      refine ⟨by rw [hv.length, ← lineN_eq]; exact hz, fun p hp => ?_⟩
      exact (Out.post o1 r1).new r1.sub hp (.lst upd_same (hv.mono (same_upd (same_none r1.sub hp))))
    · exact o1.elim
theorem ev1 {C : Rf.Cx} {p : P} {ca : E} {ρ : List S} : evE C (.prim p (.cons ca .nil)) ρ = (evE C ca ρ).bind fun x r1 => .of (prim p [x]) r1 := by
  simp only [evE, evEs]
  cases evE C ca ρ <;> rfl
theorem ev2 {C : Rf.Cx} {p : P} {ca cb : E} {ρ : List S} : evE C (.prim p (.cons ca (.cons cb .nil))) ρ = (evE C ca ρ).bind fun x r1 => (evE C cb r1).bind fun y r2 => .of (prim p [x, y]) r2 := by
  simp only [evE, evEs]
  cases evE C ca ρ with
  | ok x r1 =>
    simp only [Res.bind]
    cases evE C cb r1 <;> rfl
  | exc c l r1 => rfl
  | bot => rfl
/-- a call of a builtin by values, its reading -/
theorem r_prim {p : P} {l : Es} {e : Expr} {t : TA} (h : PE X e (tCB (rPrim X.K ci p) (tEs X.K ci W C l))) : PE X e (tE X.K ci W C (.prim p l)) :=
  peImp h fun σ H Q ⟨He, Pp, H0e, H0, ρ, r, out⟩ => by
    refine ⟨He, Pp, H0e, H0, ρ, r, Out.imp (fun xs h0 h1 ρ1 _ _ ⟨r1, o1⟩ vs hv => ?_) (Out.bind out)⟩
    obtain ⟨z, e, o3⟩ := Out.of o1
    exact ⟨h0, xs, z, r1.sub, hv, e, Out.post o3 r1⟩
theorem r_isa {t : Nat} {e y : Expr} (hb : PE X y (tC (.ty (tyS t)))) (ha : PE X a (tE X.K ci W C ca)) (h : ∀ u, PA X [a, y] u → PE X e (tCB (rIsa X.K ci t) u)) (hs : starEach [a, y] X.env = (false, eval a X.env) :: starEach [y] X.env) (hs2 : starEach [y] X.env = (false, eval y X.env) :: starEach [] X.env) :
    PE X e (tE X.K ci W C (.prim (.isa t) (.cons ca .nil))) :=
  peImp (h _ (pa_cons ha (pa_cons hb pa_nil hs2) hs)) fun σ H Q ⟨He, Pp, H0e, H0, ρ, r, out⟩ => by
    have out2 := out
    rw [ev1] at out2
    refine ⟨He, Pp, H0e, H0, ρ, r, Out.imp (fun x h0 h1 ρ1 _ _ ⟨r1, o1⟩ v hv => ?_) (Out.bind out2)⟩
    obtain ⟨z, e, o3⟩ := Out.of o1
    exact ⟨h0, v, x, z, rfl, r1.sub, hv, e, Out.post o3 r1⟩
theorem r_idx (hs : PlainIx b) (ha : PE X a (tE X.K ci W C ca)) (hb : PE X b (tE X.K ci W C cb)) : PE X (.Subscript a b pos) (tE X.K ci W C (.prim .idx (.cons ca (.cons cb .nil)))) :=
  peImp (pe_ix (ix_idx (ci := ci)) ha hb hs) fun σ H Q ⟨He, Pp, H0e, H0, ρ, r, out⟩ => by
    have out2 := out
    rw [ev2] at out2
    refine ⟨He, Pp, H0e, H0, ρ, r, Out.imp (fun x h0 h1 ρ1 _ _ ⟨r1, o1⟩ v hv => ?_) (Out.bind out2)⟩
    refine ⟨He, Pp, H0e, h0, ρ1, r1, Out.imp (fun y k0 k1 ρ2 s2 _ ⟨r2, o2⟩ u hu => ?_) (Out.bind o1)⟩
    obtain ⟨z, e, o3⟩ := Out.of o2
    exact ⟨k0, x, y, z, r2.sub, hv.mono s2, hu, e, Out.post o3 r2⟩
theorem r_bits {e : Expr} (h : PE X e (tBits (tE X.K ci W C ca))) : PE X e (tE X.K ci W C (.prim .bits (.cons ca .nil))) :=
  peImp h fun σ H Q ⟨He, Pp, H0e, H0, ρ, r, out⟩ => by
    have out2 := out
    rw [ev1] at out2
    refine ⟨He, Pp, H0e, H0, ρ, r, Out.imp (fun x h0 h1 ρ1 _ _ ⟨r1, o1⟩ v hv => ?_) (Out.bind out2)⟩
    obtain ⟨z, e, o3⟩ := Out.of o1
    change pBits [x] = some z at e
    unfold pBits at e
    split at e
    · rename_i i q
      cases q
      cases hv
      cases e
      exact ⟨_, rfl, o3 h0 h1 (.refl _) r1 _ (.int _)⟩
    · cases e
/-- an item of a list of one's own -/
theorem r_mix {i : Nat} {x : Str} {px : Pos} (hs : PlainIx b) (ha : PE X (.Name x px) (tVar i)) (hb : PE X b (tE X.K ci W C cb)) : PE X (.Subscript (.Name x px) b pos) (tE X.K ci W C (.mix i cb)) :=
  peImp (pe_ix ix_seq ha hb hs) fun σ H Q ⟨He, Pp, H0e, H0, ρ, r, out⟩ => by
    unfold evE at out
    split at out
    · rename_i b0 l0 e0
      obtain ⟨a0, vs0, k1, _⟩ := r.own e0
      refine ⟨.ref a0, k1, He, Pp, H0e, H0, ρ, r, Out.imp (fun y h0 h1 ρ1 _ _ ⟨r1, o1⟩ v hv => ?_) (Out.bind out)⟩
      split at o1
      · rename_i b1 l1 j e1 _
        obtain ⟨z, e, o3⟩ := Out.of o1
        cases hv
        obtain ⟨a1, vs1, m1, m2, m3, m4, _⟩ := r1.own e1
        rw [k1] at m1; cases m1
        obtain ⟨w, n1, n2⟩ := m4.atI e
        exact .inl ⟨_, _, _, _, rfl, rfl, .of m2, n1, o3 h0 h1 (.refl _) r1 w n2⟩
      · exact o1.elim
    · exact out.elim
end
end Rf

set_option Elab.async false
set_option linter.all false
set_option maxRecDepth 100000
set_option maxHeartbeats 2000000
/-! RfCall: defs called. -/
namespace Rf
open PySem PySem.Spec PyProof.Rows L2

/-- the lists lent, by parameter -/
def ppOf : Nat → List V → List S → List (Nat × Addr)
  | k, .ref a :: vs, .own true _ :: ss => (k, a) :: ppOf (k + 1) vs ss
  | k, _ :: vs, _ :: ss => ppOf (k + 1) vs ss
  | _, _, _ => []
def ArgS (K : PySem.W.Frag) (ci : CI) (H0 H : Hp) : V → S → Prop
  | v, .val d => Rep K ci H0 v d
  | v, .own b l => b = true ∧ ∃ a ws, v = .ref a ∧ H a = some (.lst ws) ∧ H0 a = none ∧ Reps K ci H0 ws l
  | _, .non => False
def ArgsS (K : PySem.W.Frag) (ci : CI) (H0 H : Hp) : List V → List S → Prop
  | [], [] => True
  | v :: vs, s :: ss => ArgS K ci H0 H v s ∧ ArgsS K ci H0 H vs ss
  | _, _ => False
structure GrowB (Pw : List Addr) (H0 H H0' H' : Hp) : Prop where
  a : Same H0 H0'
  b : ∀ b o, H b = some o → b ∉ Pw → H' b = some o
  c : Same H0' H'
  d : ∀ b o, H0' b = some o → H0 b = some o ∨ H b = none
def OutsR (K : PySem.W.Frag) (ci : CI) (H0' H' : Hp) (pp : List (Nat × Addr)) (outs : List S) : Prop :=
  ∀ p ∈ pp, ∃ l ws, outs[p.1]? = some (.own true l) ∧ H' p.2 = some (.lst ws) ∧ H0' p.2 = none ∧ Reps K ci H0' ws l
/-- what a def promises: its plain meaning -/
def spI (K : PySem.W.Frag) (ci : CI) (C : Rf.Cx) (n f : Nat) : Sp := fun vs H Q E => vs.length = n ∧ ∃ H0 args, Same H0 H ∧ ArgsS K ci H0 H vs args ∧ ((ppOf 0 vs args).map (·.2)).Nodup ∧
  match C.call f args with
  | .ok d outs => ∀ v H0' H', GrowB ((ppOf 0 vs args).map (·.2)) H0 H H0' H' → OutsR K ci H0' H' (ppOf 0 vs args) outs → Rep K ci H0' v d → Q v H'
  | .exc c l outs => ∀ H0' H' cls dd, GrowB ((ppOf 0 vs args).map (·.2)) H0 H H0' H' → OutsR K ci H0' H' (ppOf 0 vs args) outs → ExcR K ci H0' c l cls dd → E cls dd H'
  | .bot => False
theorem ppOf_mem : ∀ {k : Nat} {vs : List V} {ss : List S} {p : Nat × Addr}, p ∈ ppOf k vs ss ↔ k ≤ p.1 ∧ vs[p.1 - k]? = some (.ref p.2) ∧ ∃ l, ss[p.1 - k]? = some (.own true l)
  | k, [], ss, p => by simp [ppOf]
  | k, v :: vs, [], p => by
    cases v <;> simp [ppOf]
  | k, v :: vs, s :: ss, p => by
    have ih := ppOf_mem (k := k + 1) (vs := vs) (ss := ss) (p := p)
    have step : (k + 1 ≤ p.1 ∧ vs[p.1 - (k + 1)]? = some (.ref p.2) ∧ ∃ l, ss[p.1 - (k + 1)]? = some (.own true l)) ↔ (k < p.1 ∧ (v :: vs)[p.1 - k]? = some (.ref p.2) ∧ ∃ l, (s :: ss)[p.1 - k]? = some (.own true l)) := by
      constructor
      · rintro ⟨h1, h2, l, h3⟩
        have e : p.1 - k = (p.1 - (k + 1)) + 1 := by omega
        exact ⟨h1, by rw [e]; simpa using h2, l, by rw [e]; simpa using h3⟩
      · rintro ⟨h1, h2, l, h3⟩
        have e : p.1 - k = (p.1 - (k + 1)) + 1 := by omega
        rw [e] at h2 h3
        exact ⟨h1, by simpa using h2, l, by simpa using h3⟩
    have other : (∀ a l, v = .ref a → s ≠ .own true l) → (ppOf k (v :: vs) (s :: ss) = ppOf (k + 1) vs ss) := by
      intro hn
      cases v <;> first | rfl | skip
      rename_i a
      cases s with
      | non => rfl
      | val d => rfl
      | own b l =>
        cases b with
        | true => exact absurd rfl (hn a l rfl)
        | false => rfl
    by_cases hv : ∃ a l, v = .ref a ∧ s = .own true l
    · obtain ⟨a, l, rfl, rfl⟩ := hv
      show p ∈ (k, a) :: ppOf (k + 1) vs ss ↔ _
      rw [List.mem_cons, ih, step]
      constructor
      · rintro (rfl | ⟨h1, h2⟩)
        · exact ⟨Nat.le_refl _, by simp, l, by simp⟩
        · exact ⟨Nat.le_of_lt h1, h2⟩
      · rintro ⟨h1, h2, h3⟩
        rcases Nat.lt_or_ge k p.1 with hk | hk
        · exact .inr ⟨hk, h2, h3⟩
        · have e : p.1 = k := Nat.le_antisymm hk h1
          rw [e, Nat.sub_self] at h2
          left
          have h2' : some (V.ref a) = some (V.ref p.2) := h2
          cases p
          simp only [Option.some.injEq, V.ref.injEq] at h2'
          simp only at e
          rw [e, h2']
    · rw [other fun a l e1 e2 => hv ⟨a, l, e1, e2⟩, ih, step]
      constructor
      · rintro ⟨h1, h2⟩
        exact ⟨Nat.le_of_lt h1, h2⟩
      · rintro ⟨h1, h2, l, h3⟩
        rcases Nat.lt_or_ge k p.1 with hk | hk
        · exact ⟨hk, h2, l, h3⟩
        · have e : p.1 = k := Nat.le_antisymm hk h1
          rw [e, Nat.sub_self] at h2 h3
          have h2' : some v = some (V.ref p.2) := h2
          have h3' : some s = some (S.own true l) := h3
          exact absurd ⟨p.2, l, Option.some.inj h2', Option.some.inj h3'⟩ hv
section
variable {K : PySem.W.Frag} {ci : CI} {H0 H H0' H' : Hp}
theorem ArgsS.length : ∀ {vs : List V} {ss : List S}, ArgsS K ci H0 H vs ss → vs.length = ss.length
  | [], [], _ => rfl
  | _ :: _, _ :: _, h => congrArg Nat.succ (ArgsS.length h.2)
theorem ArgsS.get : ∀ {vs : List V} {ss : List S} {i : Nat} {v : V} {s : S}, ArgsS K ci H0 H vs ss → vs[i]? = some v → ss[i]? = some s → ArgS K ci H0 H v s
  | [], [], _, _, _, _, h, _ => by simp at h
  | _ :: _, _ :: _, 0, _, _, h, e1, e2 => by
    simp at e1 e2; subst e1; subst e2; exact h.1
  | _ :: _, _ :: _, i + 1, _, _, h, e1, e2 => ArgsS.get (i := i) h.2 (by simpa using e1) (by simpa using e2)
theorem ArgsS.mk : ∀ {vs : List V} {ss : List S}, vs.length = ss.length → (∀ (i : Nat) v s, vs[i]? = some v → ss[i]? = some s → ArgS K ci H0 H v s) → ArgsS K ci H0 H vs ss
  | [], [], _, _ => trivial
  | _ :: _, _ :: _, hl, h => ⟨h 0 _ _ rfl rfl, ArgsS.mk (Nat.succ.inj hl) fun i v s e1 e2 => h (i + 1) v s (by simpa using e1) (by simpa using e2)⟩
  | [], _ :: _, hl, _ => by cases hl
  | _ :: _, [], hl, _ => by cases hl
end

/-! ### arguments -/
inductive AvsR (K : PySem.W.Frag) (ci : CI) (h0 h1 : Hp) (σ : L2.St) : Hp → List V → List Av → Prop
  | nil : AvsR K ci h0 h1 σ h1 [] []
  | val {v : V} {d : D} {H'' : Hp} {us : List V} {vs : List Av} : Rep K ci h0 v d → AvsR K ci h0 h1 σ H'' us vs → AvsR K ci h0 h1 σ H'' (v :: us) (.val d :: vs)
  | own {i : Nat} {v : V} {H'' : Hp} {us : List V} {vs : List Av} : σ[i]? = some (some v) → AvsR K ci h0 h1 σ H'' us vs → AvsR K ci h0 h1 σ H'' (v :: us) (.own i :: vs)
  | tmp {p : Addr} {ws : List V} {l : List D} : h1 p = none → Reps K ci h0 ws l → AvsR K ci h0 h1 σ (upd h1 p (.lst ws)) [.ref p] [.tmp l]
def OwnsOk (ρ : List S) (vs : List Av) : Prop := (∀ i, Av.own i ∈ vs → ∃ b l, getS ρ i = .own b l) ∧ ∀ (i j k : Nat), vs[i]? = some (.own k) → vs[j]? = some (.own k) → i = j
def tAs (K : PySem.W.Frag) (ci : CI) (W : WX) (C : Rf.Cx) (c : As) : TA := fun σ H Q => ∃ He Pp H0e H0 ρ, Rl K ci He Pp H0e H0 H σ ρ ∧
  Out K ci W σ He Pp H0e H0 (fun vs h0 h1 _ => ∀ us H'', AvsR K ci h0 h1 σ H'' us vs → Q us H'') (evAs C c ρ)
theorem noOwn_spec {j : Nat} : ∀ {vs : List Av}, noOwn j vs = true → ∀ (i : Nat), vs[i]? ≠ some (Av.own j)
  | [], _, i, h => by simp at h
  | v :: vs, hn, 0, h => by
    simp at h; subst h
    unfold noOwn isOwn at hn
    simp at hn
  | v :: vs, hn, i + 1, h => by
    unfold noOwn at hn
    rw [Bool.and_eq_true] at hn
    exact noOwn_spec hn.2 i (by simpa using h)
theorem evAs_owns {C : Rf.Cx} : ∀ {c : As} {ρ : List S} {vs : List Av} {ρ' : List S}, evAs C c ρ = .ok vs ρ' → OwnsOk ρ' vs
  | .nil, ρ, vs, ρ', h => by
    unfold evAs at h; cases h
    exact ⟨fun i hi => (by cases hi), fun i j k h => (by simp at h)⟩
  | .val e l, ρ, vs, ρ', h => by
    unfold evAs at h
    cases q : evE C e ρ with
    | ok x r1 =>
      rw [q] at h
      simp only [Res.bind] at h
      cases q2 : evAs C l r1 with
      | ok xs r2 =>
        rw [q2] at h
        cases h
        obtain ⟨o1, o2⟩ := evAs_owns q2
        refine ⟨fun i hi => ?_, fun i j k h1 h2 => ?_⟩
        · rcases List.mem_cons.mp hi with z | z
          · cases z
          · exact o1 i z
        · cases i with
          | zero => simp at h1
          | succ i =>
            cases j with
            | zero => simp at h2
            | succ j => exact congrArg Nat.succ (o2 i j k (by simpa using h1) (by simpa using h2))
      | exc c l r2 => rw [q2] at h; cases h
      | bot => rw [q2] at h; cases h
    | exc c l r1 => rw [q] at h; cases h
    | bot => rw [q] at h; cases h
  | .own i0 l, ρ, vs, ρ', h => by
    unfold evAs at h
    split at h
    · cases q2 : evAs C l ρ with
      | ok xs r2 =>
        rw [q2] at h
        simp only [Res.bind] at h
        split at h
        · rename_i b l0 e0
          split at h
          · rename_i hn
            cases h
            obtain ⟨o1, o2⟩ := evAs_owns q2
            refine ⟨fun i hi => ?_, fun i j k h1 h2 => ?_⟩
            · rcases List.mem_cons.mp hi with z | z
              · cases z; exact ⟨_, _, e0⟩
              · exact o1 i z
            · cases i with
              | zero =>
                simp at h1; subst h1
                cases j with
                | zero => rfl
                | succ j => exact absurd (by simpa using h2) (noOwn_spec hn j)
              | succ i =>
                cases j with
                | zero => simp at h2; subst h2; exact absurd (by simpa using h1) (noOwn_spec hn i)
                | succ j => exact congrArg Nat.succ (o2 i j k (by simpa using h1) (by simpa using h2))
          · cases h
        · cases h
      | exc c l r2 => rw [q2] at h; cases h
      | bot => rw [q2] at h; cases h
    · cases h
  | .tmp es, ρ, vs, ρ', h => by
    unfold evAs at h
    cases q : evEs C es ρ with
    | ok x r1 =>
      rw [q] at h
      simp only [Res.bind] at h
      split at h
      · cases h
        exact ⟨fun i hi => (by simp at hi), fun i j k h1 h2 => by
          cases i with
          | zero => simp at h1
          | succ i => simp at h1⟩
      · cases h
    | exc c l r1 => rw [q] at h; cases h
    | bot => rw [q] at h; cases h
section
variable {X : L2.Cx} {ci : CI} {W : WX} {C : Rf.Cx} {a : Expr} {es : List Expr} {ca : E} {l : As}
theorem ra_nil : PA X [] (tAs X.K ci W C .nil) := paImp pa_nil fun σ H Q ⟨He, Pp, H0e, H0, ρ, r, out⟩ => out H0 H (.refl _) r [] H .nil
theorem ra_val (hs : starEach (a :: es) X.env = (false, eval a X.env) :: starEach es X.env) (ha : PE X a (tE X.K ci W C ca)) (hr : PA X es (tAs X.K ci W C l)) : PA X (a :: es) (tAs X.K ci W C (.val ca l)) :=
  paImp (pa_cons ha hr hs) fun σ H Q ⟨He, Pp, H0e, H0, ρ, r, out⟩ => by
    refine ⟨He, Pp, H0e, H0, ρ, r, Out.imp (fun x h0 h1 ρ1 _ _ ⟨r1, o1⟩ v hv => ?_) (Out.bind out)⟩
    refine ⟨He, Pp, H0e, h0, ρ1, r1, Out.imp (fun ys k0 k1 ρ2 s2 _ ⟨r2, o2⟩ us H'' hu => ?_) (Out.bind o1)⟩
    exact o2 k0 k1 (.refl _) r2 _ _ (.val (hv.mono s2) hu)
theorem ra_own {i : Nat} {x : Str} {px : Pos} (hs : starEach (.Name x px :: es) X.env = (false, eval (.Name x px) X.env) :: starEach es X.env) (ha : PE X (.Name x px) (tVar i)) (hr : PA X es (tAs X.K ci W C l)) : PA X (.Name x px :: es) (tAs X.K ci W C (.own i l)) :=
  paImp (pa_cons ha hr hs) fun σ H Q ⟨He, Pp, H0e, H0, ρ, r, out⟩ => by
    unfold evAs at out
    split at out
    · rename_i b0 l0 e0
      obtain ⟨a0, vs0, k1, _⟩ := r.own e0
      refine ⟨.ref a0, k1, He, Pp, H0e, H0, ρ, r, Out.imp (fun ys h0 h1 ρ2 s2 _ ⟨r2, o2⟩ us H'' hu => ?_) (Out.bind out)⟩
      split at o2
      · split at o2
        · exact o2 h0 h1 (.refl _) r2 _ _ (.own k1 hu)
        · exact o2.elim
      · exact o2.elim
    · exact out.elim
theorem ra_tmp {es : List Expr} {pos : Pos} {l : Es} (hs : starEach [.List es pos] X.env = (false, eval (.List es pos) X.env) :: starEach [] X.env) (h : PA X es (tEs X.K ci W C l)) : PA X [.List es pos] (tAs X.K ci W C (.tmp l)) :=
  paImp (pa_cons (pe_lst h) pa_nil hs) fun σ H Q ⟨He, Pp, H0e, H0, ρ, r, out⟩ => by
    unfold evAs at out
    refine ⟨He, Pp, H0e, H0, ρ, r, Out.imp (fun xs h0 h1 ρ1 _ _ ⟨r1, o1⟩ vs hv => ?_) (Out.bind out)⟩
    split at o1
    · rename_i hz
      exact ⟨by rw [hv.length, ← lineN_eq]; exact hz, fun p hp => o1 h0 h1 (.refl _) r1 _ _ (.tmp hp hv)⟩
    · exact o1.elim
end
end Rf

set_option Elab.async false
set_option linter.all false
set_option maxRecDepth 100000
set_option maxHeartbeats 2000000
/-! RfCall2: from arguments to a promise, and back. -/
namespace Rf
open PySem PySem.Spec PyProof.Rows L2

theorem permG_length {α : Type} : ∀ {p : List (Nat ⊕ D)} {xs : List α} {l : List α}, xs.length = p.length → (permG p xs l).length = p.length
  | [], _, _, _ => rfl
  | .inl i :: p, x :: xs, l, h => congrArg Nat.succ (permG_length (Nat.succ.inj h))
  | .inr d :: p, x :: xs, l, h => congrArg Nat.succ (permG_length (Nat.succ.inj h))
  | .inl _ :: _, [], _, h => by cases h
  | .inr _ :: _, [], _, h => by cases h
theorem permG_inl {α : Type} : ∀ {p : List (Nat ⊕ D)} {xs : List α} {l : List α} {j i : Nat} {x : α}, p[j]? = some (.inl i) → xs[j]? = some x → xs.length = p.length → (permG p xs l)[j]? = some (l.getD i x)
  | [], _, _, _, _, _, h, _, _ => by simp at h
  | .inl _ :: _, [], _, _, _, _, _, _, h => by cases h
  | .inr _ :: _, [], _, _, _, _, _, _, h => by cases h
  | .inl i0 :: p, x0 :: xs, l, 0, i, x, h1, h2, _ => by simp at h1 h2; subst h1; subst h2; rfl
  | .inr d :: p, x0 :: xs, l, 0, i, x, h1, h2, _ => by simp at h1
  | .inl i0 :: p, x0 :: xs, l, j + 1, i, x, h1, h2, hl => permG_inl (p := p) (by simpa using h1) (by simpa using h2) (Nat.succ.inj hl)
  | .inr d :: p, x0 :: xs, l, j + 1, i, x, h1, h2, hl => permG_inl (p := p) (by simpa using h1) (by simpa using h2) (Nat.succ.inj hl)
theorem permG_inr {α : Type} : ∀ {p : List (Nat ⊕ D)} {xs : List α} {l : List α} {j : Nat} {d : D} {x : α}, p[j]? = some (.inr d) → xs[j]? = some x → xs.length = p.length → (permG p xs l)[j]? = some x
  | [], _, _, _, _, _, h, _, _ => by simp at h
  | .inl _ :: _, [], _, _, _, _, _, _, h => by cases h
  | .inr _ :: _, [], _, _, _, _, _, _, h => by cases h
  | .inl i0 :: p, x0 :: xs, l, 0, d, x, h1, h2, _ => by simp at h1
  | .inr d0 :: p, x0 :: xs, l, 0, d, x, h1, h2, _ => by simp at h2; subst h2; rfl
  | .inl i0 :: p, x0 :: xs, l, j + 1, d, x, h1, h2, hl => permG_inr (p := p) (by simpa using h1) (by simpa using h2) (Nat.succ.inj hl)
  | .inr d0 :: p, x0 :: xs, l, j + 1, d, x, h1, h2, hl => permG_inr (p := p) (by simpa using h1) (by simpa using h2) (Nat.succ.inj hl)
theorem permD_length : ∀ p : List (Nat ⊕ D), (permD p).length = p.length
  | [] => rfl
  | .inl _ :: p => congrArg Nat.succ (permD_length p)
  | .inr _ :: p => congrArg Nat.succ (permD_length p)
theorem permD_inr : ∀ {p : List (Nat ⊕ D)} {j : Nat} {d : D}, p[j]? = some (.inr d) → (permD p)[j]? = some (.val d)
  | [], _, _, h => by simp at h
  | .inl _ :: p, 0, _, h => by simp at h
  | .inr d0 :: p, 0, d, h => by simp at h; subst h; rfl
  | .inl _ :: p, j + 1, d, h => permD_inr (p := p) (by simpa using h)
  | .inr _ :: p, j + 1, d, h => permD_inr (p := p) (by simpa using h)
theorem permD_inl : ∀ {p : List (Nat ⊕ D)} {j i : Nat}, p[j]? = some (.inl i) → (permD p)[j]? = some .non
  | [], _, _, h => by simp at h
  | .inl _ :: p, 0, _, h => rfl
  | .inr d0 :: p, 0, d, h => by simp at h
  | .inl _ :: p, j + 1, d, h => permD_inl (p := p) (by simpa using h)
  | .inr _ :: p, j + 1, d, h => permD_inl (p := p) (by simpa using h)
theorem permS_inl {ρ : List S} {vs : List Av} {p : List (Nat ⊕ D)} {j i : Nat} {v : Av} (h : p[j]? = some (.inl i)) (hv : vs[i]? = some v) : (permS ρ vs p)[j]? = some (avS ρ v) := by
  unfold permS
  rw [permG_inl h (permD_inl h) (permD_length p), List.getD_eq_getElem?_getD, List.getElem?_map, hv] <;> rfl
theorem permS_inr {ρ : List S} {vs : List Av} {p : List (Nat ⊕ D)} {j : Nat} {d : D} (h : p[j]? = some (.inr d)) : (permS ρ vs p)[j]? = some (.val d) := by
  unfold permS
  exact permG_inr h (permD_inr h) (permD_length p)
theorem permS_length {ρ : List S} {vs : List Av} {p : List (Nat ⊕ D)} : (permS ρ vs p).length = p.length := permG_length (permD_length p)
theorem ppOf_other {k : Nat} {v : V} {s : S} {vs : List V} {ss : List S} (hn : ∀ a l, v = .ref a → s ≠ .own true l) : ppOf k (v :: vs) (s :: ss) = ppOf (k + 1) vs ss := by
  cases v <;> first | rfl | skip
  rename_i a
  cases s with
  | non => rfl
  | val d => rfl
  | own b l =>
    cases b with
    | true => exact absurd rfl (hn a l rfl)
    | false => rfl
theorem nodup_pp : ∀ {k : Nat} {vs : List V} {ss : List S}, (∀ p q, p ∈ ppOf k vs ss → q ∈ ppOf k vs ss → p.2 = q.2 → p.1 = q.1) → ((ppOf k vs ss).map (·.2)).Nodup
  | k, [], ss, _ => by simp [ppOf]
  | k, v :: vs, [], _ => by cases v <;> simp [ppOf]
  | k, v :: vs, s :: ss, h => by
    have go : (∀ p q, p ∈ ppOf (k + 1) vs ss → q ∈ ppOf (k + 1) vs ss → p.2 = q.2 → p.1 = q.1) → ((ppOf (k + 1) vs ss).map (·.2)).Nodup := nodup_pp
    by_cases hv : ∃ a l, v = .ref a ∧ s = .own true l
    · obtain ⟨a, l, rfl, rfl⟩ := hv
      have ee : ppOf k (.ref a :: vs) (.own true l :: ss) = (k, a) :: ppOf (k + 1) vs ss := rfl
      rw [ee] at h ⊢
      refine List.nodup_cons.mpr ⟨fun hm => ?_, go fun p q hp hq => h p q (List.mem_cons_of_mem _ hp) (List.mem_cons_of_mem _ hq)⟩
      obtain ⟨q, hq, e⟩ := List.mem_map.mp hm
      have e1 := h (k, a) q List.mem_cons_self (List.mem_cons_of_mem _ hq) e.symm
      have e2 := (ppOf_mem.mp hq).1
      simp only at e1
      omega
    · have ee : ppOf k (v :: vs) (s :: ss) = ppOf (k + 1) vs ss := ppOf_other fun a l e1 e2 => hv ⟨a, l, e1, e2⟩
      rw [ee] at h ⊢
      exact go h
section
variable {K : PySem.W.Frag} {ci : CI} {W : WX} {C : Rf.Cx} {He : Hp} {Pp : List (Nat × Addr)} {H0e h0 h1 H0' H' H'' : Hp} {σ : L2.St} {ρ ρ' : List S} {us : List V} {vs : List Av} {Pw : List Addr}
theorem AvsR.length (a : AvsR K ci h0 h1 σ H'' us vs) : us.length = vs.length := by
  induction a with
  | nil => rfl
  | val _ _ ih => exact congrArg Nat.succ ih
  | own _ _ ih => exact congrArg Nat.succ ih
  | tmp _ _ => rfl
theorem AvsR.same (a : AvsR K ci h0 h1 σ H'' us vs) : Same h1 H'' := by
  induction a with
  | nil => exact .refl _
  | val _ _ ih => exact ih
  | own _ _ ih => exact ih
  | tmp h _ => exact same_upd h
/-- what an argument's value is -/
def AvF (K : PySem.W.Frag) (ci : CI) (h0 h1 : Hp) (σ : L2.St) (H'' : Hp) (v : V) : Av → Prop
  | .val d => Rep K ci h0 v d
  | .own k => σ[k]? = some (some v)
  | .tmp l => ∃ p ws, v = .ref p ∧ h1 p = none ∧ H'' p = some (.lst ws) ∧ Reps K ci h0 ws l
theorem AvsR.get (a : AvsR K ci h0 h1 σ H'' us vs) : ∀ {i : Nat} {v : V} {x : Av}, us[i]? = some v → vs[i]? = some x → AvF K ci h0 h1 σ H'' v x := by
  induction a with
  | nil => intro i v x e1 e2; simp at e1
  | val h _ ih =>
    intro i v x e1 e2
    cases i with
    | zero => simp at e1 e2; subst e1; subst e2; exact h
    | succ i => exact ih (by simpa using e1) (by simpa using e2)
  | own h _ ih =>
    intro i v x e1 e2
    cases i with
    | zero => simp at e1 e2; subst e1; subst e2; exact h
    | succ i => exact ih (by simpa using e1) (by simpa using e2)
  | tmp h r =>
    intro i v x e1 e2
    cases i with
    | zero => simp at e1 e2; subst e1; subst e2; exact ⟨_, _, rfl, h, upd_same, r⟩
    | succ i => simp at e1
theorem AvsR.one (a : AvsR K ci h0 h1 σ H'' us vs) : ∀ {i j : Nat} {l l' : List D}, vs[i]? = some (.tmp l) → vs[j]? = some (.tmp l') → i = j := by
  induction a with
  | nil => intro i j l l' e1 e2; simp at e1
  | val h _ ih =>
    intro i j l l' e1 e2
    cases i with
    | zero => simp at e1
    | succ i =>
      cases j with
      | zero => simp at e2
      | succ j => exact congrArg Nat.succ (ih (by simpa using e1) (by simpa using e2))
  | own h _ ih =>
    intro i j l l' e1 e2
    cases i with
    | zero => simp at e1
    | succ i =>
      cases j with
      | zero => simp at e2
      | succ j => exact congrArg Nat.succ (ih (by simpa using e1) (by simpa using e2))
  | tmp h r =>
    intro i j l l' e1 e2
    cases i with
    | zero =>
      cases j with
      | zero => rfl
      | succ j => simp at e2
    | succ i => simp at e1
/-- the state behind a call -/
theorem Rl.back (r : Rl K ci He Pp H0e h0 h1 σ ρ) (sm : Same h1 H'') (g : GrowB Pw h0 H'' H0' H') (hl : ρ'.length = ρ.length)
    (hP : ∀ a ∈ Pw, h1 a = none ∨ ∃ (k : Nat) (b : Bool) (l : List D), ρ[k]? = some (.own b l) ∧ σ[k]? = some (some (.ref a)))
    (hB : ∀ (j : Nat) s', ρ'[j]? = some s' → ∃ s, ρ[j]? = some s ∧ ((s' = s ∧ ∀ b l a, s = .own b l → σ[j]? = some (some (.ref a)) → a ∉ Pw) ∨
      ∃ b l l' a ws, s = .own b l ∧ s' = .own b l' ∧ σ[j]? = some (some (.ref a)) ∧ H' a = some (.lst ws) ∧ H0' a = none ∧ Reps K ci H0' ws l')) :
    Rl K ci He Pp H0e H0' H' σ ρ' := by
  have own_of : ∀ {k : Nat} {b : Bool} {l : List D} {a : Addr}, ρ[k]? = some (.own b l) → σ[k]? = some (some (.ref a)) → (∃ ws, h1 a = some (.lst ws)) ∧ h0 a = none ∧ (b = true → a ∈ Pp.map (·.2)) ∧ (b = false → He a = none) := fun {k b l a} e1 e2 => by
    obtain ⟨o, q1, q2⟩ := r.at e1
    rw [e2] at q1; cases q1
    obtain ⟨c, ws, ev, m1, m2, m3, m4, m5⟩ := q2
    cases ev
    exact ⟨⟨ws, m1⟩, m2, m4, fun z => (m5 z).2⟩
  have notP : ∀ b o, He b = some o → b ∉ Pp.map (·.2) → b ∉ Pw := fun b o e n hm => by
    rcases hP b hm with z | ⟨k, b', l, e1, e2⟩
    · have q := r.ent b o e n
      rw [z] at q; cases q
    · obtain ⟨_, _, m4, m5⟩ := own_of e1 e2
      cases b' with
      | true => exact n (m4 rfl)
      | false => rw [m5 rfl] at e; cases e
  have back : ∀ {j : Nat} {b : Bool} {l' : List D}, ρ'[j]? = some (.own b l') → ∃ l, ρ[j]? = some (.own b l) := fun {j b l'} e => by
    obtain ⟨s, e1, h | ⟨b2, l, l2, a, ws, es, es', _⟩⟩ := hB j _ e
    · rw [← h.1] at e1; exact ⟨_, e1⟩
    · cases es'
      subst es
      exact ⟨_, e1⟩
  have par : ∀ p ∈ Pp, ∃ l, ρ'[p.1]? = some (.own true l) ∧ σ[p.1]? = some (some (.ref p.2)) := fun p hp => by
    obtain ⟨l, e1, e2⟩ := r.par p hp
    have hlt : p.1 < ρ'.length := by rw [hl]; exact (List.getElem?_eq_some_iff.mp e1).1
    obtain ⟨s, q1, h | ⟨b2, l1, l2, a, ws, es, es', _⟩⟩ := hB p.1 _ (List.getElem?_eq_getElem hlt)
    · rw [e1] at q1; cases q1
      exact ⟨l, by rw [List.getElem?_eq_getElem hlt, h.1], e2⟩
    · rw [e1] at q1; cases q1
      cases es
      exact ⟨l2, by rw [List.getElem?_eq_getElem hlt, es'], e2⟩
  refine ⟨r.len.trans hl.symm, g.c, r.ext.trans g.a, fun b o e n => g.b b o (sm _ _ (r.ent b o e n)) (notP b o e n), fun b hb => ?_, fun b o e => ?_, fun j s' o e1 e2 => ?_, fun i j a b l b' l' hij e1 e2 e3 e4 => ?_, par⟩
  · obtain ⟨p, hp, ep⟩ := List.mem_map.mp hb
    subst ep
    obtain ⟨l, e1, e2⟩ := par p hp
    obtain ⟨s, q1, h | ⟨b2, l1, l2, a, ws, es, es', m1, m2, _⟩⟩ := hB p.1 _ e1
    · rw [← h.1] at q1
      obtain ⟨⟨ws, m1⟩, _⟩ := own_of q1 e2
      exact ⟨ws, g.b _ _ (sm _ _ m1) (h.2 true l _ h.1.symm e2)⟩
    · rw [e2] at m1; cases m1
      exact ⟨ws, m2⟩
  · rcases g.d b o e with z | z
    · exact r.fresh b o z
    · right
      cases q : He b with
      | none => rfl
      | some u =>
        by_cases hb : b ∈ Pp.map (·.2)
        · obtain ⟨vs, e⟩ := r.pin b hb
          have e' := sm _ _ e
          rw [z] at e'; cases e'
        · have e := sm _ _ (r.ent b u q hb)
          rw [z] at e; cases e
  · obtain ⟨s, q1, h | ⟨b2, l1, l2, a, ws, es, es', m1, m2, m3, m4⟩⟩ := hB j _ e1
    · have q := r.slot j s o q1 e2
      rw [h.1]
      match o, s, q with
      | none, .non, _ => exact trivial
      | some _, .non, _ => exact trivial
      | some v, .val d, q => exact Rep.mono g.a d q
      | some v, .own b l, ⟨c, ws, ev, k1, k2, k3, k4, k5⟩ =>
        subst ev
        refine ⟨c, ws, rfl, g.b _ _ (sm _ _ k1) (h.2 b l c rfl e2), ?_, k3.mono g.a, k4, k5⟩
        cases z : H0' c with
        | none => rfl
        | some u =>
          rcases g.d c u z with y | y
          · rw [k2] at y; cases y
          · have y' := sm _ _ k1
            rw [y] at y'; cases y'
    · rw [e2] at m1; cases m1
      subst es
      obtain ⟨o', n1, n2⟩ := r.at q1
      rw [e2] at n1; cases n1
      obtain ⟨c, ws', ev, k1, k2, k3, k4, k5⟩ := n2
      cases ev
      rw [es']
      exact ⟨a, ws, rfl, m2, m3, m4, k4, k5⟩
  · obtain ⟨l1, q1⟩ := back e1
    obtain ⟨l2, q2⟩ := back e2
    exact r.sep i j a b l1 b' l2 hij q1 q2 e3 e4
theorem backS_get {outs : List S} {vs : List Av} {p : List (Nat ⊕ D)} : ∀ {j0 : Nat} {ρ : List S} {i : Nat} {s' : S}, (backS outs vs p j0 ρ)[i]? = some s' → ∃ s, ρ[i]? = some s ∧ s' = back1 outs (lentAt vs p 0 (j0 + i)) s
  | _, [], _, _, h => by simp [backS] at h
  | j0, s :: ρ, 0, s', h => by
    simp [backS] at h
    exact ⟨s, rfl, h.symm⟩
  | j0, s :: ρ, i + 1, s', h => by
    simp [backS] at h
    obtain ⟨s2, e1, e2⟩ := backS_get h
    refine ⟨s2, by simpa using e1, ?_⟩
    rw [e2, show j0 + 1 + i = j0 + (i + 1) by omega]
theorem backS_length {outs : List S} {vs : List Av} {p : List (Nat ⊕ D)} : ∀ {j0 : Nat} {ρ : List S}, (backS outs vs p j0 ρ).length = ρ.length
  | _, [] => rfl
  | j0, s :: ρ => congrArg Nat.succ backS_length
theorem isOwn_spec {j : Nat} {v : Option Av} (h : isOwn j v = true) : v = some (.own j) := by
  unfold isOwn at h
  split at h
  · rename_i i
    rw [beq_iff_eq.mp h]
  · cases h
theorem lentAt_spec {vs : List Av} {j : Nat} : ∀ {p : List (Nat ⊕ D)} {k0 : Nat},
    (∀ k, lentAt vs p k0 j = some k → k0 ≤ k ∧ ∃ i, p[k - k0]? = some (.inl i) ∧ vs[i]? = some (.own j)) ∧
    (lentAt vs p k0 j = none → ∀ (k : Nat) i, p[k]? = some (.inl i) → vs[i]? ≠ some (.own j))
  | [], k0 => ⟨fun k h => (by cases h), fun _ k i h => (by simp at h)⟩
  | .inl i0 :: p, k0 => by
    obtain ⟨h1, h2⟩ := lentAt_spec (vs := vs) (j := j) (p := p) (k0 := k0 + 1)
    by_cases hi : isOwn j vs[i0]? = true
    · have e : lentAt vs (.inl i0 :: p) k0 j = some k0 := if_pos hi
      refine ⟨fun k h => ?_, fun h => by rw [e] at h; cases h⟩
      rw [e] at h; cases h
      exact ⟨Nat.le_refl _, i0, by simp, isOwn_spec hi⟩
    · have e : lentAt vs (.inl i0 :: p) k0 j = lentAt vs p (k0 + 1) j := if_neg hi
      rw [e]
      refine ⟨fun k h => ?_, fun h k i hk => ?_⟩
      · obtain ⟨q1, i, q2, q3⟩ := h1 k h
        have e2 : k - k0 = (k - (k0 + 1)) + 1 := by omega
        exact ⟨by omega, i, by rw [e2]; simpa using q2, q3⟩
      · cases k with
        | zero =>
          simp at hk; subst hk
          intro z
          refine hi ?_
          rw [z]
          simp [isOwn]
        | succ k => exact h2 h k i (by simpa using hk)
  | .inr d :: p, k0 => by
    obtain ⟨h1, h2⟩ := lentAt_spec (vs := vs) (j := j) (p := p) (k0 := k0 + 1)
    have e : lentAt vs (.inr d :: p) k0 j = lentAt vs p (k0 + 1) j := rfl
    rw [e]
    refine ⟨fun k h => ?_, fun h k i hk => ?_⟩
    · obtain ⟨q1, i, q2, q3⟩ := h1 k h
      have e2 : k - k0 = (k - (k0 + 1)) + 1 := by omega
      exact ⟨by omega, i, by rw [e2]; simpa using q2, q3⟩
    · cases k with
      | zero => simp at hk
      | succ k => exact h2 h k i (by simpa using hk)
/-- how a call's arguments come to the parameters -/
structure PermOk (K : PySem.W.Frag) (ci : CI) (perm : List (Nat ⊕ D)) (m : Nat) (dv : List V) : Prop where
  len : dv.length = perm.length
  lt : ∀ (j i : Nat), perm[j]? = some (.inl i) → i < m
  inj : ∀ (j k i : Nat), perm[j]? = some (.inl i) → perm[k]? = some (.inl i) → j = k
  dv : ∀ (j : Nat) d, perm[j]? = some (.inr d) → ∃ v, dv[j]? = some v ∧ ∀ H, Rep K ci H v d
theorem call_core {perm : List (Nat ⊕ D)} {dv : List V} {f : Nat} {Q : VK} (r : Rl K ci He Pp H0e h0 h1 σ ρ) (av : AvsR K ci h0 h1 σ H'' us vs) (ow : OwnsOk ρ vs) (po : PermOk K ci perm vs.length dv)
    (out : Out K ci W σ He Pp H0e h0 (RE K ci Q) (match C.call f (permS ρ vs perm) with
      | .ok d outs => .ok d (backS outs vs perm 0 ρ)
      | .exc c l outs => .exc c l (backS outs vs perm 0 ρ)
      | .bot => .bot)) : spI K ci C perm.length f (permG perm dv us) H'' Q (fun cls d H' => W cls d σ H') := by
  have hul := av.length
  -- the values, one by one
  have vget : ∀ {j i : Nat}, perm[j]? = some (.inl i) → ∃ v x, us[i]? = some v ∧ vs[i]? = some x ∧ (permG perm dv us)[j]? = some v ∧ (permS ρ vs perm)[j]? = some (avS ρ x) ∧ AvF K ci h0 h1 σ H'' v x := fun {j i} hj => by
    have hi := po.lt j i hj
    have e1 : vs[i]? = some vs[i] := List.getElem?_eq_getElem hi
    have e2 : us[i]? = some (us[i]'(by rw [hul]; exact hi)) := List.getElem?_eq_getElem (by rw [hul]; exact hi)
    have hjl : j < dv.length := by rw [po.len]; exact (List.getElem?_eq_some_iff.mp hj).1
    refine ⟨_, _, e2, e1, ?_, permS_inl hj e1, av.get e2 e1⟩
    rw [permG_inl hj (List.getElem?_eq_getElem hjl) po.len, List.getD_eq_getElem?_getD, e2] <;> rfl
  have own_of : ∀ {k : Nat} {v : V}, .own k ∈ vs → σ[k]? = some (some v) → ∃ a ws b l, getS ρ k = .own b l ∧ v = .ref a ∧ h1 a = some (.lst ws) ∧ h0 a = none ∧ Reps K ci h0 ws l := fun {k v} hk e => by
    obtain ⟨b, l, q⟩ := ow.1 k hk
    obtain ⟨a, ws, m1, m2, m3, m4, _⟩ := r.own q
    rw [e] at m1; cases m1
    exact ⟨a, ws, b, l, q, rfl, m2, m3, m4⟩
  have argS : ArgsS K ci h0 H'' (permG perm dv us) (permS ρ vs perm) := by
    refine ArgsS.mk (by rw [permG_length po.len, permS_length]) fun j v s e1 e2 => ?_
    have hj : j < perm.length := by
      have := (List.getElem?_eq_some_iff.mp e2).1
      rw [permS_length] at this; exact this
    cases hp : perm[j] with
    | inl i =>
      have hj' : perm[j]? = some (.inl i) := by rw [List.getElem?_eq_getElem hj, hp]
      obtain ⟨v', x, q1, q2, q3, q4, q5⟩ := vget hj'
      rw [q3] at e1; cases e1
      rw [q4] at e2; cases e2
      cases x with
      | val d => exact q5
      | own k =>
        obtain ⟨a, ws, b, l, m1, m2, m3, m4, m5⟩ := own_of (List.mem_of_getElem? q2) q5
        have e3 : avS ρ (.own k) = .own true l := by simp only [avS, m1]
        rw [e3]
        exact ⟨rfl, a, ws, m2, av.same _ _ m3, m4, m5⟩
      | tmp l =>
        obtain ⟨p, ws, m1, m2, m3, m4⟩ := q5
        exact ⟨rfl, p, ws, m1, m3, same_none r.sub m2, m4⟩
    | inr d =>
      have hj' : perm[j]? = some (.inr d) := by rw [List.getElem?_eq_getElem hj, hp]
      obtain ⟨v', q1, q2⟩ := po.dv j d hj'
      rw [permG_inr hj' q1 po.len] at e1; cases e1
      rw [permS_inr hj'] at e2; cases e2
      exact q2 _
  -- what is lent
  have lentp : ∀ p ∈ ppOf 0 (permG perm dv us) (permS ρ vs perm), ∃ i x, perm[p.1]? = some (.inl i) ∧ vs[i]? = some x ∧ ((∃ k b l, x = .own k ∧ σ[k]? = some (some (.ref p.2)) ∧ ρ[k]? = some (.own b l)) ∨ (∃ l, x = .tmp l ∧ h1 p.2 = none)) := fun p hp => by
    obtain ⟨_, q1, l, q2⟩ := ppOf_mem.mp hp
    rw [Nat.sub_zero] at q1 q2
    have hj : p.1 < perm.length := by
      have := (List.getElem?_eq_some_iff.mp q2).1
      rw [permS_length] at this; exact this
    cases hpj : perm[p.1] with
    | inl i =>
      have hj' : perm[p.1]? = some (.inl i) := by rw [List.getElem?_eq_getElem hj, hpj]
      obtain ⟨v', x, e1, e2, e3, e4, e5⟩ := vget hj'
      rw [q1] at e3; cases e3
      rw [q2] at e4
      refine ⟨i, x, hj', e2, ?_⟩
      cases x with
      | val d => cases e4
      | own k =>
        obtain ⟨b, l0, q⟩ := ow.1 k (List.mem_of_getElem? e2)
        exact .inl ⟨k, b, l0, rfl, e5, getS_some q (by intro z; cases z)⟩
      | tmp l0 =>
        obtain ⟨p', ws, m1, m2, _⟩ := e5
        cases m1
        exact .inr ⟨l0, rfl, m2⟩
    | inr d =>
      have hj' : perm[p.1]? = some (.inr d) := by rw [List.getElem?_eq_getElem hj, hpj]
      rw [permS_inr hj'] at q2; cases q2
  refine ⟨permG_length po.len, h0, permS ρ vs perm, r.sub.trans av.same, argS, nodup_pp fun p q hp hq e => ?_, ?_⟩
  · obtain ⟨i, x, p1, p2, p3⟩ := lentp p hp
    obtain ⟨i', x', q1, q2, q3⟩ := lentp q hq
    have fin : i = i' → p.1 = q.1 := fun z => by subst z; exact po.inj _ _ _ p1 q1
    rcases p3 with ⟨k, b, l, rfl, s1, s2⟩ | ⟨l, rfl, s1⟩
    · rcases q3 with ⟨k', b', l', rfl, t1, t2⟩ | ⟨l', rfl, t1⟩
      · by_cases hk : k = k'
        · subst hk; exact fin (ow.2 _ _ _ p2 q2)
        · rw [← e] at t1
          exact (r.sep k k' _ b l b' l' hk s2 t2 s1 t1).elim
      · obtain ⟨o, n1, n2⟩ := r.at s2
        rw [s1] at n1; cases n1
        obtain ⟨c, ws, ev, m, _⟩ := n2
        cases ev
        rw [e, t1] at m; cases m
    · rcases q3 with ⟨k', b', l', rfl, t1, t2⟩ | ⟨l', rfl, t1⟩
      · obtain ⟨o, n1, n2⟩ := r.at t2
        rw [t1] at n1; cases n1
        obtain ⟨c, ws, ev, m, _⟩ := n2
        cases ev
        rw [← e, s1] at m; cases m
      · exact fin (av.one p2 q2)
  · have back : ∀ {outs : List S} {H0' H' : Hp}, GrowB ((ppOf 0 (permG perm dv us) (permS ρ vs perm)).map (·.2)) h0 H'' H0' H' → OutsR K ci H0' H' (ppOf 0 (permG perm dv us) (permS ρ vs perm)) outs → Rl K ci He Pp H0e H0' H' σ (backS outs vs perm 0 ρ) := fun {outs H0' H'} g o => by
      refine r.back av.same g backS_length (fun a ha => ?_) fun j s' e => ?_
      · obtain ⟨p, hp, ep⟩ := List.mem_map.mp ha
        subst ep
        obtain ⟨i, x, p1, p2, ⟨k, b, l, rfl, s1, s2⟩ | ⟨l, rfl, s1⟩⟩ := lentp p hp
        · exact .inr ⟨k, b, l, s2, s1⟩
        · exact .inl s1
      · obtain ⟨s, e1, e2⟩ := backS_get e
        rw [Nat.zero_add] at e2
        refine ⟨s, e1, ?_⟩
        cases s with
        | non => exact .inl ⟨by rw [e2]; cases lentAt vs perm 0 j <;> rfl, fun _ _ _ z => by cases z⟩
        | val d => exact .inl ⟨by rw [e2]; cases lentAt vs perm 0 j <;> rfl, fun _ _ _ z => by cases z⟩
        | own b l =>
          obtain ⟨l1, l2⟩ := lentAt_spec (vs := vs) (j := j) (p := perm) (k0 := 0)
          cases hla : lentAt vs perm 0 j with
          | none =>
            left
            rw [hla] at e2
            refine ⟨e2, fun b' l' a z1 z2 hm => ?_⟩
            obtain ⟨p, hp, ep⟩ := List.mem_map.mp hm
            subst ep
            obtain ⟨i, x, p1, p2, ⟨k, b2, l2', rfl, s1, s2⟩ | ⟨l3, rfl, s1⟩⟩ := lentp p hp
            · by_cases hk : k = j
              · subst hk; exact l2 hla _ _ p1 p2
              · exact r.sep k j _ _ _ _ _ hk s2 e1 s1 z2
            · obtain ⟨o', n1, n2⟩ := r.at e1
              rw [z2] at n1; cases n1
              obtain ⟨c, ws, ev, m, _⟩ := n2
              cases ev
              rw [s1] at m; cases m
          | some k =>
            right
            obtain ⟨_, i, q1, q2⟩ := l1 k hla
            rw [Nat.sub_zero] at q1
            obtain ⟨v', x, t1, t2, t3, t4, t5⟩ := vget q1
            rw [q2] at t2; cases t2
            obtain ⟨a, ws, b', l', m1, m2, m3, m4, m5⟩ := own_of (List.mem_of_getElem? q2) t5
            subst m2
            have e3 : avS ρ (.own j) = .own true l' := by simp only [avS, m1]
            rw [e3] at t4
            have hmem : (k, a) ∈ ppOf 0 (permG perm dv us) (permS ρ vs perm) := ppOf_mem.mpr ⟨Nat.zero_le _, by simpa using t3, l', by simpa using t4⟩
            obtain ⟨lo, wo, o1, o2, o3, o4⟩ := o (k, a) hmem
            have eo : getS outs k = .own true lo := by
              unfold getS
              rw [List.getD_eq_getElem?_getD, o1] <;> rfl
            have e5 : s' = .own b lo := by
              rw [e2, hla]
              simp only [back1, eo]
            exact ⟨b, l, lo, a, wo, rfl, e5, t5, o2, o3, o4⟩
    cases hc : C.call f (permS ρ vs perm) with
    | ok d outs =>
      rw [hc] at out
      exact fun v H0' H' g o rv => out H0' H' g.a (back g o) v rv
    | exc c l outs =>
      rw [hc] at out
      exact fun H0' H' cls dd g o e => out H0' H' cls dd g.a (back g o) e
    | bot =>
      rw [hc] at out
      exact out
end
end Rf

set_option Elab.async false
set_option linter.all false
set_option maxRecDepth 100000
set_option maxHeartbeats 2000000
/-! RfIt: what is walked; comprehensions. -/
namespace Rf
open PySem PySem.Spec PyProof.Rows L2

/-- J yields the items xs while h0 stands -/
def Walks (K : PySem.W.Frag) (ci : CI) (h0 : Hp) (J : L2.It) (xs : List D) : Prop := ∀ H', Same h0 H' →
  (∀ i, xs.length ≤ i → J.stop i H') ∧ ∀ (i : Nat) d, xs[i]? = some d → J.go i H' ∧ ∀ x H'', J.yld i H' x H'' → H'' = H' ∧ Rep K ci h0 x d
def tI (K : PySem.W.Frag) (ci : CI) (W : WX) (C : Rf.Cx) (c : It) : TI := fun σ H R => ∃ He Pp H0e H0 ρ, Rl K ci He Pp H0e H0 H σ ρ ∧
  Out K ci W σ He Pp H0e H0 (fun xs h0 h1 _ => ∀ J, Walks K ci h0 J xs → R J h1) (evI C c ρ)
theorem piImp {X : L2.Cx} {tg e : Expr} {t t' : TI} (h : PI X tg e t) (w : ∀ σ H Q, t' σ H Q → t σ H Q) : PI X tg e t' := ⟨fun pins s σ H R I q => h.run pins s σ H R I (w σ H R q)⟩
/-- a list or a tuple walked -/
def iSeq (K : PySem.W.Frag) (tl : TE) : TI := fun σ H R => tl σ H fun x H1 => ∃ a, x = .ref a ∧ (((∃ xs, SqL K H1 a xs) ∧ R (Itl K a) H1) ∨ ((∃ xs, SqT K H1 a xs) ∧ R (Itt K a) H1))
theorem pi_seq {X : L2.Cx} {tg l : Expr} {tl : TE} (hl : PE X l tl) : PI X tg l (iSeq X.K tl) := by
  refine ⟨fun pins s σ H R I h => ?_⟩
  refine thn (hl.run pins s σ H _ I h) fun v s1 ⟨x, H1, I1, r1, q1⟩ => ?_
  obtain ⟨a, e, ⟨⟨xs, hq⟩, q⟩ | ⟨⟨xs, hq⟩, q⟩⟩ := q1
  · subst e
    cases r1
    obtain ⟨its, rv, p, hz⟩ := I1.list hq
    refine wpAny_pyIter_list p.isList ?_
    refine ⟨s1.heap.objs.size, [s1.heap.objs.size], _, _, H1, rfl, I1.kept (t' := s1.toks) fun b o e => Heap.get?_push_of_some _ e, turn_list a _, ⟨_, Heap.get?_push_size _ rfl, rfl, rfl⟩, fun b hb => ?_, q⟩
    have e : b = s1.heap.objs.size := by simpa using hb
    subst e
    exact I1.fpOk (Nat.le_refl _) (I1.hok.fresh (Nat.le_refl _))
  · subst e
    cases r1
    obtain ⟨its, rv, p, hz⟩ := I1.tuple hq
    refine wpAny_pyIter_tuple (show s1.heap.IsTuple a its.toArray from p) ?_
    refine ⟨s1.heap.objs.size, [s1.heap.objs.size], _, _, H1, rfl, I1.kept (t' := s1.toks) fun b o e => Heap.get?_push_of_some _ e, turn_tuple a _, ⟨_, Heap.get?_push_size _ rfl, rfl, rfl⟩, fun b hb => ?_, q⟩
    have e : b = s1.heap.objs.size := by simpa using hb
    subst e
    exact I1.fpOk (Nat.le_refl _) (I1.hok.fresh (Nat.le_refl _))
section
variable {K : PySem.W.Frag} {ci : CI}
theorem walks_list' {h0 : Hp} {a : Addr} {vs : List V} {xs : List D} (h : SqL K h0 a vs) (r : Reps K ci h0 vs xs) : Walks K ci h0 (Itl K a) xs := fun H' sm => by
  refine ⟨fun i hi => ⟨vs, sm.seq h, by rw [r.length]; exact hi⟩, fun i d e => ?_⟩
  obtain ⟨v, e1, e2⟩ := r.get e
  refine ⟨⟨vs, v, sm.seq h, e1⟩, fun x H'' ⟨y1, y2⟩ => ⟨y1, ?_⟩⟩
  have z := y2 vs (sm.seq h)
  rw [e1] at z; cases z
  exact e2
theorem walks_tup {h0 : Hp} {a : Addr} {vs : List V} {xs : List D} (h : SqT K h0 a vs) (r : Reps K ci h0 vs xs) : Walks K ci h0 (Itt K a) xs := fun H' sm => by
  refine ⟨fun i hi => ⟨vs, sqt_mono sm h, by rw [r.length]; exact hi⟩, fun i d e => ?_⟩
  obtain ⟨v, e1, e2⟩ := r.get e
  refine ⟨⟨vs, v, sqt_mono sm h, e1⟩, fun x H'' ⟨y1, y2⟩ => ⟨y1, ?_⟩⟩
  have z := y2 vs (sqt_mono sm h)
  rw [e1] at z; cases z
  exact e2
theorem rng_get : ∀ {n : Nat} {lo : Int} {i : Nat} {d : D}, (rng lo n)[i]? = some d → d = .int (lo + i) ∧ i < n
  | 0, _, _, _, h => by simp [rng] at h
  | n + 1, lo, 0, d, h => by
    simp [rng] at h; subst h
    exact ⟨by simp, Nat.succ_pos _⟩
  | n + 1, lo, i + 1, d, h => by
    simp [rng] at h
    obtain ⟨h1, h2⟩ := rng_get h
    refine ⟨?_, Nat.succ_lt_succ h2⟩
    rw [h1]
    congr 1
    omega
theorem rng_length : ∀ {n : Nat} {lo : Int}, (rng lo n).length = n
  | 0, _ => rfl
  | n + 1, lo => congrArg Nat.succ rng_length
theorem walks_rng {h0 : Hp} {lo : Int} {n : Nat} : Walks K ci h0 (Itr lo n) (rng lo n) := fun H' sm => by
  refine ⟨fun i hi => by rw [rng_length] at hi; exact hi, fun i d e => ?_⟩
  obtain ⟨h1, h2⟩ := rng_get e
  refine ⟨h2, fun x H'' ⟨y1, y2⟩ => ⟨y1, ?_⟩⟩
  rw [y2, h1]
  exact .int _
end
section
variable {X : L2.Cx} {ci : CI} {W : WX} {C : Rf.Cx} {a b tg : Expr} {ca cb : E} {p pos : Pos}
theorem ri_val (ha : PE X a (tE X.K ci W C ca)) : PI X tg a (tI X.K ci W C (.val ca)) := piImp (pi_seq ha) fun σ H Q ⟨He, Pp, H0e, H0, ρ, r, out⟩ => by
  refine ⟨He, Pp, H0e, H0, ρ, r, Out.imp (fun x h0 h1 ρ1 _ _ ⟨r1, o1⟩ v hv => ?_) (Out.bind out)⟩
  obtain ⟨z, e, o3⟩ := Out.of o1
  unfold seqOf at e
  split at e
  · cases e
    cases hv with
    | lst s r0 => exact ⟨_, rfl, .inl ⟨⟨_, .of (r1.sub _ _ s)⟩, o3 h0 h1 (.refl _) r1 _ (walks_list' (.of s) r0)⟩⟩
  · cases e
    cases hv with
    | tup s r0 => exact ⟨_, rfl, .inr ⟨⟨_, sqt_mono r1.sub s⟩, o3 h0 h1 (.refl _) r1 _ (walks_tup s r0)⟩⟩
  · cases e
theorem rngOk_ok {i : Int} (h : rngOk i = true) : -(2 ^ 62) ≤ i ∧ i < 2 ^ 62 := by
  unfold rngOk at h
  rw [Bool.and_eq_true] at h
  exact ⟨of_decide_eq_true h.1, of_decide_eq_true h.2⟩
theorem ri_rng1 (hg : Gl X "range") (hm : X.mg "range" = none) (hs : starEach [a] X.env = [(false, eval a X.env)]) (ha : PE X a (tE X.K ci W C ca)) : PI X tg (.Call (.Name "range" p) [a] [] pos) (tI X.K ci W C (.rng1 ca)) :=
  piImp (pi_range1 hg hm (pa_cons ha pa_nil hs) hs) fun σ H Q ⟨He, Pp, H0e, H0, ρ, r, out⟩ => by
    refine ⟨He, Pp, H0e, H0, ρ, r, Out.imp (fun x h0 h1 ρ1 _ _ ⟨r1, o1⟩ v hv => ?_) (Out.bind out)⟩
    split at o1
    · split at o1
      · rename_i hz
        cases hv
        obtain ⟨z1, z2⟩ := rngOk_ok hz
        exact ⟨_, rfl, z1, z2, o1 h0 h1 (.refl _) r1 _ walks_rng⟩
      · exact o1.elim
    · exact o1.elim
theorem ri_rng2 (hg : Gl X "range") (hm : X.mg "range" = none) (hs : starEach [a, b] X.env = [(false, eval a X.env), (false, eval b X.env)]) (hs2 : starEach [b] X.env = [(false, eval b X.env)]) (ha : PE X a (tE X.K ci W C ca)) (hb : PE X b (tE X.K ci W C cb)) :
    PI X tg (.Call (.Name "range" p) [a, b] [] pos) (tI X.K ci W C (.rng2 ca cb)) :=
  piImp (pi_range2 hg hm (pa_cons ha (pa_cons hb pa_nil hs2) (by rw [hs, hs2])) hs hs2) fun σ H Q ⟨He, Pp, H0e, H0, ρ, r, out⟩ => by
    refine ⟨He, Pp, H0e, H0, ρ, r, Out.imp (fun x h0 h1 ρ1 _ _ ⟨r1, o1⟩ v hv => ?_) (Out.bind out)⟩
    refine ⟨He, Pp, H0e, h0, ρ1, r1, Out.imp (fun y k0 k1 ρ2 s2 _ ⟨r2, o2⟩ u hu => ?_) (Out.bind o1)⟩
    split at o2
    · split at o2
      · rename_i hz
        cases hv; cases hu
        rw [Bool.and_eq_true] at hz
        obtain ⟨z1, z2⟩ := rngOk_ok hz.1
        obtain ⟨z3, z4⟩ := rngOk_ok hz.2
        exact ⟨_, _, rfl, ⟨z1, z2, z3, z4⟩, o2 k0 k1 (.refl _) r2 _ walks_rng⟩
      · exact o2.elim
    · exact o2.elim
theorem rngD_get : ∀ {n : Nat} {lo : Int} {i : Nat} {d : D}, (rngD lo n)[i]? = some d → d = .int (lo + (i : Nat) * (-1)) ∧ i < n
  | 0, _, _, _, h => by simp [rngD] at h
  | n + 1, lo, 0, d, h => by
    simp [rngD] at h
    subst h
    exact ⟨by simp, by omega⟩
  | n + 1, lo, i + 1, d, h => by
    have h2 : (rngD (lo - 1) n)[i]? = some d := by simpa [rngD] using h
    obtain ⟨e, hl⟩ := rngD_get h2
    refine ⟨?_, by omega⟩
    rw [e]
    congr 1
    have : ((i + 1 : Nat) : Int) = (i : Int) + 1 := by simp
    rw [this]
    omega
theorem rngD_length : ∀ {n : Nat} {lo : Int}, (rngD lo n).length = n
  | 0, _ => rfl
  | n + 1, lo => congrArg Nat.succ rngD_length
theorem walks_rngD {K : PySem.W.Frag} {ci : CI} {h0 : Hp} {lo : Int} {n : Nat} : Walks K ci h0 (L2.Itc lo (-1) n) (rngD lo n) := fun H' sm => by
  refine ⟨fun i hi => by rw [rngD_length] at hi; exact hi, fun i d e => ?_⟩
  obtain ⟨h1, h2⟩ := rngD_get e
  refine ⟨h2, fun x H'' ⟨y1, y2⟩ => ⟨y1, ?_⟩⟩
  rw [y2, h1]
  exact .int _
theorem ri_rng3 {c : Expr} {cc : E} (hg : Gl X "range") (hm : X.mg "range" = none) (hs : starEach [a, b, c] X.env = (false, eval a X.env) :: starEach [b, c] X.env) (hs2 : starEach [b, c] X.env = (false, eval b X.env) :: starEach [c] X.env) (hs3 : starEach [c] X.env = (false, eval c X.env) :: starEach [] X.env)
    (hpl : (backTo pos (starEach [b, c] X.env)).any (·.1) = false) (ha : PE X a (tE X.K ci W C ca)) (hb : PE X b (tE X.K ci W C cb)) (hc : PE X c (tE X.K ci W C cc)) :
    PI X tg (.Call (.Name "range" p) [a, b, c] [] pos) (tI X.K ci W C (.rng3 ca cb cc)) :=
  piImp (pi_range3 hg hm (pa_cons ha (pa_cons hb (pa_cons hc pa_nil hs3) hs2) hs) hs hpl) fun σ H Q ⟨He, Pp, H0e, H0, ρ, r, out⟩ => by
    refine ⟨He, Pp, H0e, H0, ρ, r, Out.imp (fun x h0 h1 ρ1 _ _ ⟨r1, o1⟩ v hv => ?_) (Out.bind out)⟩
    refine ⟨He, Pp, H0e, h0, ρ1, r1, Out.imp (fun y k0 k1 ρ2 s2 _ ⟨r2, o2⟩ u hu => ?_) (Out.bind o1)⟩
    refine ⟨He, Pp, H0e, k0, ρ2, r2, Out.imp (fun z l0 l1 ρ3 s3 _ ⟨r3, o3⟩ w hw => ?_) (Out.bind o2)⟩
    split at o3
    · split at o3
      · rename_i hq
        split at o3
        · rename_i hz
          subst hq
          cases hv; cases hu; cases hw
          rw [Bool.and_eq_true] at hz
          obtain ⟨z1, z2⟩ := rngOk_ok hz.1
          obtain ⟨z3, z4⟩ := rngOk_ok hz.2
          exact ⟨_, _, _, _, rfl, RgC.neg z1 z2 z3 z4, o3 l0 l1 (.refl _) r3 _ walks_rngD⟩
        · exact o3.elim
      · exact o3.elim
    · exact o3.elim
/-! ### comprehensions -/
abbrev WF : WX := fun _ _ _ _ => False
theorem out_wf {K : PySem.W.Frag} {σ : L2.St} {He : Hp} {Pp : List (Nat × Addr)} {H0e H0 : Hp} {α : Type} {R : α → Hp → Hp → List S → Prop} {a : α} {ρ' : List S} (h : ∀ h0 h1, Same H0 h0 → Rl K ci He Pp H0e h0 h1 σ ρ' → R a h0 h1 ρ') : Out K ci WF σ He Pp H0e H0 R (.ok a ρ') := h
/-- the block's state -/
theorem Rl.blk {K : PySem.W.Frag} {σ : L2.St} {He : Hp} {Pp : List (Nat × Addr)} {H0e H0 H : Hp} {ρ : List S} {i : Nat} (r : Rl K ci He Pp H0e H0 H σ ρ) (hn : ∀ b l, getS ρ i ≠ .own b l) {o : Option V} : Rl K ci He Pp H0e H0 H (σ.set i o) (ρ.set i .non) :=
  r.set (by cases o <;> exact trivial) (fun l => hn true l) fun _ _ _ _ _ _ _ z => by cases z
theorem getS_set {ρ : List S} {i : Nat} {s : S} (hs : ∀ b l, s ≠ .own b l) : ∀ b l, getS (ρ.set i s) i ≠ .own b l := fun b l z => by
  have q := getS_some z (by intro z; cases z)
  rcases set_get q with ⟨_, h, _⟩ | ⟨h, _⟩
  · exact hs b l h.symm
  · exact h rfl
theorem clr_eq {ρ ρ' : List S} {i : Nat} (h : clr i ρ = some ρ') : ρ' = ρ.set i .non ∧ ∀ b l, getS ρ i ≠ .own b l := by
  unfold clr at h
  split at h
  · cases h
  · rename_i hn
    cases h
    exact ⟨rfl, fun b l z => hn b l z⟩
theorem set_back {α : Type} {l : List α} {i : Nat} {x y : α} (h : l[i]? = some y) : (l.set i x).set i y = l := by
  rw [List.set_set]
  exact List.ext_getElem? fun j => by
    by_cases e : i = j
    · subst e
      rw [List.getElem?_set_self (List.getElem?_eq_some_iff.mp h).1, h]
    · rw [List.getElem?_set_ne e]
theorem set_out {α : Type} {l : List α} {i : Nat} {x : α} (h : l.length ≤ i) : l.set i x = l := List.set_eq_of_length_le h
/-- a new list in the making, at Dl, beside the slots -/
theorem Rl.flyN {K : PySem.W.Frag} {σ : L2.St} {He : Hp} {Pp : List (Nat × Addr)} {H0e H0 H : Hp} {ρ : List S} {Dl : Addr} {o : HO} (r : Rl K ci He Pp H0e H0 H σ ρ) (hD : H Dl = none) : Rl K ci (upd He Dl o) Pp H0e H0 (upd H Dl o) σ ρ := by
  have hPw : Dl ∉ Pp.map (·.2) := fun hb => by
    obtain ⟨vs, e⟩ := r.pin Dl hb
    rw [hD] at e; cases e
  have h0D : H0 Dl = none := same_none r.sub hD
  refine ⟨r.len, r.sub.trans (same_upd hD), r.ext, fun b u e n => ?_, fun b hb => ?_, fun b u e => ?_, fun j s u e1 e2 => ?_, r.sep, r.par⟩
  · by_cases hb : b = Dl
    · subst hb; rw [upd_same] at e ⊢; exact e
    · rw [upd_ne hb] at e ⊢; exact r.ent b u e n
  · obtain ⟨vs, e⟩ := r.pin b hb
    have hne : b ≠ Dl := fun z => hPw (z ▸ hb)
    exact ⟨vs, by rw [upd_ne hne]; exact e⟩
  · have hne : b ≠ Dl := fun z => by subst z; rw [h0D] at e; cases e
    rcases r.fresh b u e with z | z
    · exact .inl z
    · right; rw [upd_ne hne]; exact z
  · have q := r.slot j s u e1 e2
    match u, s, q with
    | none, .non, _ => exact trivial
    | some _, .non, _ => exact trivial
    | some v, .val d, q => exact q
    | some v, .own b l, ⟨c, ws, ev, k1, k2, k3, k4, k5⟩ =>
      have hne : c ≠ Dl := fun z => by subst z; rw [hD] at k1; cases k1
      exact ⟨c, ws, ev, by rw [upd_ne hne]; exact k1, k2, k3, k4, fun z => ⟨(k5 z).1, by rw [upd_ne hne]; exact (k5 z).2⟩⟩
theorem Rl.flyU {K : PySem.W.Frag} {σ : L2.St} {He : Hp} {Pp : List (Nat × Addr)} {H0e H0 H : Hp} {ρ : List S} {Dl : Addr} {o o2 : HO} (r : Rl K ci (upd He Dl o) Pp H0e H0 H σ ρ) (hPw : Dl ∉ Pp.map (·.2)) (h0D : H0 Dl = none) : Rl K ci (upd He Dl o2) Pp H0e H0 (upd H Dl o2) σ ρ := by
  refine ⟨r.len, fun b u e => ?_, r.ext, fun b u e n => ?_, fun b hb => ?_, fun b u e => ?_, fun j s u e1 e2 => ?_, r.sep, r.par⟩
  · have hne : b ≠ Dl := fun z => by subst z; rw [h0D] at e; cases e
    rw [upd_ne hne]; exact r.sub b u e
  · by_cases hb : b = Dl
    · subst hb; rw [upd_same] at e ⊢; exact e
    · rw [upd_ne hb] at e ⊢; exact r.ent b u (by rw [upd_ne hb]; exact e) n
  · obtain ⟨vs, e⟩ := r.pin b hb
    have hne : b ≠ Dl := fun z => hPw (z ▸ hb)
    exact ⟨vs, by rw [upd_ne hne]; exact e⟩
  · have hne : b ≠ Dl := fun z => by subst z; rw [h0D] at e; cases e
    rcases r.fresh b u e with z | z
    · exact .inl z
    · right; rw [upd_ne hne] at z ⊢; exact z
  · have q := r.slot j s u e1 e2
    match u, s, q with
    | none, .non, _ => exact trivial
    | some _, .non, _ => exact trivial
    | some v, .val d, q => exact q
    | some v, .own b l, ⟨c, ws, ev, k1, k2, k3, k4, k5⟩ =>
      have hne : c ≠ Dl := fun z => by
        subst z
        cases b with
        | true => exact hPw (k4 rfl)
        | false => have y := (k5 rfl).2; rw [upd_same] at y; cases y
      exact ⟨c, ws, ev, by rw [upd_ne hne]; exact k1, k2, k3, k4, fun z => ⟨(k5 z).1, by have y := (k5 z).2; rw [upd_ne hne] at y ⊢; exact y⟩⟩
theorem Rl.land {K : PySem.W.Frag} {σ : L2.St} {He : Hp} {Pp : List (Nat × Addr)} {H0e H0 H : Hp} {ρ : List S} {Dl : Addr} {o : HO} (r : Rl K ci (upd He Dl o) Pp H0e H0 H σ ρ) (hPw : Dl ∉ Pp.map (·.2)) (h0D : H0 Dl = none) (hHe : He Dl = none) : Rl K ci He Pp H0e (upd H0 Dl o) H σ ρ ∧ Same H0 (upd H0 Dl o) := by
  have hD : H Dl = some o := r.ent Dl o upd_same hPw
  have g : Same H0 (upd H0 Dl o) := same_upd h0D
  refine ⟨⟨r.len, fun b u e => ?_, r.ext.trans g, fun b u e n => ?_, r.pin, fun b u e => ?_, fun j s u e1 e2 => ?_, r.sep, r.par⟩, g⟩
  · by_cases hb : b = Dl
    · subst hb; rw [upd_same] at e; rw [← e]; exact hD
    · rw [upd_ne hb] at e; exact r.sub b u e
  · have hne : b ≠ Dl := fun z => by subst z; rw [hHe] at e; cases e
    exact r.ent b u (by rw [upd_ne hne]; exact e) n
  · by_cases hb : b = Dl
    · subst hb; exact .inr hHe
    · rw [upd_ne hb] at e
      rcases r.fresh b u e with z | z
      · exact .inl z
      · right; rw [upd_ne hb] at z; exact z
  · have q := r.slot j s u e1 e2
    match u, s, q with
    | none, .non, _ => exact trivial
    | some _, .non, _ => exact trivial
    | some v, .val d, q => exact Rep.mono g d q
    | some v, .own b l, ⟨c, ws, ev, k1, k2, k3, k4, k5⟩ =>
      have hne : c ≠ Dl := fun z => by
        subst z
        cases b with
        | true => exact hPw (k4 rfl)
        | false => have y := (k5 rfl).2; rw [upd_same] at y; cases y
      exact ⟨c, ws, ev, k1, by rw [upd_ne hne]; exact k2, k3.mono g, k4, fun z => ⟨(k5 z).1, by have y := (k5 z).2; rw [upd_ne hne] at y; exact y⟩⟩
theorem comp_rd {i : Nat} {it : It} {cc ce : E} {σ : L2.St} {H : Hp} {Q : VK} (hh : tE X.K ci W C (.comp i it cc ce) σ H Q) :
    tLc (tI X.K ci W C it) (gName i) (tT X.K ci WF C cc) (tE X.K ci WF C ce) [i] σ H Q := by
  obtain ⟨He, Pp, H0e, H0, ρ, r, out⟩ := hh
  refine ⟨He, Pp, H0e, H0, ρ, r, Out.imp (fun xs h0 h1 ρ1 _ _ ⟨r1, o1⟩ J wk Dl hD => ?_) (Out.bind out)⟩
  have hno : ∀ b l, getS ρ1 i ≠ .own b l := fun b l e => by
    rw [e] at o1
    exact o1
  have o2 : Out X.K ci W σ He Pp H0e h0 (RE X.K ci Q) (match compL i (evE C cc) (evE C ce) xs [] (ρ1.set i .non) with
      | .ok ys r2 => .ok (.lst ys) (r2.set i (getS ρ1 i))
      | _ => .bot) := by
    split at o1
    · exact o1.elim
    · exact o1
  clear o1
  have hl0 : h0 Dl = none := same_none r1.sub hD
  have hH0e : H0e Dl = none := same_none r1.ext hl0
  have hPw : Dl ∉ Pp.map (·.2) := fun hb => by
    obtain ⟨vs, e⟩ := r1.pin Dl hb
    rw [hD] at e; cases e
  have hHe : He Dl = none := by
    cases q : He Dl with
    | none => rfl
    | some u => have e := r1.ent Dl u q hPw; rw [hD] at e; cases e
  let Iv : Nat → Hp → Prop := fun j H2 => ∃ ys vs k0 ρ2, j ≤ xs.length ∧ Same h0 k0 ∧ Rl X.K ci (upd He Dl (.lst vs)) Pp H0e k0 H2 (σ.set i none) ρ2 ∧ (∀ b l, getS ρ2 i ≠ .own b l) ∧ Reps X.K ci k0 vs ys ∧
    Out X.K ci W σ He Pp H0e h0 (RE X.K ci Q) (match compL i (evE C cc) (evE C ce) (xs.drop j) ys ρ2 with
      | .ok ys r2 => .ok (.lst ys) (r2.set i (getS ρ1 i))
      | _ => .bot)
  have gone : ∀ {k0 H2 : Hp} {vs : List V} {σ2 : L2.St} {ρ2 : List S}, Rl X.K ci (upd He Dl (.lst vs)) Pp H0e k0 H2 σ2 ρ2 → k0 Dl = none := fun {k0 H2 vs σ2 ρ2} rr => by
    cases q : k0 Dl with
    | none => rfl
    | some u =>
      rcases rr.fresh Dl u q with z | z
      · rw [hH0e] at z; cases z
      · rw [upd_same] at z; cases z
  refine ⟨fun j m H2 => m = xs.length - j ∧ Iv j H2, ⟨xs.length, by simp, [], [], h0, ρ1.set i .non, Nat.zero_le _, .refl _, (r1.flyN hD).blk hno, getS_set (fun b l z => by cases z), .nil, o2⟩, ?_⟩
  rintro j m H2 ⟨rfl, ys, vs, k0, ρ2, hj, sk, r2, hn2, rv, o3⟩
  have hk0 := gone r2
  have hH2 : H2 Dl = some (.lst vs) := r2.ent Dl _ upd_same hPw
  have swalk : Same h0 H2 := sk.trans r2.sub
  by_cases hlt : j < xs.length
  · have ed : xs.drop j = xs[j] :: xs.drop (j + 1) := (List.drop_eq_getElem_cons hlt)
    obtain ⟨go, yl⟩ := (wk H2 swalk).2 j xs[j] (List.getElem?_eq_getElem hlt)
    refine .inr ⟨go, Iv (j + 1), fun H' q => ⟨xs.length - (j + 1), by omega, rfl, q⟩, fun v H' y => ?_⟩
    obtain ⟨eH, rep⟩ := yl v H' y
    subst eH
    rw [ed] at o3
    simp only [compL] at o3
    show wipe ((σ.set i none).set i (some v)) [i] = σ.set i none ∧ _
    refine ⟨by show ((σ.set i none).set i (some v)).set i none = σ.set i none; rw [List.set_set, List.set_set], ?_⟩
    have rs : Rl X.K ci (upd He Dl (.lst vs)) Pp H0e k0 H' ((σ.set i none).set i (some v)) (ρ2.set i (.val xs[j])) :=
      r2.set (o := some v) (s := .val xs[j]) (rep.mono sk) (fun l => hn2 true l) fun _ _ _ _ _ _ _ z => by cases z
    refine ⟨_, Pp, H0e, k0, _, rs, ?_⟩
    cases q1 : evE C cc (ρ2.set i (.val xs[j])) with
    | exc c l ρ' => rw [q1] at o3; exact o3.elim
    | bot => rw [q1] at o3; exact o3.elim
    | ok d1 ρ3 =>
      rw [q1] at o3
      simp only [Res.bind] at o3
      refine fun k1 H3 s1 r3 => ?_
      have back : ∀ {k2 H4 : Hp} {ρ4 : List S} {vs2 : List V}, Rl X.K ci (upd He Dl (.lst vs2)) Pp H0e k2 H4 ((σ.set i none).set i (some v)) ρ4 → (∀ b l, getS ρ4 i ≠ .own b l) → Rl X.K ci (upd He Dl (.lst vs2)) Pp H0e k2 H4 (σ.set i none) (ρ4.set i .non) := fun {k2 H4 ρ4 vs2} rr hh => by
        have z := rr.blk hh (o := none)
        rw [List.set_set, List.set_set] at z
        exact z
      cases d1 with
      | bl bb =>
        cases bb with
        | true =>
          refine ⟨true, rfl, ?_⟩
          refine iteT ?_
          refine ⟨_, Pp, H0e, k1, ρ3, r3, ?_⟩
          cases q2 : evE C ce ρ3 with
          | exc c l ρ' => rw [q2] at o3; exact o3.elim
          | bot => rw [q2] at o3; exact o3.elim
          | ok d2 ρ4 =>
            rw [q2] at o3
            simp only [Res.bind] at o3
            refine fun k2 H4 s2 r4 u hu => ?_
            by_cases hz : ys.length < lineN
            · rw [if_pos hz] at o3
              cases hcl : clr i ρ4 with
              | none => rw [hcl] at o3; exact o3.elim
              | some ρ5 =>
                rw [hcl] at o3
                obtain ⟨ec, hn4⟩ := clr_eq hcl
                subst ec
                have hk2 := gone r4
                refine ⟨vs, r4.ent Dl _ upd_same hPw, by rw [rv.length, ← lineN_eq]; exact hz, ?_⟩
                exact ⟨ys ++ [d2], vs ++ [u], k2, ρ4.set i .non, hlt, (sk.trans s1).trans s2, back (r4.flyU hPw hk2) hn4, getS_set (fun b l z => by cases z), ((rv.mono s1).mono s2).append (.cons hu .nil), o3⟩
            · rw [if_neg hz] at o3; exact o3.elim
        | false =>
          refine ⟨false, rfl, ?_⟩
          refine iteF ?_
          cases hcl : clr i ρ3 with
          | none => simp only [hcl] at o3; exact o3.elim
          | some ρ5 =>
            simp only [hcl] at o3
            obtain ⟨ec, hn3⟩ := clr_eq hcl
            subst ec
            exact ⟨ys, vs, k1, ρ3.set i .non, hlt, sk.trans s1, back r3 hn3, getS_set (fun b l z => by cases z), rv.mono s1, o3⟩
      | _ => exact o3.elim
  · have ej : j = xs.length := by omega
    subst ej
    left
    refine ⟨(wk H2 swalk).1 _ (Nat.le_refl _), ?_⟩
    rw [List.drop_length] at o3
    simp only [compL] at o3
    obtain ⟨r5, s5⟩ := r2.land hPw hk0 hHe
    have rf : Rl X.K ci He Pp H0e (upd k0 Dl (.lst vs)) H2 σ (ρ2.set i (getS ρ1 i)) := by
      by_cases hil : i < σ.length
      · have es : (σ.set i none).set i σ[i] = σ := set_back (List.getElem?_eq_getElem hil)
        have z := r5.set (i := i) (o := σ[i]) (s := getS ρ1 i) ?_ (fun l => hn2 true l) (fun jj a b l b' l' _ z => absurd z (hno b l))
        · rw [es] at z; exact z
        · have hil2 : i < ρ1.length := by rw [← r1.len]; exact hil
          have z := r1.slot i ρ1[i] σ[i] (List.getElem?_eq_getElem hil2) (List.getElem?_eq_getElem hil)
          have eg : getS ρ1 i = ρ1[i] := by
            unfold getS
            rw [List.getD_eq_getElem?_getD, List.getElem?_eq_getElem hil2] <;> rfl
          rw [eg]
          rw [eg] at hno
          generalize ρ1[i] = s1 at z hno ⊢
          generalize σ[i] = s2 at z ⊢
          match s2, s1, z with
          | none, .non, _ => exact trivial
          | some _, .non, _ => exact trivial
          | some v, .val d, z => exact Rep.mono (sk.trans s5) d z
          | some v, .own b l, z => exact absurd rfl (hno b l)
      · have h1 : σ.set i none = σ := set_out (Nat.le_of_not_lt hil)
        have h2 : ρ2.set i (getS ρ1 i) = ρ2 := set_out (by rw [← r2.len, h1]; exact Nat.le_of_not_lt hil)
        rw [h2]; rw [h1] at r5; exact r5
    exact o3 _ _ (sk.trans s5) rf _ (.lst upd_same (rv.mono s5))
theorem comp_pg {scope : Scope} {i : Nat} {x : Str} {px : Pos} (hN : X.N.Nodup) (hi : X.N[i]? = some x) (hx : scope.names.lookup x = some .local ∨ scope.names.lookup x = some .cell) :
    ∀ (s : Shared) (H : Hp) (D : Addr) (cl : List (Str × Addr)) (fp : List Addr), PG (X.blk s H scope (compEnvC scope cl D X.env) fp) (.Name x px) (gName i) := fun s H D cl fp => by
  have keep : ∀ k, k ≠ .free → scope.names.lookup x = some k → (relS scope X.env.scope).names.lookup x = some k := fun k hk e => lookup_relS_keep hk e
  rcases hx with h | h
  · exact pg_name (X := X.blk s H scope (compEnvC scope cl D X.env) fp) hN hi (.inl (keep _ (by decide) h)) (.inr (keep _ (by decide) h))
  · exact pg_name (X := X.blk s H scope (compEnvC scope cl D X.env) fp) hN hi (.inr (keep _ (by decide) h)) (.inl (by show (scope.names.lookup x == some .cell) = true; rw [h]; rfl))
theorem r_comp {elt iter : Expr} {ifs : List Expr} {scope : Scope} {i : Nat} {x : Str} {px : Pos} {it : It} {cc ce : E} (hc : X.calm = true) (hN : X.N.Nodup) (hi : X.N[i]? = some x) (ok : BlkOk X.N X.env.scope scope [(x, i)])
    (hx : scope.names.lookup x = some .local ∨ scope.names.lookup x = some .cell)
    (hit : PI X (.Name x px) iter (tI X.K ci W C it)) (hs : ∀ z, foldedSetIterable iter X.env z = pure z)
    (ht : ∀ (s : Shared) (H : Hp) (D : Addr) (cl : List (Str × Addr)) (fp : List Addr), PTs (X.blk s H scope (compEnvC scope cl D X.env) fp) ifs (tT X.K ci WF C cc))
    (he : ∀ (s : Shared) (H : Hp) (D : Addr) (cl : List (Str × Addr)) (fp : List Addr), PE (X.blk s H scope (compEnvC scope cl D X.env) fp) elt (tE X.K ci WF C ce)) :
    PE X (.ListComp elt [⟨.Name x px, iter, ifs, 0⟩] scope pos) (tE X.K ci W C (.comp i it cc ce)) :=
  peImp (pe_lc (own := [(x, i)]) hc hN hit ok (comp_pg hN hi hx) ht he hs) fun σ H Q hh => comp_rd hh
end
end Rf

set_option Elab.async false
set_option linter.all false
set_option maxRecDepth 100000
set_option maxHeartbeats 2000000
/-! RfSt: statements. -/
namespace Rf
open PySem PySem.Spec PyProof.Rows L2

def OutS (K : PySem.W.Frag) (ci : CI) (W : WX) (He : Hp) (Pp : List (Nat × Addr)) (H0e : Hp) (D : Ends) (H0 : Hp) : SR → Prop
  | .nx ρ' => ∀ σ' H0' H', Same H0 H0' → Rl K ci He Pp H0e H0' H' σ' ρ' → D.nx σ' H'
  | .bk ρ' => ∀ σ' H0' H', Same H0 H0' → Rl K ci He Pp H0e H0' H' σ' ρ' → D.bk σ' H'
  | .ct ρ' => ∀ σ' H0' H', Same H0 H0' → Rl K ci He Pp H0e H0' H' σ' ρ' → D.ct σ' H'
  | .rt d ρ' => ∀ σ' v H0' H', Same H0 H0' → Rl K ci He Pp H0e H0' H' σ' ρ' → Rep K ci H0' v d → D.rt v H'
  | .exc c l ρ' => ∀ σ' H0' H' cls d, Same H0 H0' → Rl K ci He Pp H0e H0' H' σ' ρ' → ExcR K ci H0' c l cls d → W cls d σ' H'
  | .bot => False
def tS (K : PySem.W.Frag) (ci : CI) (W : WX) (C : Rf.Cx) (c : St) : TS := fun D σ H => ∃ He Pp H0e H0 ρ, Rl K ci He Pp H0e H0 H σ ρ ∧ OutS K ci W He Pp H0e D H0 (exS C c ρ)
theorem psImp {X : L2.Cx} {st : Stmt} {t t' : TS} (h : PS X st t) (w : ∀ D σ H, t' D σ H → t D σ H) : PS X st t' := ⟨fun pins s σ H D I q => h.run pins s σ H D I (w D σ H q)⟩
theorem pssImp {X : L2.Cx} {st : List Stmt} {t t' : TS} (h : PSs X st t) (w : ∀ D σ H, t' D σ H → t D σ H) : PSs X st t' := ⟨fun pins s σ H D I q => h.run pins s σ H D I (w D σ H q)⟩
section
variable {K : PySem.W.Frag} {ci : CI} {W : WX} {σ : L2.St} {He : Hp} {Pp : List (Nat × Addr)} {H0e H0 H0' : Hp} {α : Type} {D D' : Ends}
theorem OutS.from (s : Same H0 H0') : ∀ {x : SR}, OutS K ci W He Pp H0e D H0 x → OutS K ci W He Pp H0e D H0' x
  | .nx _, h => fun σ' k0 k1 s' r => h σ' k0 k1 (s.trans s') r
  | .bk _, h => fun σ' k0 k1 s' r => h σ' k0 k1 (s.trans s') r
  | .ct _, h => fun σ' k0 k1 s' r => h σ' k0 k1 (s.trans s') r
  | .rt _ _, h => fun σ' v k0 k1 s' r => h σ' v k0 k1 (s.trans s') r
  | .exc _ _ _, h => fun σ' k0 k1 c d s' r => h σ' k0 k1 c d (s.trans s') r
  | .bot, h => h
/-- an expression, then a statement's rest -/
theorem OutS.thn {f : α → List S → SR} : ∀ {x : Res α}, OutS K ci W He Pp H0e D H0 (x.thn f) → Out K ci W σ He Pp H0e H0 (fun a h0 h1 ρ' => Rl K ci He Pp H0e h0 h1 σ ρ' ∧ OutS K ci W He Pp H0e D h0 (f a ρ')) x
  | .ok a ρ', h => fun h0 h1 s r => ⟨r, OutS.from s h⟩
  | .exc c l ρ', h => fun h0 h1 cls d s r e => h σ h0 h1 cls d s r e
  | .bot, h => h
/-- a statement, then the rest -/
theorem OutS.seq {f : List S → SR} : ∀ {x : SR}, OutS K ci W He Pp H0e D H0 (x.thn f) → OutS K ci W He Pp H0e { D with nx := fun σ' H' => ∃ h0 ρ', Same H0 h0 ∧ Rl K ci He Pp H0e h0 H' σ' ρ' ∧ OutS K ci W He Pp H0e D h0 (f ρ') } H0 x
  | .nx ρ', h => fun σ' h0 h1 s r => ⟨h0, ρ', s, r, OutS.from s h⟩
  | .bk _, h => h
  | .ct _, h => h
  | .rt _ _, h => h
  | .exc _ _ _, h => h
  | .bot, h => h
theorem OutS.of : ∀ {x : Option (List S)}, OutS K ci W He Pp H0e D H0 (.of x) → ∃ r, x = some r ∧ OutS K ci W He Pp H0e D H0 (.nx r)
  | some r, h => ⟨r, rfl, h⟩
  | none, h => h.elim
end
section
variable {X : L2.Cx} {ci : CI} {W : WX} {C : Rf.Cx} {st : Stmt} {rest : List Stmt} {a b c : Expr} {ca cb cc : E} {sa sb : St} {pos : Pos}
theorem s_nil : PSs X [] (tS X.K ci W C .skip) := pssImp pss_nil fun D σ H ⟨He, Pp, H0e, H0, ρ, r, o⟩ => o σ H0 H (.refl _) r
theorem s_cons (h1 : PS X st (tS X.K ci W C sa)) (h2 : PSs X rest (tS X.K ci W C sb)) : PSs X (st :: rest) (tS X.K ci W C (.seq sa sb)) :=
  pssImp (pss_cons h1 h2) fun D σ H ⟨He, Pp, H0e, H0, ρ, r, o⟩ => by
    refine ⟨He, Pp, H0e, H0, ρ, r, ?_⟩
    have o2 := OutS.seq (show OutS X.K ci W He Pp H0e D H0 ((exS C sa ρ).thn fun r1 => exS C sb r1) from o)
    revert o2
    cases exS C sa ρ with
    | nx ρ' => exact fun o2 σ' h0 h1 s r' => let ⟨k0, ρ2, s2, r2, o3⟩ := o2 σ' h0 h1 s r'; ⟨He, Pp, H0e, k0, ρ2, r2, o3⟩
    | bk _ => exact id
    | ct _ => exact id
    | rt _ _ => exact id
    | exc _ _ _ => exact id
    | bot => exact id
theorem s_pass : PS X (.Pass pos) (tS X.K ci W C .skip) := psImp ps_pass fun D σ H ⟨He, Pp, H0e, H0, ρ, r, o⟩ => o σ H0 H (.refl _) r
theorem s_brk : PS X (.Break pos) (tS X.K ci W C .brk) := psImp ps_break fun D σ H ⟨He, Pp, H0e, H0, ρ, r, o⟩ => o σ H0 H (.refl _) r
theorem s_cnt : PS X (.Continue pos) (tS X.K ci W C .cnt) := psImp ps_continue fun D σ H ⟨He, Pp, H0e, H0, ρ, r, o⟩ => o σ H0 H (.refl _) r
theorem s_never : PS X st (tS X.K ci W C .never) := psImp ps_never fun D σ H ⟨He, Pp, H0e, H0, ρ, r, o⟩ => o
theorem s_exp (hs : swapsWith a none pos.line X.env = pure false) (ha : PE X a (tE X.K ci W C ca)) : PS X (.Expr a pos) (tS X.K ci W C (.exp ca)) :=
  psImp (ps_expr ha hs) fun D σ H ⟨He, Pp, H0e, H0, ρ, r, o⟩ => ⟨He, Pp, H0e, H0, ρ, r, Out.imp (fun x h0 h1 ρ1 _ _ ⟨r1, o1⟩ v hv => o1 σ h0 h1 (.refl _) r1) (OutS.thn o)⟩
theorem s_ret (ha : PE X a (tE X.K ci W C ca)) : PS X (.Return (some a) pos) (tS X.K ci W C (.ret ca)) :=
  psImp (ps_ret ha) fun D σ H ⟨He, Pp, H0e, H0, ρ, r, o⟩ => ⟨He, Pp, H0e, H0, ρ, r, Out.imp (fun x h0 h1 ρ1 _ _ ⟨r1, o1⟩ v hv => o1 σ v h0 h1 (.refl _) r1 hv) (OutS.thn o)⟩
theorem s_ite {body orelse : List Stmt} (hc : PT X c (tT X.K ci W C cc)) (ha : PSs X body (tS X.K ci W C sa)) (hb : PSs X orelse (tS X.K ci W C sb)) : PS X (.If c body orelse pos) (tS X.K ci W C (.ite cc sa sb)) :=
  psImp (ps_if hc ha hb) fun D σ H ⟨He, Pp, H0e, H0, ρ, r, o⟩ => by
    refine ⟨He, Pp, H0e, H0, ρ, r, Out.imp (fun x h0 h1 ρ1 _ _ ⟨r1, o1⟩ => ?_) (OutS.thn o)⟩
    split at o1
    · refine ⟨true, rfl, iteT ⟨He, Pp, H0e, h0, ρ1, r1, o1⟩⟩
    · refine ⟨false, rfl, iteF ⟨He, Pp, H0e, h0, ρ1, r1, o1⟩⟩
    · exact o1.elim
/-! ### targets -/
theorem putAll_len : ∀ {is : List Nat} {ds : List D} {ρ ρ' : List S}, putAll is ds ρ = some ρ' → is.length = ds.length
  | [], [], _, _, _ => rfl
  | i :: is, d :: ds, ρ, ρ', h => by
    unfold putAll at h
    cases q : putS ρ i (.val d) with
    | none => rw [q] at h; cases h
    | some r => rw [q] at h; exact congrArg Nat.succ (putAll_len h)
  | [], _ :: _, _, _, h => by cases h
  | _ :: _, [], _, _, h => by cases h
/-- names, one after another -/
def gNames : List Nat → TGs
  | [] => gNil
  | i :: is => gCons (gName i) (gNames is)
theorem rl_names {K : PySem.W.Frag} {He : Hp} {Pp : List (Nat × Addr)} {H0e H0 H : Hp} {Q : L2.St → Hp → Prop} : ∀ {is : List Nat} {ds : List D} {vs : List V} {σ : L2.St} {ρ ρ' : List S}, Rl K ci He Pp H0e H0 H σ ρ → putAll is ds ρ = some ρ' → Reps K ci H0 vs ds →
    (∀ σ', Rl K ci He Pp H0e H0 H σ' ρ' → Q σ' H) → gNames is vs σ H Q
  | [], [], vs, σ, ρ, ρ', r, h, rv, q => by
    cases rv
    cases h
    exact ⟨rfl, q σ r⟩
  | i :: is, d :: ds, vs, σ, ρ, ρ', r, h, rv, q => by
    cases rv with
    | cons rv1 rv2 =>
      unfold putAll at h
      cases q1 : putS ρ i (.val d) with
      | none => rw [q1] at h; cases h
      | some r2 =>
        rw [q1] at h
        exact ⟨_, _, rfl, rl_names (r.put q1 rv1) h rv2 q⟩
  | [], _ :: _, _, _, _, _, _, h, _, _ => by cases h
  | _ :: _, [], _, _, _, _, _, h, _, _ => by cases h
/-- a tuple or a list to names -/
def gSeq (K : PySem.W.Frag) (n : Nat) (t : TGs) : TG := fun v σ H Q => gTup K n t v σ H Q ∨ gLst K n t v σ H Q
theorem pg_seq {es : List Expr} {k : Nat} {t : TGs} {n : Nat} (hc : X.calm = true) (h : PGs X es t)
    (hn : (assignEach es X.env).length = n) (hst : (assignEach es X.env).findIdx? (·.1) = none) : PG X (.Tuple es k pos) (gSeq X.K n t) := by
  refine ⟨fun pins s σ H v u Q I r hw => ?_⟩
  rcases hw with hw | hw
  · exact (pg_tup hc h hn hst).run pins s σ H v u Q I r hw
  · exact (pg_lst hc h hn hst).run pins s σ H v u Q I r hw
/-- what a target takes -/
def tTg (K : PySem.W.Frag) (ci : CI) (t : Tg) : TG := fun v σ H Q => ∃ He Pp H0e H0 ρ d ρ', Rl K ci He Pp H0e H0 H σ ρ ∧ Rep K ci H0 v d ∧ bindT t d ρ = some ρ' ∧ ∀ σ', Rl K ci He Pp H0e H0 H σ' ρ' → Q σ' H
theorem pgImp {e : Expr} {t t' : TG} (h : PG X e t) (w : ∀ v σ H Q, t' v σ H Q → t v σ H Q) : PG X e t' := ⟨fun pins s σ H v u Q I r q => h.run pins s σ H v u Q I r (w v σ H Q q)⟩
theorem g_name {i : Nat} {x : Str} {px : Pos} (h : PG X (.Name x px) (gName i)) : PG X (.Name x px) (tTg X.K ci (.name i)) := pgImp h fun v σ H Q ⟨He, Pp, H0e, H0, ρ, d, ρ', r, rv, e, q⟩ => q _ (r.put e rv)
theorem g_tup {es : List Expr} {k : Nat} {is : List Nat} (hc : X.calm = true) (h : PGs X es (gNames is)) (hn : (assignEach es X.env).length = is.length) (hst : (assignEach es X.env).findIdx? (·.1) = none) : PG X (.Tuple es k pos) (tTg X.K ci (.tup is)) :=
  pgImp (pg_seq hc h hn hst) fun v σ H Q ⟨He, Pp, H0e, H0, ρ, d, ρ', r, rv, e, q⟩ => by
    cases d with
    | tup ds =>
      cases rv with
      | tup s rv => exact .inl ⟨_, _, rfl, sqt_mono r.sub s, (rv.length.trans (putAll_len e).symm), rl_names r e rv q⟩
    | lst ds =>
      cases rv with
      | lst s rv => exact .inr ⟨_, _, rfl, .of (r.sub _ _ s), (rv.length.trans (putAll_len e).symm), rl_names r e rv q⟩
    | _ => cases e
theorem s_asg {tg e : Expr} {t : Tg} (he : PE X e (tE X.K ci W C ca)) (hg : PG X tg (tTg X.K ci t)) (hs : swapsWithSole [tg] e pos.line X.env = pure false) (hw : swappedStores [tg] e X.env = pure none)
    (h1 : (assignEach [tg] X.env).map (·.2) = [assign tg X.env]) : PS X (.Assign [tg] e pos) (tS X.K ci W C (.asg t ca)) :=
  psImp (ps_asg he hg hs hw h1) fun D σ H ⟨He, Pp, H0e, H0, ρ, r, o⟩ => by
    refine ⟨He, Pp, H0e, H0, ρ, r, Out.imp (fun x h0 h1 ρ1 _ _ ⟨r1, o1⟩ v hv => ?_) (OutS.thn o)⟩
    obtain ⟨ρ', e, o2⟩ := OutS.of o1
    exact ⟨He, Pp, H0e, h0, ρ1, x, ρ', r1, hv, e, fun σ' r' => o2 σ' h0 h1 (.refl _) r'⟩
/-- name = [.. for ..] on one line -/
theorem s_asgLc {elt iter : Expr} {ifs : List Expr} {scope : Scope} {i j : Nat} {x y : Str} {px py spos : Pos} {it : It} {cc ce : E} (hc : X.calm = true) (hN : X.N.Nodup) (hi : X.N[i]? = some x) (hy : X.N[j]? = some y) (hyl : X.env.scope.names.lookup y = some .local)
    (hsw : swapsWith (.ListComp elt [⟨.Name x px, iter, ifs, 0⟩] scope pos) (some (.Name y py)) spos.line X.env = pure true) (ok : BlkOk X.N X.env.scope scope [(x, i)])
    (hx : scope.names.lookup x = some .local ∨ scope.names.lookup x = some .cell)
    (hit : PI X (.Name x px) iter (tI X.K ci W C it)) (hs : ∀ z, foldedSetIterable iter X.env z = pure z)
    (ht : ∀ (s : Shared) (H : Hp) (D : Addr) (cl : List (Str × Addr)) (fp : List Addr), PTs (X.blk s H scope (compEnvC scope cl D X.env) fp) ifs (tT X.K ci WF C cc))
    (he : ∀ (s : Shared) (H : Hp) (D : Addr) (cl : List (Str × Addr)) (fp : List Addr), PE (X.blk s H scope (compEnvC scope cl D X.env) fp) elt (tE X.K ci WF C ce)) :
    PS X (.Assign [.Name y py] (.ListComp elt [⟨.Name x px, iter, ifs, 0⟩] scope pos) spos) (tS X.K ci W C (.asg (.name j) (.comp i it cc ce))) :=
  psImp (ps_setLc (own := [(x, i)]) hc hN hy hyl hsw hit ok (comp_pg hN hi hx) ht he hs) fun D σ H ⟨He, Pp, H0e, H0, ρ, r, o⟩ => by
    refine comp_rd (Q := fun v H1 => gName j v σ H1 D.nx) ⟨He, Pp, H0e, H0, ρ, r, Out.imp (fun z h0 h1 ρ1 _ _ ⟨r1, o1⟩ v hv => ?_) (OutS.thn o)⟩
    obtain ⟨ρ', e, o2⟩ := OutS.of o1
    exact o2 _ h0 h1 (.refl _) (r1.put e hv)
/-! ### lists of one's own -/
/-- name = [..], the list one's own -/
theorem s_newL {es : List Expr} {i : Nat} {l : Es} {y : Str} {py lpos : Pos} (hN : X.N.Nodup) (hi : X.N[i]? = some y) (hy : Loc X.env.scope y) (hf : X.fn y = true ∨ X.env.scope.names.lookup y = some .local) (hs : swapsWith (.List es lpos) (some (.Name y py)) pos.line X.env = pure false) (h : PA X es (tEs X.K ci W C l)) : PS X (.Assign [.Name y py] (.List es lpos) pos) (tS X.K ci W C (.new i (.lst l))) :=
  psImp (ps_set hN hi hy (pe_lst h) hs hf) fun D σ H ⟨He, Pp, H0e, H0, ρ, r, o⟩ => by
    have o' : OutS X.K ci W He Pp H0e D H0 (((evEs C l ρ).bind fun ds r1 => if ds.length ≤ lineN then .ok (Rf.D.lst ds) r1 else .bot).thn (newK i)) := by
      have e1 := o
      unfold exS evE at e1
      exact e1
    refine ⟨He, Pp, H0e, H0, ρ, r, ?_⟩
    have o2 := Out.bind (OutS.thn (σ := σ) o')
    refine Out.imp (fun xs h0 h1 ρ1 _ _ ⟨r1, o1⟩ vs hv => ?_) o2
    split at o1
    · rename_i hz
      refine ⟨by rw [hv.length, ← lineN_eq]; exact hz, fun p hp => ?_⟩
      obtain ⟨_, o3⟩ := o1 h0 h1 (.refl _) r1
      obtain ⟨ρ', e, o4⟩ := OutS.of o3
      exact o4 _ h0 _ (.refl _) (r1.new e hp hv)
    · exact o1.elim
/-- name = list(e), the list one's own -/
theorem s_newC {e : Expr} {es : List Expr} {i : Nat} {l : E} {y : Str} {py cpos p : Pos} (hN : X.N.Nodup) (hi : X.N[i]? = some y) (hy : Loc X.env.scope y) (hf : X.fn y = true ∨ X.env.scope.names.lookup y = some .local)
    (hs : swapsWith (.Call (.Name "list" p) [e] [] cpos) (some (.Name y py)) pos.line X.env = pure false) (hg : Gl X "list") (hm : X.mg "list" = none) (he : starEach [e] X.env = (false, eval e X.env) :: starEach [] X.env) (h : PE X e (tE X.K ci W C l)) :
    PS X (.Assign [.Name y py] (.Call (.Name "list" p) [e] [] cpos) pos) (tS X.K ci W C (.new i (.prim .list (.cons l .nil)))) :=
  psImp (ps_set hN hi hy (pe_callTy call_list_of hg hm (by decide +kernel) (pa_cons h pa_nil he) (he := he) (hpl := rfl)) hs hf) fun D σ H ⟨He, Pp, H0e, H0, ρ, r, o⟩ => by
    have o' : OutS X.K ci W He Pp H0e D H0 (((evE C l ρ).bind fun x r1 => .of (prim .list [x]) r1).thn (newK i)) := by
      have e1 := o
      unfold exS at e1
      rw [ev1] at e1
      exact e1
    refine ⟨He, Pp, H0e, H0, ρ, r, ?_⟩
    have o2 := Out.bind (OutS.thn (σ := σ) o')
    refine Out.imp (fun x h0 h1 ρ1 _ _ ⟨r1, o1⟩ v hv => ?_) o2
    obtain ⟨z, ez, o3⟩ := Out.of o1
    change pList [x] = some z at ez
    unfold pList at ez
    split at ez
    · rename_i q; cases q; cases ez
      cases hv with
      | tup s rv =>
        refine ⟨_, _, rfl, .inr (sqt_mono r1.sub s), fun pl hp => ?_⟩
        obtain ⟨_, o4⟩ := o3 h0 h1 (.refl _) r1
        obtain ⟨ρ', e, o5⟩ := OutS.of o4
        exact o5 _ h0 _ (.refl _) (r1.new e hp rv)
    · rename_i q; cases q; cases ez
      cases hv with
      | lst s rv =>
        refine ⟨_, _, rfl, .inl (.of (r1.sub _ _ s)), fun pl hp => ?_⟩
        obtain ⟨_, o4⟩ := o3 h0 h1 (.refl _) r1
        obtain ⟨ρ', e, o5⟩ := OutS.of o4
        exact o5 _ h0 _ (.refl _) (r1.new e hp rv)
    · rename_i q; cases q; cases ez
      cases hv with
      | frz s rv =>
        refine ⟨_, _, rfl, .inl (r1.sub.seq s), fun pl hp => ?_⟩
        obtain ⟨_, o4⟩ := o3 h0 h1 (.refl _) r1
        obtain ⟨ρ', e, o5⟩ := OutS.of o4
        exact o5 _ h0 _ (.refl _) (r1.new e hp rv)
    · cases ez
end
end Rf

set_option Elab.async false
set_option linter.all false
set_option maxRecDepth 100000
set_option maxHeartbeats 2000000
/-! RfSt2: lists written, loops. -/
namespace Rf
open PySem PySem.Spec PyProof.Rows L2
section
variable {X : L2.Cx} {ci : CI} {W : WX} {C : Rf.Cx} {a b c e : Expr} {ca cb cc ce : E} {sa sb : St} {pos : Pos}
theorem s_app {i : Nat} {x : Str} {px apos cpos : Pos} (hx : PE X (.Name x px) (tVar i)) (he : PE X e (tE X.K ci W C ce)) (hs : starEach [e] X.env = (false, eval e X.env) :: starEach [] X.env) (hline : (apos.endLine == cpos.line) = true) :
    PS X (.Expr (.Call (.Attribute (.Name x px) "append" apos) [e] [] cpos) pos) (tS X.K ci W C (.app i ce)) :=
  psImp (ps_expr (pe_bm PySem.F.plainAttrs_list PySem.F.slot_list_append PySem.F.type_list_append mt_append hx (pa_cons he pa_nil hs) (hbase := rfl) (hfew := by rw [hs]; rfl) (hline := hline) (hs := hs) (hplain := rfl)) (hs := rfl)) fun D σ H ⟨He, Pp, H0e, H0, ρ, r, o⟩ => by
    unfold exS at o
    split at o
    · rename_i b0 l0 e0
      obtain ⟨a0, vs0, k1, k2, _⟩ := r.own e0
      refine ⟨.ref a0, k1, .inl ⟨rfl, _, .of k2⟩, He, Pp, H0e, H0, ρ, r, Out.imp (fun y h0 h1 ρ1 _ _ ⟨r1, o1⟩ v hv => ?_) (OutS.thn (σ := σ) o)⟩
      split at o1
      · rename_i b1 l1 e1
        split at o1
        · rename_i hz
          obtain ⟨a1, vs1, m1, m2, m3, m4, _⟩ := r1.own e1
          rw [k1] at m1; cases m1
          exact ⟨_, _, _, rfl, rfl, m2, by rw [m4.length, ← lineN_eq]; exact hz, o1 σ h0 _ (.refl _) (r1.wr e1 k1 (m4.append (.cons hv .nil)))⟩
        · exact o1.elim
      · exact o1.elim
    · exact o.elim
theorem s_put {i : Nat} {x : Str} {px spos : Pos} (hx : PE X (.Name x px) (tVar i)) (he : PE X e (tE X.K ci W C ce)) (ha : PE X a (tE X.K ci W C ca)) (hsw : swapsWithSole [.Subscript (.Name x px) a spos] e pos.line X.env = pure false)
    (hw : swappedStores [.Subscript (.Name x px) a spos] e X.env = pure none)
    (has : ∀ v, assign (.Subscript (.Name x px) a spos) X.env v = (do
      let ov ← holding [v] (eval (.Name x px) X.env)
      let iv ← holding [v, ov] (eval a X.env)
      standAt spos
      holding [v, ov, iv] (setItem ov iv v)
      release [v, ov, iv] [])) :
    PS X (.Assign [.Subscript (.Name x px) a spos] e pos) (tS X.K ci W C (.put i ca ce)) :=
  psImp (ps_asg he (pg_sub hx ha set_list has) hsw hw (h1 := rfl)) fun D σ H ⟨He, Pp, H0e, H0, ρ, r, o⟩ => by
    refine ⟨He, Pp, H0e, H0, ρ, r, Out.imp (fun y h0 h1 ρ1 _ _ ⟨r1, o1⟩ v hv => ?_) (OutS.thn (σ := σ) o)⟩
    split at o1
    · rename_i b0 l0 e0
      obtain ⟨a0, vs0, k1, k2, _⟩ := r1.own e0
      refine ⟨.ref a0, k1, He, Pp, H0e, h0, ρ1, r1, Out.imp (fun z k0 k1' ρ2 s2 _ ⟨r2, o2⟩ u hu => ?_) (OutS.thn (σ := σ) o1)⟩
      split at o2
      · rename_i b1 l1 k e1 _
        split at o2
        · rename_i n en
          cases hu
          obtain ⟨a1, vs1, m1, m2, m3, m4, _⟩ := r2.own e1
          rw [k1] at m1; cases m1
          exact ⟨_, _, _, n, rfl, rfl, m2, by rw [m4.length]; exact en, o2 σ k0 _ (.refl _) (r2.wr e1 k1 (Reps.set (hv.mono s2) n m4))⟩
        · exact o2.elim
      · exact o2.elim
    · exact o1.elim
/-- a, b = x, y -/
theorem s_par {i j : Nat} {x y : Str} {px py pt : Pos} {kt k2 : Nat} {pt2 : Pos} {l : Es} (hc : X.calm = true) (hN : X.N.Nodup) (hi : X.N[i]? = some x) (hj : X.N[j]? = some y) (hij : i ≠ j)
    (hx : X.env.scope.names.lookup x = some .local) (hy : X.env.scope.names.lookup y = some .local)
    (hw : swappedStores [.Tuple [.Name x px, .Name y py] kt pt] (.Tuple [a, b] k2 pt2) X.env = pure (some [x, y]))
    (hs : swapsWithSole [.Tuple [.Name x px, .Name y py] kt pt] (.Tuple [a, b] k2 pt2) pos.line X.env = pure false) (h : PA X [a, b] (tEs X.K ci W C l)) :
    PS X (.Assign [.Tuple [.Name x px, .Name y py] kt pt] (.Tuple [a, b] k2 pt2) pos) (tS X.K ci W C (.asg (.tup [i, j]) (.tup l))) :=
  psImp (ps_par hc hN hi hj hij hx hy h hw hs) fun D σ H ⟨He, Pp, H0e, H0, ρ, r, o⟩ => by
    have o' : OutS X.K ci W He Pp H0e D H0 (((evEs C l ρ).bind fun ds r1 => if ds.length ≤ lineN then .ok (Rf.D.tup ds) r1 else .bot).thn fun x r1 => .of (bindT (.tup [i, j]) x r1)) := by
      have e1 := o
      unfold exS evE at e1
      exact e1
    refine ⟨He, Pp, H0e, H0, ρ, r, Out.imp (fun xs h0 h1 ρ1 _ _ ⟨r1, o1⟩ vs hv => ?_) (Out.bind (OutS.thn (σ := σ) o'))⟩
    split at o1
    · obtain ⟨_, o3⟩ := o1 h0 h1 (.refl _) r1
      obtain ⟨ρ', e, o4⟩ := OutS.of o3
      have e : putAll [i, j] xs ρ1 = some ρ' := e
      match xs, e, hv with
      | [da, db], e, .cons va (.cons vb .nil) =>
        unfold putAll at e
        cases q1 : putS ρ1 i (.val da) with
        | none => rw [q1] at e; cases e
        | some ρ2 =>
          rw [q1] at e
          have e : putAll [j] [db] ρ2 = some ρ' := e
          unfold putAll at e
          cases q2 : putS ρ2 j (.val db) with
          | none => rw [q2] at e; cases e
          | some ρ3 =>
            rw [q2] at e
            cases e
            exact ⟨_, _, rfl, o4 _ h0 h1 (.refl _) ((r1.put q1 va).put q2 vb)⟩
      | [], e, _ => cases e
      | [da], e, _ =>
        unfold putAll at e
        cases q1 : putS ρ1 i (.val da) with
        | none => rw [q1] at e; cases e
        | some ρ2 => rw [q1] at e; cases e
      | da :: db :: dc :: dl, e, _ =>
        have := putAll_len e
        simp at this
    · exact o1.elim
/-! ### loops -/
theorem s_whl {body : List Stmt} (hp : PassesOwn (model X.prog X.w) X.A X.env X.xe) (hc : PT X c (tT X.K ci W C cc)) (hb : PSs X body (tS X.K ci W C sb)) : PS X (.While c body [] pos) (tS X.K ci W C (.whl cc sb)) :=
  psImp (ps_while hp hc hb) fun D σ H ⟨He, Pp, H0e, H0, ρ, r, o⟩ => by
    refine ⟨fun m σ H => ∃ h0 ρ, Same H0 h0 ∧ Rl X.K ci He Pp H0e h0 H σ ρ ∧ OutS X.K ci W He Pp H0e D h0 (whl (evE C cc) (exS C sb) m ρ), ⟨C.fuel, H0, ρ, .refl _, r, o⟩, ?_⟩
    rintro m σ H ⟨h0, ρ, s0, r, o⟩
    cases m with
    | zero => exact o.elim
    | succ m =>
      refine ⟨He, Pp, H0e, h0, ρ, r, Out.imp (fun x k0 k1 ρ1 s1 _ ⟨r1, o1⟩ => ?_) (OutS.thn (σ := σ) (show OutS X.K ci W He Pp H0e D h0 ((evE C cc ρ).thn _) from o))⟩
      cases x with
      | bl bb =>
        cases bb with
        | true =>
          refine ⟨true, rfl, iteT ?_⟩
          refine ⟨fun σ H => ∃ h0 ρ, Same H0 h0 ∧ Rl X.K ci He Pp H0e h0 H σ ρ ∧ OutS X.K ci W He Pp H0e D h0 (whl (evE C cc) (exS C sb) m ρ), fun σ' H' q => ⟨m, Nat.lt_succ_self m, q⟩, He, Pp, H0e, k0, ρ1, r1, ?_⟩
          simp only at o1
          revert o1
          cases exS C sb ρ1 with
          | nx ρ2 => exact fun o1 σ' l0 l1 s2 r2 => ⟨l0, ρ2, (s0.trans s1).trans s2, r2, OutS.from s2 o1⟩
          | ct ρ2 => exact fun o1 σ' l0 l1 s2 r2 => ⟨l0, ρ2, (s0.trans s1).trans s2, r2, OutS.from s2 o1⟩
          | bk ρ2 => exact fun o1 σ' l0 l1 s2 r2 => o1 σ' l0 l1 s2 r2
          | rt _ _ => exact id
          | exc _ _ _ => exact id
          | bot => exact id
        | false => exact ⟨false, rfl, iteF (o1 σ k0 k1 (.refl _) r1)⟩
      | _ => exact o1.elim
theorem s_for {tg iter : Expr} {body : List Stmt} {t : Tg} {it : It} (hp : PassesOwn (model X.prog X.w) X.A X.env X.xe) (hc : X.calm = true) (hi : PI X tg iter (tI X.K ci W C it)) (hg : PG X tg (tTg X.K ci t)) (hb : PSs X body (tS X.K ci W C sb))
    (hs : ∀ x, foldedSetIterable iter X.env x = pure x) : PS X (.For tg iter body [] pos) (tS X.K ci W C (.for t it sb)) :=
  psImp (ps_for hp hc hi hg hb hs) fun D σ H ⟨He, Pp, H0e, H0, ρ, r, o⟩ => by
    refine ⟨He, Pp, H0e, H0, ρ, r, Out.imp (fun xs h0 h1 ρ1 _ _ ⟨r1, o1⟩ J wk => ?_) (OutS.thn (σ := σ) o)⟩
    let Iv : Nat → L2.St → Hp → Prop := fun j σ H => ∃ k0 ρ, j ≤ xs.length ∧ Same h0 k0 ∧ Rl X.K ci He Pp H0e k0 H σ ρ ∧ OutS X.K ci W He Pp H0e D k0 (forL (bindT t) (exS C sb) (xs.drop j) ρ)
    refine ⟨fun j m σ H => m = xs.length - j ∧ Iv j σ H, ⟨xs.length, by simp, h0, ρ1, Nat.zero_le _, .refl _, r1, o1⟩, ?_⟩
    rintro j m σ H ⟨rfl, k0, ρ2, hj, sk, r2, o2⟩
    have swalk : Same h0 H := sk.trans r2.sub
    by_cases hlt : j < xs.length
    · have ed : xs.drop j = xs[j] :: xs.drop (j + 1) := (List.drop_eq_getElem_cons hlt)
      obtain ⟨go, yl⟩ := (wk H swalk).2 j xs[j] (List.getElem?_eq_getElem hlt)
      refine .inr ⟨go, Iv (j + 1), fun σ' H' q => ⟨xs.length - (j + 1), by omega, rfl, q⟩, fun v H' y => ?_⟩
      obtain ⟨eH, rep⟩ := yl v H' y
      subst eH
      rw [ed] at o2
      simp only [forL] at o2
      cases q1 : bindT t xs[j] ρ2 with
      | none => rw [q1] at o2; exact o2.elim
      | some ρ3 =>
        rw [q1] at o2
        refine ⟨He, Pp, H0e, k0, ρ2, xs[j], ρ3, r2, rep.mono sk, q1, fun σ' r3 => ⟨He, Pp, H0e, k0, ρ3, r3, ?_⟩⟩
        simp only at o2
        revert o2
        cases exS C sb ρ3 with
        | nx ρ4 => exact fun o1 σ' l0 l1 s2 r4 => ⟨l0, ρ4, hlt, sk.trans s2, r4, OutS.from s2 o1⟩
        | ct ρ4 => exact fun o1 σ' l0 l1 s2 r4 => ⟨l0, ρ4, hlt, sk.trans s2, r4, OutS.from s2 o1⟩
        | bk ρ4 => exact fun o1 σ' l0 l1 s2 r4 => o1 σ' l0 l1 s2 r4
        | rt _ _ => exact id
        | exc _ _ _ => exact id
        | bot => exact id
    · have ej : j = xs.length := by omega
      subst ej
      rw [List.drop_length] at o2
      simp only [forL] at o2
      exact .inl ⟨(wk H swalk).1 _ (Nat.le_refl _), o2 σ k0 H (.refl _) r2⟩
end
end Rf

set_option Elab.async false
set_option linter.all false
set_option maxRecDepth 100000
set_option maxHeartbeats 2000000
/-! RfFn: calls of defs, by place and by name; a def keeps its promise. -/
namespace Rf
open PySem PySem.Spec PyProof.Rows L2

structure Bnd (K : PySem.W.Frag) (ci : CI) (fd : FuncData) (ps : List Str) (n : Nat) (ks : List Str) (perm : List (Nat ⊕ D)) : Prop where
  ex : ∃ (dv : List V) (du : List Value), Vals dv du ∧ PermOk K ci perm (n + ks.length) dv ∧ ps.length = perm.length ∧
    ∀ (s : Shared) (us ws : List Value), K.In s.heap → us.length = n → ws.length = ks.length → BindsTo s fd ⟨us, ks.zip ws⟩ (ps.zip (permG perm du (us ++ ws)))
def As.len : As → Nat
  | .nil => 0
  | .val _ l => l.len + 1
  | .own _ l => l.len + 1
  | .tmp _ => 1
def Es.len : Es → Nat
  | .nil => 0
  | .cons _ l => l.len + 1
theorem evAs_len {C : Rf.Cx} : ∀ {c : As} {ρ : List S} {vs : List Av} {ρ' : List S}, evAs C c ρ = .ok vs ρ' → vs.length = c.len
  | .nil, ρ, vs, ρ', h => by unfold evAs at h; cases h; rfl
  | .val e l, ρ, vs, ρ', h => by
    unfold evAs at h
    cases q : evE C e ρ with
    | ok x r1 =>
      rw [q] at h
      simp only [Res.bind] at h
      cases q2 : evAs C l r1 with
      | ok xs r2 => rw [q2] at h; cases h; exact congrArg Nat.succ (evAs_len q2)
      | exc c l r2 => rw [q2] at h; cases h
      | bot => rw [q2] at h; cases h
    | exc c l r1 => rw [q] at h; cases h
    | bot => rw [q] at h; cases h
  | .own i0 l, ρ, vs, ρ', h => by
    unfold evAs at h
    split at h
    · cases q2 : evAs C l ρ with
      | ok xs r2 =>
        rw [q2] at h
        simp only [Res.bind] at h
        split at h
        · split at h
          · cases h; exact congrArg Nat.succ (evAs_len q2)
          · cases h
        · cases h
      | exc c l r2 => rw [q2] at h; cases h
      | bot => rw [q2] at h; cases h
    · cases h
  | .tmp es, ρ, vs, ρ', h => by
    unfold evAs at h
    cases q : evEs C es ρ with
    | ok x r1 =>
      rw [q] at h
      simp only [Res.bind] at h
      split at h
      · cases h; rfl
      · cases h
    | exc c l r1 => rw [q] at h; cases h
    | bot => rw [q] at h; cases h
theorem evEs_len {C : Rf.Cx} : ∀ {c : Es} {ρ : List S} {vs : List D} {ρ' : List S}, evEs C c ρ = .ok vs ρ' → vs.length = c.len
  | .nil, ρ, vs, ρ', h => by unfold evEs at h; cases h; rfl
  | .cons e l, ρ, vs, ρ', h => by
    unfold evEs at h
    cases q : evE C e ρ with
    | ok x r1 =>
      rw [q] at h
      simp only [Res.bind] at h
      cases q2 : evEs C l r1 with
      | ok xs r2 => rw [q2] at h; cases h; exact congrArg Nat.succ (evEs_len q2)
      | exc c l r2 => rw [q2] at h; cases h
      | bot => rw [q2] at h; cases h
    | exc c l r1 => rw [q] at h; cases h
    | bot => rw [q] at h; cases h
theorem vals_getD {x : V} {y : Value} (h : RelV x y) : ∀ {vs : List V} {us : List Value}, Vals vs us → ∀ {i : Nat}, RelV (vs.getD i x) (us.getD i y)
  | _, _, .nil, i => by simpa using h
  | _, _, .cons r t, 0 => by simpa using r
  | _, _, .cons r t, i + 1 => by simpa using vals_getD h t (i := i)
theorem permG_vals : ∀ {p : List (Nat ⊕ D)} {dv : List V} {du : List Value} {vs : List V} {us : List Value}, Vals dv du → Vals vs us → Vals (permG p dv vs) (permG p du us)
  | [], _, _, _, _, _, _ => .nil
  | .inl i :: p, _, _, _, _, .cons r t, h => .cons (vals_getD r h) (permG_vals t h)
  | .inr d :: p, _, _, _, _, .cons r t, h => .cons r (permG_vals t h)
  | .inl i :: p, _, _, _, _, .nil, h => .nil
  | .inr d :: p, _, _, _, _, .nil, h => .nil
section
variable {X : L2.Cx} {ci : CI} {W : WX} {C : Rf.Cx} {k n f : Nat} {fa : Addr} {fd : FuncData} {ps : List Str} {x : Str} {p pos : Pos} {e : Expr} {es : List Expr} {kws : List Keyword} {l : As} {ls ms : Es} {perm : List (Nat ⊕ D)} {ks : List Str}
theorem run_sp {pins : List (Addr × Obj)} {σ : L2.St} {H : Hp} {s : Shared} {Q : VK} {args : Args} {us : List Value} {vs : List V} {sp : Sp} (F : FnOk X.prog X.w X.K X.mg X.base (L2N.CX X.prog X.w) k fa fd ps sp) (hr : Room k X.A) (tk : L2N.Takes X W)
    (I : Inv X pins σ H s) (r : Vals vs us) (hb : BindsTo s fd args (ps.zip us)) (h : sp vs H Q (fun cls d H' => W cls d σ H')) : wpAny (model X.prog X.w) X.A (call (.ref fa) args.pos args.kw) (EP X pins σ Q) X.xe s := by
  refine wpAny_call (codeAny_mono (F.run X.A X.stack s H args us vs Q _ hr I.env0 hb r h) fun r s' hq => ?_)
  cases r with
  | error e => exact L2N.passAt tk σ pins H s e s' I hq
  | ok fl =>
    cases fl with
    | ret u => exact I.after hq
    | next => exact False.elim hq
    | brk => exact False.elim hq
    | cont => exact False.elim hq
/-- the arguments' wish -/
theorem call_as {σ : L2.St} {H : Hp} {Q : VK} {dv : List V} (po : PermOk X.K ci perm l.len dv) (h : tE X.K ci W C (.call f perm l) σ H Q) :
    tAs X.K ci W C l σ H fun us H'' => us.length = l.len ∧ spI X.K ci C perm.length f (permG perm dv us) H'' Q (fun cls d H' => W cls d σ H') := by
  obtain ⟨He, Pp, H0e, H0, ρ, r, out⟩ := h
  refine ⟨He, Pp, H0e, H0, ρ, r, ?_⟩
  unfold evE at out
  have o2 := Out.bind out
  cases q : evAs C l ρ with
  | ok vs ρ1 =>
    rw [q] at o2
    exact fun h0 h1 sm r1 us H'' av => by
      obtain ⟨_, o3⟩ := o2 h0 h1 sm r1
      have e1 := evAs_len q
      exact ⟨av.length.trans e1, call_core r1 av (evAs_owns q) (by rw [e1]; exact po) o3⟩
  | exc c l ρ1 => rw [q] at o2; exact o2
  | bot => rw [q] at o2; exact o2
theorem r_call (F : FnOk X.prog X.w X.K X.mg X.base (L2N.CX X.prog X.w) k fa fd ps (spI X.K ci C ps.length f)) (hr : Room k X.A) (tk : L2N.Takes X W) (hg : Gl X x) (hm : X.mg x = some (.ref fa)) (hk : PySem.W.keepIn X.K (.ref fa) = true) (b : Bnd X.K ci fd ps l.len [] perm)
    (ha : PA X (e :: es) (tAs X.K ci W C l)) (he : starEach (e :: es) X.env = (false, eval e X.env) :: starEach es X.env) (hpl : (backTo pos (starEach es X.env)).any (·.1) = false) (hdb : (x == ("__debug__" : Str)) = false := by decide +kernel) :
    PE X (.Call (.Name x p) (e :: es) [] pos) (tE X.K ci W C (.call f perm l)) := by
  obtain ⟨dv, du, rd, po, hps, hb⟩ := b.ex
  refine ⟨fun pins s σ H Q I h => ?_⟩
  refine wpAny_Call_Name_kw (ld_glob I hg hm ?_ hdb)
  refine PySem.W.callWith_K (h₀ := X.base) I.ok.mod.kin hk (thn (ha.run pos pins s σ H _ I (call_as po h)) fun us s1 ⟨vs, H1, I1, r, hl, q⟩ => ⟨I1.kIn, ?_⟩) he hpl
  have hb1 := hb s1 us [] I1.kIn (r.length.symm.trans hl) rfl
  rw [List.append_nil] at hb1
  rw [← hps] at q
  exact run_sp (args := ⟨us, []⟩) F hr tk I1 (permG_vals rd r) hb1 q
theorem r_call0 (F : FnOk X.prog X.w X.K X.mg X.base (L2N.CX X.prog X.w) k fa fd ps (spI X.K ci C ps.length f)) (hr : Room k X.A) (tk : L2N.Takes X W) (hg : Gl X x) (hm : X.mg x = some (.ref fa)) (hk : PySem.W.keepIn X.K (.ref fa) = true) (b : Bnd X.K ci fd ps 0 [] perm) (hdb : (x == ("__debug__" : Str)) = false := by decide +kernel) :
    PE X (.Call (.Name x p) [] [] pos) (tE X.K ci W C (.call f perm .nil)) := by
  obtain ⟨dv, du, rd, po, hps, hb⟩ := b.ex
  refine ⟨fun pins s σ H Q I h => ?_⟩
  refine wpAny_Call_Name_kw (ld_glob I hg hm ?_ hdb)
  obtain ⟨He, Pp, H0e, H0, ρ, r, o⟩ := call_as (l := .nil) po h
  have q := (o H0 H (.refl _) r [] H .nil).2
  have hb1 := hb s [] [] I.kIn rfl rfl
  rw [← hps] at q
  exact PySem.W.callWith_K0 I.kIn hk (run_sp (args := ⟨[], []⟩) F hr tk I (permG_vals rd .nil) hb1 q)
/-! ### by name -/
theorem pkImp {kws : List Keyword} {t t' : TA} (h : PK X kws t) (w : ∀ σ H Q, t' σ H Q → t σ H Q) : PK X kws t' := ⟨fun pos pins s σ H Q I q => h.run pos pins s σ H Q I (w σ H Q q)⟩
theorem k_nil : PK X [] (tEs X.K ci W C .nil) := pkImp pk_nil fun σ H Q ⟨He, Pp, H0e, H0, ρ, r, out⟩ => out H0 H (.refl _) r [] .nil
theorem k_cons {a : Expr} {ca : E} {nm : Option Str} {kpos : Pos} (ha : PE X a (tE X.K ci W C ca)) (hr : PK X kws (tEs X.K ci W C ls)) : PK X (⟨nm, a, kpos⟩ :: kws) (tEs X.K ci W C (.cons ca ls)) :=
  pkImp (pk_cons ha hr) fun σ H Q ⟨He, Pp, H0e, H0, ρ, r, out⟩ => by
    refine ⟨He, Pp, H0e, H0, ρ, r, Out.imp (fun x h0 h1 ρ1 _ _ ⟨r1, o1⟩ v hv => ?_) (Out.bind out)⟩
    refine ⟨He, Pp, H0e, h0, ρ1, r1, Out.imp (fun ys k0 k1 ρ2 s2 _ ⟨r2, o2⟩ us hu => ?_) (Out.bind o1)⟩
    exact o2 k0 k1 (.refl _) r2 _ (.cons (hv.mono s2) hu)
theorem avs_val {K : PySem.W.Frag} {h0 h1 : Hp} {σ : L2.St} : ∀ {us : List V} {ds : List D}, Reps K ci h0 us ds → AvsR K ci h0 h1 σ h1 us (ds.map .val)
  | _, _, .nil => .nil
  | _, _, .cons r t => .val r (avs_val t)
theorem val_get {ds : List D} {i : Nat} {a : Av} (h : (ds.map Av.val)[i]? = some a) : ∃ d, a = .val d := by
  rw [List.getElem?_map] at h
  cases q : ds[i]? with
  | none => rw [q] at h; cases h
  | some d => rw [q] at h; cases h; exact ⟨d, rfl⟩
theorem owns_val {ρ : List S} {ds : List D} : OwnsOk ρ (ds.map .val) := by
  refine ⟨fun i hi => ?_, fun i j k h1 h2 => ?_⟩
  · obtain ⟨d, _, e⟩ := List.mem_map.mp hi
    cases e
  · obtain ⟨d, e⟩ := val_get h1
    cases e
theorem lent_val {ds : List D} : ∀ {p : List (Nat ⊕ D)} {k j : Nat}, lentAt (ds.map .val) p k j = none
  | [], _, _ => rfl
  | .inr _ :: p, k, j => lent_val (p := p)
  | .inl i :: p, k, j => by
    have e : isOwn j (ds.map Av.val)[i]? = false := by
      cases q : (ds.map Av.val)[i]? with
      | none => rfl
      | some a =>
        obtain ⟨d, rfl⟩ := val_get q
        rfl
    unfold lentAt
    rw [e]
    exact lent_val (p := p)
theorem back_val {outs : List S} {ds : List D} {p : List (Nat ⊕ D)} : ∀ {j : Nat} {ρ : List S}, backS outs (ds.map .val) p j ρ = ρ
  | _, [] => rfl
  | j, s :: ρ => by
    unfold backS
    rw [lent_val, back_val]
    rfl
theorem perm_val {ρ : List S} {ds : List D} : permS ρ (ds.map .val) perm = permG perm (permD perm) (ds.map S.val) := by
  unfold permS
  rw [List.map_map]
  rfl
/-- the wish of both -/
theorem callk_as {σ : L2.St} {H : Hp} {Q : VK} {dv : List V} (po : PermOk X.K ci perm (ls.len + ms.len) dv) (h : tE X.K ci W C (.callk f perm ls ms) σ H Q) :
    tEs X.K ci W C ls σ H fun us H1 => us.length = ls.len ∧ tEs X.K ci W C ms σ H1 fun ws H2 => ws.length = ms.len ∧ spI X.K ci C perm.length f (permG perm dv (us ++ ws)) H2 Q (fun cls d H' => W cls d σ H') := by
  obtain ⟨He, Pp, H0e, H0, ρ, r, out⟩ := h
  refine ⟨He, Pp, H0e, H0, ρ, r, ?_⟩
  unfold evE at out
  have o2 := Out.bind out
  cases q : evEs C ls ρ with
  | ok xs ρ1 =>
    rw [q] at o2
    intro h0 h1 sm r1 us ru
    obtain ⟨_, o3⟩ := o2 h0 h1 sm r1
    have e1 := evEs_len q
    refine ⟨ru.length.trans e1, He, Pp, H0e, h0, ρ1, r1, ?_⟩
    have o4 := Out.bind o3
    cases q2 : evEs C ms ρ1 with
    | ok ys ρ2 =>
      rw [q2] at o4
      intro k0 k1 sm2 r2 ws rw2
      obtain ⟨_, o5⟩ := o4 k0 k1 sm2 r2
      have e2 := evEs_len q2
      refine ⟨rw2.length.trans e2, ?_⟩
      refine call_core (vs := (xs ++ ys).map Av.val) (ρ := ρ2) r2 (avs_val ((Reps.mono sm2 _ ru).append rw2)) owns_val (by rw [List.length_map, List.length_append, e1, e2]; exact po) ?_
      rw [perm_val]
      simp only [back_val]
      exact o5
    | exc c l ρ1 => rw [q2] at o4; exact o4
    | bot => rw [q2] at o4; exact o4
  | exc c l ρ1 => rw [q] at o2; exact o2
  | bot => rw [q] at o2; exact o2
theorem r_callk (F : FnOk X.prog X.w X.K X.mg X.base (L2N.CX X.prog X.w) k fa fd ps (spI X.K ci C ps.length f)) (hr : Room k X.A) (tk : L2N.Takes X W) (hg : Gl X x) (hm : X.mg x = some (.ref fa)) (hk : PySem.W.keepIn X.K (.ref fa) = true) (b : Bnd X.K ci fd ps ls.len ks perm) (hms : ms.len = ks.length)
    (ha : PA X (e :: es) (tEs X.K ci W C ls)) (hkw : PK X kws (tEs X.K ci W C ms)) (hall : (backToKw pos (keywordEach kws X.env)).all (·.1.isSome) = true) (hks : (backToKw pos (keywordEach kws X.env)).filterMap (·.1) = ks)
    (he : starEach (e :: es) X.env = (false, eval e X.env) :: starEach es X.env)
    (hpl : ((backTo pos (starEach (e :: es) X.env)).any (·.1) || (backToKw pos (keywordEach kws X.env)).any (·.1.isNone)) = false) (hdb : (x == ("__debug__" : Str)) = false := by decide +kernel) :
    PE X (.Call (.Name x p) (e :: es) kws pos) (tE X.K ci W C (.callk f perm ls ms)) := by
  obtain ⟨dv, du, rd, po, hps, hb⟩ := b.ex
  refine ⟨fun pins s σ H Q I h => ?_⟩
  refine wpAny_Call_Name_kw (ld_glob I hg hm ?_ hdb)
  refine PySem.W.callWith_KW (h₀ := X.base) I.ok.mod.kin hk hall (thn (ha.run pos pins s σ H _ I (callk_as (dv := dv) (by rw [hms]; exact po) h)) fun us s1 ⟨vs, H1, I1, r, hl, q⟩ => ?_) hpl he
  refine thn (hkw.run pos pins s1 σ H1 _ I1 q) fun ws s2 ⟨zs, H2, I2, rz, hl2, q2⟩ => ⟨I2.kIn, ?_⟩
  rw [hks]
  have hb1 := hb s2 us ws I2.kIn (r.length.symm.trans hl) (rz.length.symm.trans (hl2.trans hms))
  rw [← hps] at q2
  exact run_sp (args := ⟨us, ks.zip ws⟩) F hr tk I2 (permG_vals rd (r.append rz)) hb1 q2
theorem r_callk0 (F : FnOk X.prog X.w X.K X.mg X.base (L2N.CX X.prog X.w) k fa fd ps (spI X.K ci C ps.length f)) (hr : Room k X.A) (tk : L2N.Takes X W) (hg : Gl X x) (hm : X.mg x = some (.ref fa)) (hk : PySem.W.keepIn X.K (.ref fa) = true) (b : Bnd X.K ci fd ps 0 ks perm) (hms : ms.len = ks.length)
    (hkw : PK X kws (tEs X.K ci W C ms)) (hall : (backToKw pos (keywordEach kws X.env)).all (·.1.isSome) = true) (hks : (backToKw pos (keywordEach kws X.env)).filterMap (·.1) = ks)
    (hpl : ((backTo pos (starEach [] X.env)).any (·.1) || (backToKw pos (keywordEach kws X.env)).any (·.1.isNone)) = false) (hdb : (x == ("__debug__" : Str)) = false := by decide +kernel) :
    PE X (.Call (.Name x p) [] kws pos) (tE X.K ci W C (.callk f perm .nil ms)) := by
  obtain ⟨dv, du, rd, po, hps, hb⟩ := b.ex
  refine ⟨fun pins s σ H Q I h => ?_⟩
  refine wpAny_Call_Name_kw (ld_glob I hg hm ?_ hdb)
  obtain ⟨He, Pp, H0e, H0, ρ, r, o⟩ := callk_as (ls := .nil) (dv := dv) (by rw [hms]; exact po) h
  have q := (o H0 H (.refl _) r [] .nil).2
  refine PySem.W.callWith_KW0 (h₀ := X.base) I.ok.mod.kin hk hall ?_ hpl
  refine thn (hkw.run pos pins s σ H _ I q) fun ws s2 ⟨zs, H2, I2, rz, hl2, q2⟩ => ⟨I2.kIn, ?_⟩
  rw [hks]
  have hb1 := hb s2 [] ws I2.kIn rfl (rz.length.symm.trans (hl2.trans hms))
  rw [← hps] at q2
  exact run_sp (args := ⟨[], ks.zip ws⟩) F hr tk I2 (permG_vals rd rz) hb1 q2
end
end Rf

set_option Elab.async false
set_option linter.all false
set_option maxRecDepth 100000
set_option maxHeartbeats 2000000
/-! RfFn2: a def keeps its promise. -/
namespace Rf
open PySem PySem.Spec PyProof.Rows L2

theorem nodup_inj {L : List (Nat × Addr)} : (L.map (·.2)).Nodup → ∀ p q, p ∈ L → q ∈ L → p.2 = q.2 → p = q := by
  induction L with
  | nil => intro _ p q hp; cases hp
  | cons a L ih =>
    intro nd p q hp hq e
    rw [List.map_cons, List.nodup_cons] at nd
    rcases List.mem_cons.mp hp with h1 | hp
    · rcases List.mem_cons.mp hq with h2 | hq
      · rw [h1, h2]
      · rw [h1] at e
        exact absurd (List.mem_map.mpr ⟨q, hq, e.symm⟩) nd.1
    · rcases List.mem_cons.mp hq with h2 | hq
      · rw [h2] at e
        exact absurd (List.mem_map.mpr ⟨p, hp, e⟩) nd.1
      · exact ih nd.2 p q hp hq e
section
variable {K : PySem.W.Frag} {ci : CI} {H0 H H0' H' : Hp} {vs : List V} {args : List S}
theorem start_at {N : List Str} (hl : args.length = vs.length) (hn : vs.length ≤ N.length) {i : Nat} {s : S} (h : (args ++ List.replicate (N.length - args.length) S.non)[i]? = some s) (hs : s ≠ .non) :
    i < vs.length ∧ args[i]? = some s ∧ ∃ v, vs[i]? = some v ∧ (L2.start N vs)[i]? = some (some v) := by
  by_cases hi : i < args.length
  · rw [List.getElem?_append_left hi] at h
    have hi2 : i < vs.length := by omega
    refine ⟨hi2, h, vs[i], List.getElem?_eq_getElem hi2, ?_⟩
    unfold L2.start
    rw [List.getElem?_append_left (by rw [List.length_map]; exact hi2), List.getElem?_map, List.getElem?_eq_getElem hi2]
    rfl
  · rw [List.getElem?_append_right (by omega), List.getElem?_replicate] at h
    split at h
    · cases h; exact absurd rfl hs
    · cases h
theorem Rl.enter {N : List Str} (s : Same H0 H) (ha : ArgsS K ci H0 H vs args) (nd : ((ppOf 0 vs args).map (·.2)).Nodup) (hn : vs.length ≤ N.length) :
    Rl K ci H (ppOf 0 vs args) H0 H0 H (L2.start N vs) (args ++ List.replicate (N.length - args.length) .non) := by
  have hl : args.length = vs.length := ha.length.symm
  refine ⟨?_, s, .refl _, fun b o e _ => e, fun b hb => ?_, fun b o e => .inl e, fun i s' o e1 e2 => ?_, fun i j a b l b' l' hij e1 e2 e3 e4 => ?_, fun p hp => ?_⟩
  · unfold L2.start
    rw [List.length_append, List.length_append, List.length_map, List.length_replicate, List.length_replicate, hl]
  · obtain ⟨p, hp, rfl⟩ := List.mem_map.mp hb
    obtain ⟨_, q1, l, q2⟩ := ppOf_mem.mp hp
    obtain ⟨_, a, ws, ev, m, _⟩ := ha.get q1 q2
    cases ev
    exact ⟨ws, m⟩
  · by_cases hs : s' = .non
    · subst hs; cases o <;> trivial
    · obtain ⟨hi, q1, v, q2, q3⟩ := start_at hl hn e1 hs
      rw [q3] at e2; cases e2
      have q := ha.get q2 q1
      cases s' with
      | non => exact absurd rfl hs
      | val d => exact q
      | own b l =>
        obtain ⟨rfl, a, ws, rfl, m1, m2, m3⟩ := q
        exact ⟨a, ws, rfl, m1, m2, m3, fun _ => List.mem_map.mpr ⟨(i, a), ppOf_mem.mpr ⟨Nat.zero_le _, by simpa using q2, l, by simpa using q1⟩, rfl⟩, fun z => by cases z⟩
  · have ne : ∀ (b : Bool) (l : List D), S.own b l ≠ .non := fun b l z => by cases z
    obtain ⟨hi, q1, v, q2, q3⟩ := start_at hl hn e1 (ne _ _)
    obtain ⟨hj, p1, u, p2, p3⟩ := start_at hl hn e2 (ne _ _)
    rw [e3] at q3; cases q3
    rw [e4] at p3; cases p3
    obtain ⟨rfl, _⟩ := ha.get q2 q1
    obtain ⟨rfl, _⟩ := ha.get p2 p1
    have m1 : (i, a) ∈ ppOf 0 vs args := ppOf_mem.mpr ⟨Nat.zero_le _, by simpa using q2, l, by simpa using q1⟩
    have m2 : (j, a) ∈ ppOf 0 vs args := ppOf_mem.mpr ⟨Nat.zero_le _, by simpa using p2, l', by simpa using p1⟩
    have z := nodup_inj nd _ _ m1 m2 rfl
    cases z
    exact hij rfl
  · obtain ⟨_, q1, l, q2⟩ := ppOf_mem.mp hp
    rw [Nat.sub_zero] at q1 q2
    have hi := (List.getElem?_eq_some_iff.mp q1).1
    refine ⟨l, ?_, ?_⟩
    · rw [List.getElem?_append_left (by omega)]; exact q2
    · unfold L2.start
      rw [List.getElem?_append_left (by rw [List.length_map]; exact hi), List.getElem?_map, q1]
      rfl
theorem Rl.leave {σ : L2.St} {ρ : List S} {np : Nat} (r : Rl K ci H (ppOf 0 vs args) H0 H0' H' σ ρ) (hl : args.length = np) : GrowB ((ppOf 0 vs args).map (·.2)) H0 H H0' H' ∧ OutsR K ci H0' H' (ppOf 0 vs args) (ρ.take np) := by
  refine ⟨⟨r.ext, r.ent, r.sub, r.fresh⟩, fun p hp => ?_⟩
  obtain ⟨_, q1, l0, q2⟩ := ppOf_mem.mp hp
  rw [Nat.sub_zero] at q1 q2
  have hi : p.1 < np := by rw [← hl]; exact (List.getElem?_eq_some_iff.mp q2).1
  obtain ⟨l, e1, e2⟩ := r.par p hp
  have q := r.slot _ _ _ e1 e2
  obtain ⟨a, ws, ev, m1, m2, m3, _⟩ := q
  cases ev
  exact ⟨l, ws, by rw [List.getElem?_take_of_lt hi]; exact e1, m1, m2, m3⟩
end
/-- what a body is given -/
structure Bd (X : L2.Cx) (W : WX) (k : Nat) : Prop where
  tk : L2N.Takes X W
  po : PassesOwn (model X.prog X.w) X.A X.env X.xe
  hr1 : Room (2 * k + 1) X.A
theorem Bd.hr {X : L2.Cx} {W : WX} {k : Nat} (b : Bd X W k) : Room (2 * k) X.A := b.hr1.mono (Nat.le_succ _)
theorem Bd.hu {X : L2.Cx} {W : WX} {k : Nat} (b : Bd X W k) : X.A.units + 64 < cLine := by have := b.hr1.un; omega
/-- of a def, at every level -/
def FnAt (P : Program) (w : World) (K : PySem.W.Frag) (mg : Str → Option Value) (base : Heap) (ci : CI) (T : Nat → Option Fd) (fuel f : Nat) (fa : Addr) (fd : FuncData) (ps : List Str) : Prop :=
  ∀ k, FnOk P w K mg base (L2N.CX P w) (2 * k) fa fd ps (spI K ci ⟨run T fuel k, fuel⟩ ps.length f)
section
variable {P : Program} {w : World} {K : PySem.W.Frag} {mg : Str → Option Value} {base : Heap} {ci : CI} {x qual : Str} {params : Arguments} {body : List Stmt} {scope : Scope} {dvs : List V} {kws : List (Str × V)} {f : Addr} {fd : FuncData}
theorem fn_ok {N ps : List Str} {T : Nat → Option Fd} {fuel g : Nat} {b : St} (F : FunD K x qual params body scope dvs kws f fd) (S : FnScope N ps scope) (hT : T g = some ⟨ps.length, N.length, b⟩)
    (hbody : ∀ (k : Nat) (cdv : Value) (A : Around) (outer : List Env) (s : Shared) (H : Hp) (E : XK), Bd (cxOf (L2N.CX P w) P w K mg base N qual scope f cdv A outer s H E) (fun cls d _ H => E cls d H) k →
      PSs (cxOf (L2N.CX P w) P w K mg base N qual scope f cdv A outer s H E) body (tS K ci (fun cls d _ H => E cls d H) ⟨run T fuel k, fuel⟩ b)) : FnAt P w K mg base ci T fuel g f fd ps := by
  intro k
  cases k with
  | zero =>
    refine ⟨fun vs H Q E h => h.1, fun A outer s H args us vs Q E hr he hb r h => ?_⟩
    obtain ⟨_, _, _, _, _, _, z⟩ := h
    exact z.elim
  | succ k =>
    refine F.ok (k := 2 * k + 1) S (fun vs H Q E h => h.1) fun cdv A outer s H vs Q E hr h => ?_
    have bd : Bd (cxOf (L2N.CX P w) P w K mg base N qual scope f cdv A outer s H E) (fun cls d _ H => E cls d H) k := ⟨L2N.takes_of rfl rfl rfl rfl, passes_of rfl, hr⟩
    refine ⟨_, hbody k cdv A outer s H E bd, ?_⟩
    obtain ⟨hv, H0, args, sm, ha, nd, h⟩ := h
    have hpN : ps.length ≤ N.length := by
      have := congrArg List.length S.pre
      rw [List.length_take] at this
      omega
    have hl : args.length = ps.length := ha.length.symm.trans hv
    have r0 := Rl.enter (N := N) sm ha nd (by rw [hv]; exact hpN)
    refine ⟨H, ppOf 0 vs args, H0, H0, _, r0, ?_⟩
    have h : match finish ps.length (exS ⟨run T fuel k, fuel⟩ b (args ++ List.replicate (N.length - args.length) .non)) with
      | .ok d outs => ∀ v H0' H', GrowB ((ppOf 0 vs args).map (·.2)) H0 H H0' H' → OutsR K ci H0' H' (ppOf 0 vs args) outs → Rep K ci H0' v d → Q v H'
      | .exc c l outs => ∀ H0' H' cls dd, GrowB ((ppOf 0 vs args).map (·.2)) H0 H H0' H' → OutsR K ci H0' H' (ppOf 0 vs args) outs → ExcR K ci H0' c l cls dd → E cls dd H'
      | .bot => False := by
      have h2 := h
      simp only [run, hT] at h2
      exact h2
    revert h
    cases exS ⟨run T fuel k, fuel⟩ b (args ++ List.replicate (N.length - args.length) .non) with
    | nx ρ => exact fun h σ' H0' H' sm' r => let ⟨g, o⟩ := r.leave hl; h .non H0' H' g o .non
    | rt d ρ => exact fun h σ' v H0' H' sm' r rv => let ⟨g, o⟩ := r.leave hl; h v H0' H' g o rv
    | exc c l ρ => exact fun h σ' H0' H' cls d sm' r e => let ⟨g, o⟩ := r.leave hl; h H0' H' cls d g o e
    | bk ρ => exact fun h => h.elim
    | ct ρ => exact fun h => h.elim
    | bot => exact fun h => h.elim
end
end Rf

set_option Elab.async false
set_option linter.all false
set_option maxRecDepth 100000
set_option maxHeartbeats 2000000
/-! RfTac: the rules with their small duties at hand. -/
namespace Rf
open PySem PySem.Spec PyProof.Rows L2

theorem boot_isi : bootBuiltins "isinstance" = some (.builtin "isinstance") := by decide +kernel
theorem boot_ab : bootBuiltins "abs" = some (.builtin "abs") := by decide +kernel
theorem boot_mi : bootBuiltins "min" = some (.builtin "min") := by decide +kernel
theorem boot_ma : bootBuiltins "max" = some (.builtin "max") := by decide +kernel
theorem boot_ty {t : Nat} : bootBuiltins (Str.ofString (tyS t)) = some (.type (tyS t)) := by
  unfold tyS
  split <;> decide +kernel
structure Cal (P : Program) (w : World) (K : PySem.W.Frag) (mg : Str → Option Value) (base : Heap) (ci : CI) (T : Nat → Option Fd) (fuel : Nat) (x : Str) (f : Nat) (ps : List Str) (ar : Arguments) (bo : List Stmt) (sc : Scope) (dvs : List V) : Prop where
  ex : ∃ (fa : Addr) (fd : FuncData), mg x = some (.ref fa) ∧ FunD K x x ar bo sc dvs [] fa fd ∧ FnAt P w K mg base ci T fuel f fa fd ps
section
variable {X : L2.Cx} {ci : CI} {W : WX} {C : Rf.Cx} {a b c e : Expr} {es : List Expr} {ca cb cc : E} {p pos : Pos} {x : Str} {k f fuel : Nat} {T : Nat → Option Fd} {ps ks : List Str} {ar : Arguments} {bo : List Stmt} {sc : Scope} {dvs : List V} {l : As} {ls ms : Es} {perm : List (Nat ⊕ D)} {kws : List Keyword}
theorem pw_pt {t : TT} (h : PW X e t) : PT X e t := ⟨fun pins s σ H Q I q => h.run _ pins s σ H Q I q⟩
theorem tkF : L2N.Takes X (WF : WX) := fun _ _ x => by
  obtain ⟨_, _, _, _, _, _, _, _, _, _, _, _, _, _, _, _, z⟩ := x
  exact z.elim
theorem x_var (i : Nat) (hN : X.N[i]? = some x := by rfl) (hv : Vis X.env.scope x := by first | exact Or.inl rfl | exact Or.inr (Or.inl rfl) | exact Or.inr (Or.inr rfl)) (hd : (x == ("__debug__" : Str)) = false := by decide +kernel)
    (hcd : (x == ("__classdict__" : Str)) = false := by decide +kernel) : PE X (.Name x pos) (tE X.K ci W C (.var i)) := r_var (pe_var hN hv hd hcd)
theorem x_own (i : Nat) (hN : X.N[i]? = some x := by rfl) (hv : Vis X.env.scope x := by first | exact Or.inl rfl | exact Or.inr (Or.inl rfl) | exact Or.inr (Or.inr rfl)) (hd : (x == ("__debug__" : Str)) = false := by decide +kernel)
    (hcd : (x == ("__classdict__" : Str)) = false := by decide +kernel) : PE X (.Name x pos) (tVar i) := pe_var hN hv hd hcd
theorem x_int {i : Int} {j : Nat} : PE X (.Constant (.int i) j pos) (tE X.K ci W C (.cst (.int i))) := r_cst pe_int fun _ => .int i
theorem x_str {i : Str} {j : Nat} : PE X (.Constant (.str i) j pos) (tE X.K ci W C (.cst (.str i))) := r_cst pe_str fun _ => .str i
theorem x_bl {i : Bool} {j : Nat} : PE X (.Constant (.bool i) j pos) (tE X.K ci W C (.cst (.bl i))) := r_cst pe_bl fun _ => .bl i
theorem x_non {j : Nat} : PE X (.Constant .none j pos) (tE X.K ci W C (.cst .non)) := r_cst pe_non fun _ => .non
theorem x_glb {d : D} (h : ∃ v u, X.mg x = some u ∧ RelV v u ∧ ∀ H, Rep X.K ci H v d) (hg : Gl X x := by rfl) (hd : (x == ("__debug__" : Str)) = false := by decide +kernel) : PE X (.Name x pos) (tE X.K ci W C (.cst d)) :=
  let ⟨_, _, hm, rv, hv⟩ := h
  r_cst (pe_glob hg hm rv hd) hv
theorem x_len (hm : X.mg "len" = none) (ha : PE X a (tE X.K ci W C ca)) (hg : Gl X "len" := by rfl) (hs : starEach [a] X.env = (false, eval a X.env) :: starEach [] X.env := by rfl) :
    PE X (.Call (.Name "len" p) [a] [] pos) (tE X.K ci W C (.prim .len (.cons ca .nil))) := r_prim (t := tNil) (pe_callB prim_len hg hm PySem.boot_len (r_cons hs ha r_nil) (hn := by decide +kernel) (hdb := by decide +kernel) (he := hs) (hpl := rfl))
theorem x_abs (hm : X.mg "abs" = none) (ha : PE X a (tE X.K ci W C ca)) (hg : Gl X "abs" := by rfl) (hs : starEach [a] X.env = (false, eval a X.env) :: starEach [] X.env := by rfl) :
    PE X (.Call (.Name "abs" p) [a] [] pos) (tE X.K ci W C (.prim .abs (.cons ca .nil))) := r_prim (t := tNil) (pe_callB prim_abs hg hm boot_ab (r_cons hs ha r_nil) (hn := by decide +kernel) (hdb := by decide +kernel) (he := hs) (hpl := rfl))
theorem x_int1 (hm : X.mg "int" = none) (ha : PE X a (tE X.K ci W C ca)) (hg : Gl X "int" := by rfl) (hs : starEach [a] X.env = (false, eval a X.env) :: starEach [] X.env := by rfl) :
    PE X (.Call (.Name "int" p) [a] [] pos) (tE X.K ci W C (.prim .int (.cons ca .nil))) := r_prim (t := tNil) (pe_callTy prim_int hg hm (boot_ty (t := 0)) (r_cons hs ha r_nil) (hn := by decide +kernel) (hdb := by decide +kernel) (he := hs) (hpl := rfl))
theorem x_str1 (hm : X.mg "str" = none) (ha : PE X a (tE X.K ci W C ca)) (hg : Gl X "str" := by rfl) (hs : starEach [a] X.env = (false, eval a X.env) :: starEach [] X.env := by rfl) :
    PE X (.Call (.Name "str" p) [a] [] pos) (tE X.K ci W C (.prim .str (.cons ca .nil))) := r_prim (t := tNil) (pe_callTy prim_str hg hm (boot_ty (t := 4)) (r_cons hs ha r_nil) (hn := by decide +kernel) (hdb := by decide +kernel) (he := hs) (hpl := rfl))
theorem x_list (hm : X.mg "list" = none) (ha : PE X a (tE X.K ci W C ca)) (hg : Gl X "list" := by rfl) (hs : starEach [a] X.env = (false, eval a X.env) :: starEach [] X.env := by rfl) :
    PE X (.Call (.Name "list" p) [a] [] pos) (tE X.K ci W C (.prim .list (.cons ca .nil))) := r_prim (t := tNil) (pe_callTy prim_list hg hm (boot_ty (t := 3)) (r_cons hs ha r_nil) (hn := by decide +kernel) (hdb := by decide +kernel) (he := hs) (hpl := rfl))
theorem x_min (hc : X.calm = true) (hm : X.mg "min" = none) (ha : PE X a (tE X.K ci W C ca)) (hb : PE X b (tE X.K ci W C cb)) (hg : Gl X "min" := by rfl) (hs : starEach [a, b] X.env = (false, eval a X.env) :: starEach [b] X.env := by rfl)
    (hs2 : starEach [b] X.env = (false, eval b X.env) :: starEach [] X.env := by rfl) (hpl : (backTo pos (starEach [b] X.env)).any (·.1) = false := by rfl) :
    PE X (.Call (.Name "min" p) [a, b] [] pos) (tE X.K ci W C (.prim .min2 (.cons ca (.cons cb .nil)))) := r_prim (t := tNil) (pe_callB (prim_min hc) hg hm boot_mi (r_cons hs ha (r_cons hs2 hb r_nil)) (hn := by decide +kernel) (hdb := by decide +kernel) (he := hs) (hpl := hpl))
theorem x_max (hc : X.calm = true) (hm : X.mg "max" = none) (ha : PE X a (tE X.K ci W C ca)) (hb : PE X b (tE X.K ci W C cb)) (hg : Gl X "max" := by rfl) (hs : starEach [a, b] X.env = (false, eval a X.env) :: starEach [b] X.env := by rfl)
    (hs2 : starEach [b] X.env = (false, eval b X.env) :: starEach [] X.env := by rfl) (hpl : (backTo pos (starEach [b] X.env)).any (·.1) = false := by rfl) :
    PE X (.Call (.Name "max" p) [a, b] [] pos) (tE X.K ci W C (.prim .max2 (.cons ca (.cons cb .nil)))) := r_prim (t := tNil) (pe_callB (prim_max hc) hg hm boot_ma (r_cons hs ha (r_cons hs2 hb r_nil)) (hn := by decide +kernel) (hdb := by decide +kernel) (he := hs) (hpl := hpl))
theorem x_isa (t : Nat) {y : Str} {py : Pos} (hy : Str.ofString (tyS t) = y) (hm : X.mg "isinstance" = none) (hmy : X.mg y = none) (ha : PE X a (tE X.K ci W C ca)) (hg : Gl X "isinstance" := by rfl) (hgy : Gl X y := by rfl) (hs : starEach [a, .Name y py] X.env = (false, eval a X.env) :: starEach [.Name y py] X.env := by rfl)
    (hn : y ≠ "__name__" := by decide +kernel) (hdb : (y == ("__debug__" : Str)) = false := by decide +kernel) :
    PE X (.Call (.Name "isinstance" p) [a, .Name y py] [] pos) (tE X.K ci W C (.prim (.isa t) (.cons ca .nil))) :=
  r_isa (y := .Name y py) (pe_bltn (v := .ty (tyS t)) (u := .type (tyS t)) hgy hmy (by rw [← hy]; exact boot_ty) rfl hn hdb) ha (fun u hu => pe_callB prim_isa hg hm boot_isi hu (hn := by decide +kernel) (hdb := by decide +kernel) (he := hs) (hpl := rfl)) hs rfl
theorem boot_al : bootBuiltins "all" = some (.builtin "all") := by decide +kernel
theorem x_all (hc : X.calm = true) (hm : X.mg "all" = none) (ha : PE X a (tE X.K ci W C ca)) (hg : Gl X "all" := by rfl) (hs : starEach [a] X.env = (false, eval a X.env) :: starEach [] X.env := by rfl) :
    PE X (.Call (.Name "all" p) [a] [] pos) (tE X.K ci W C (.prim .all (.cons ca .nil))) := r_prim (t := tNil) (pe_callB (prim_all hc) hg hm boot_al (r_cons hs ha r_nil) (hn := by decide +kernel) (hdb := by decide +kernel) (he := hs) (hpl := rfl))
theorem ptsImp {es : List Expr} {t t' : TT} (h : PTs X es t) (w : ∀ σ H Q, t' σ H Q → t σ H Q) : PTs X es t' := ⟨fun pins s σ H Q I q => h.run pins s σ H Q I (w σ H Q q)⟩
theorem r_pts0 : PTs X [] (tT X.K ci W C (.cst (.bl true))) := ptsImp pts_nil fun σ H Q ⟨He, Pp, H0e, H0, ρ, r, out⟩ => by
  obtain ⟨b, e, q⟩ := out H0 H (.refl _) r
  cases e
  exact q
theorem r_pts1 {c : Expr} (h : PT X c (tT X.K ci W C cc)) : PTs X [c] (tT X.K ci W C cc) := pts_one h
theorem x_bits {apos : Pos} (ha : PE X a (tE X.K ci W C ca)) (hbase : attributeBase a "bit_length" X.env (eval a X.env) = eval a X.env := by rfl) (hline : (apos.endLine == pos.line) = true := by rfl) :
    PE X (.Call (.Attribute a "bit_length" apos) [] [] pos) (tE X.K ci W C (.prim .bits (.cons ca .nil))) := r_bits (pe_bits ha hbase hline)
theorem x_call (c : Cal X.prog X.w X.K X.mg X.base ci T fuel x f ps ar bo sc dvs) (hr : Room (2 * k) X.A) (tk : L2N.Takes X W) (hb : ∀ fa fd, FunD X.K x x ar bo sc dvs [] fa fd → Bnd X.K ci fd ps l.len [] perm)
    (ha : PA X (e :: es) (tAs X.K ci W ⟨run T fuel k, fuel⟩ l)) (hg : Gl X x := by rfl) (he : starEach (e :: es) X.env = (false, eval e X.env) :: starEach es X.env := by rfl) (hpl : (backTo pos (starEach es X.env)).any (·.1) = false := by rfl)
    (hdb : (x == ("__debug__" : Str)) = false := by decide +kernel) : PE X (.Call (.Name x p) (e :: es) [] pos) (tE X.K ci W ⟨run T fuel k, fuel⟩ (.call f perm l)) := by
  obtain ⟨fa, fd, hm, F, A⟩ := c.ex
  exact r_call (A k) hr tk hg hm F.kp (hb fa fd F) ha he hpl hdb
theorem x_call0 (c : Cal X.prog X.w X.K X.mg X.base ci T fuel x f ps ar bo sc dvs) (hr : Room (2 * k) X.A) (tk : L2N.Takes X W) (hb : ∀ fa fd, FunD X.K x x ar bo sc dvs [] fa fd → Bnd X.K ci fd ps 0 [] perm) (hg : Gl X x := by rfl)
    (hdb : (x == ("__debug__" : Str)) = false := by decide +kernel) : PE X (.Call (.Name x p) [] [] pos) (tE X.K ci W ⟨run T fuel k, fuel⟩ (.call f perm .nil)) := by
  obtain ⟨fa, fd, hm, F, A⟩ := c.ex
  exact r_call0 (A k) hr tk hg hm F.kp (hb fa fd F) hdb
theorem x_callk (c : Cal X.prog X.w X.K X.mg X.base ci T fuel x f ps ar bo sc dvs) (hr : Room (2 * k) X.A) (tk : L2N.Takes X W) (hb : ∀ fa fd, FunD X.K x x ar bo sc dvs [] fa fd → Bnd X.K ci fd ps ls.len ks perm)
    (ha : PA X (e :: es) (tEs X.K ci W ⟨run T fuel k, fuel⟩ ls)) (hkw : PK X kws (tEs X.K ci W ⟨run T fuel k, fuel⟩ ms)) (hms : ms.len = ks.length := by rfl) (hg : Gl X x := by rfl) (he : starEach (e :: es) X.env = (false, eval e X.env) :: starEach es X.env := by rfl)
    (hall : (backToKw pos (keywordEach kws X.env)).all (·.1.isSome) = true := by rfl) (hks : (backToKw pos (keywordEach kws X.env)).filterMap (·.1) = ks := by rfl)
    (hpl : ((backTo pos (starEach (e :: es) X.env)).any (·.1) || (backToKw pos (keywordEach kws X.env)).any (·.1.isNone)) = false := by rfl)
    (hdb : (x == ("__debug__" : Str)) = false := by decide +kernel) : PE X (.Call (.Name x p) (e :: es) kws pos) (tE X.K ci W ⟨run T fuel k, fuel⟩ (.callk f perm ls ms)) := by
  obtain ⟨fa, fd, hm, F, A⟩ := c.ex
  exact r_callk (A k) hr tk hg hm F.kp (hb fa fd F) hms ha hkw hall hks he hpl hdb
theorem x_callk0 (c : Cal X.prog X.w X.K X.mg X.base ci T fuel x f ps ar bo sc dvs) (hr : Room (2 * k) X.A) (tk : L2N.Takes X W) (hb : ∀ fa fd, FunD X.K x x ar bo sc dvs [] fa fd → Bnd X.K ci fd ps 0 ks perm)
    (hkw : PK X kws (tEs X.K ci W ⟨run T fuel k, fuel⟩ ms)) (hms : ms.len = ks.length := by rfl) (hg : Gl X x := by rfl)
    (hall : (backToKw pos (keywordEach kws X.env)).all (·.1.isSome) = true := by rfl) (hks : (backToKw pos (keywordEach kws X.env)).filterMap (·.1) = ks := by rfl)
    (hpl : ((backTo pos (starEach [] X.env)).any (·.1) || (backToKw pos (keywordEach kws X.env)).any (·.1.isNone)) = false := by rfl)
    (hdb : (x == ("__debug__" : Str)) = false := by decide +kernel) : PE X (.Call (.Name x p) [] kws pos) (tE X.K ci W ⟨run T fuel k, fuel⟩ (.callk f perm .nil ms)) := by
  obtain ⟨fa, fd, hm, F, A⟩ := c.ex
  exact r_callk0 (A k) hr tk hg hm F.kp (hb fa fd F) hms hkw hall hks hpl hdb
end
/-! ### odds and ends -/
theorem reps_ints {K : PySem.W.Frag} {ci : CI} {H : Hp} : ∀ ns : List Int, Reps K ci H (ns.map V.int) (ns.map D.int)
  | [] => .nil
  | i :: ns => .cons (.int i) (reps_ints ns)
/-! ### how arguments come to parameters -/
def permIx : List (Nat ⊕ D) → List Nat
  | [] => []
  | .inl i :: p => i :: permIx p
  | .inr _ :: p => permIx p
def DvOk (K : PySem.W.Frag) (ci : CI) : List (Nat ⊕ D) → List V → Prop
  | [], [] => True
  | .inl _ :: p, _ :: v => DvOk K ci p v
  | .inr d :: p, u :: v => (∀ H, Rep K ci H u d) ∧ DvOk K ci p v
  | _, _ => False
theorem permIx_mem : ∀ {p : List (Nat ⊕ D)} {j i : Nat}, p[j]? = some (.inl i) → i ∈ permIx p
  | [], _, _, h => by simp at h
  | .inl a :: p, 0, i, h => by simp at h; subst h; exact List.mem_cons_self
  | .inl a :: p, j + 1, i, h => List.mem_cons_of_mem _ (permIx_mem (p := p) (j := j) (by simpa using h))
  | .inr _ :: p, 0, i, h => by simp at h
  | .inr _ :: p, j + 1, i, h => permIx_mem (p := p) (j := j) (by simpa using h)
theorem permIx_inj : ∀ {p : List (Nat ⊕ D)} {j k i : Nat}, (permIx p).Nodup → p[j]? = some (.inl i) → p[k]? = some (.inl i) → j = k
  | [], _, _, _, _, h, _ => by simp at h
  | .inl a :: p, 0, 0, i, _, _, _ => rfl
  | .inl a :: p, 0, k + 1, i, nd, h1, h2 => by
    simp at h1; subst h1
    exact absurd (permIx_mem (p := p) (j := k) (by simpa using h2)) (List.nodup_cons.mp nd).1
  | .inl a :: p, j + 1, 0, i, nd, h1, h2 => by
    simp at h2; subst h2
    exact absurd (permIx_mem (p := p) (j := j) (by simpa using h1)) (List.nodup_cons.mp nd).1
  | .inl a :: p, j + 1, k + 1, i, nd, h1, h2 => congrArg Nat.succ (permIx_inj (p := p) (List.nodup_cons.mp nd).2 (by simpa using h1) (by simpa using h2))
  | .inr _ :: p, 0, _, i, _, h1, _ => by simp at h1
  | .inr _ :: p, j + 1, 0, i, _, _, h2 => by simp at h2
  | .inr _ :: p, j + 1, k + 1, i, nd, h1, h2 => congrArg Nat.succ (permIx_inj (p := p) nd (by simpa using h1) (by simpa using h2))
theorem dvOk_len {K : PySem.W.Frag} {ci : CI} : ∀ {p : List (Nat ⊕ D)} {dv : List V}, DvOk K ci p dv → dv.length = p.length
  | [], [], _ => rfl
  | .inl _ :: p, _ :: v, h => congrArg Nat.succ (dvOk_len (p := p) h)
  | .inr _ :: p, _ :: v, h => congrArg Nat.succ (dvOk_len (p := p) h.2)
  | [], _ :: _, h => h.elim
  | .inl _ :: _, [], h => h.elim
  | .inr _ :: _, [], h => h.elim
theorem dvOk_get {K : PySem.W.Frag} {ci : CI} : ∀ {p : List (Nat ⊕ D)} {dv : List V} {j : Nat} {d : D}, DvOk K ci p dv → p[j]? = some (.inr d) → ∃ v, dv[j]? = some v ∧ ∀ H, Rep K ci H v d
  | [], [], j, d, _, h => by simp at h
  | .inl _ :: p, _ :: v, 0, d, _, h => by simp at h
  | .inl _ :: p, _ :: v, j + 1, d, o, h => by simpa using dvOk_get (p := p) (j := j) o (by simpa using h)
  | .inr _ :: p, u :: v, 0, d, o, h => by simp at h; subst h; exact ⟨u, rfl, o.1⟩
  | .inr _ :: p, _ :: v, j + 1, d, o, h => by simpa using dvOk_get (p := p) (j := j) o.2 (by simpa using h)
  | [], _ :: _, _, _, o, _ => o.elim
  | .inl _ :: _, [], _, _, o, _ => o.elim
  | .inr _ :: _, [], _, _, o, _ => o.elim
theorem permOk_of {K : PySem.W.Frag} {ci : CI} {p : List (Nat ⊕ D)} {m : Nat} {dv : List V} (h1 : ∀ i ∈ permIx p, i < m) (h2 : (permIx p).Nodup) (h3 : DvOk K ci p dv) : PermOk K ci p m dv :=
  ⟨dvOk_len h3, fun j i h => h1 i (permIx_mem h), fun j k i e1 e2 => permIx_inj h2 e1 e2, fun j d h => dvOk_get h3 h⟩
end Rf

set_option Elab.async false
set_option linter.all false
set_option maxRecDepth 100000
set_option maxHeartbeats 2000000
/-! RfCls: own classes: fields, isinstance, new instances, methods. -/
namespace Rf
open PySem PySem.Spec PyProof.Rows L2

structure ClsOk (K : PySem.W.Frag) (mg : Str → Option Value) (ci : CI) (x : Str) (c : Nat) (nm : List Str) : Prop where
  nmE : ci.nm c = nm
  nd : nm.Nodup
  mg : mg x = some (.ref (ci.ad c))
  cls : Cls K (ci.ad c)
  no : ∀ n ∈ nm, NoAttr K (ci.ad c) n
  ha : PySem.W.findIn K (.ref (ci.ad c)) "__class__" = some (some (.builtin "object.__class__"))
  hn : PySem.W.specialIn K (.builtin "object.__class__") "__get__" = some (some (.builtin "getset_descriptor.__get__"))
  ht : PySem.W.takesIn K (.builtin "object.__class__") = some true
  hm : PySem.W.mroIn K (ci.ad c) (.type "object") = some true
  self : PySem.W.kitOne K (.ref (ci.ad c)) (.ref (ci.ad c)) = some true
  oth : ∀ d : D, (∀ q l, d ≠ .ins q l) → PySem.W.kitOne K (.type (tyD d)) (.ref (ci.ad c)) = some false
theorem lookup_at : ∀ {fs : List (Str × V)} {i : Nat} {f : Str} {v : V}, (fs.map (·.1)).Nodup → (fs.map (·.1))[i]? = some f → (fs.map (·.2))[i]? = some v → fs.lookup f = some v
  | [], _, _, _, _, h, _ => by simp at h
  | (g, w) :: fs, 0, f, v, nd, h1, h2 => by
    simp at h1 h2
    subst h1; subst h2
    simp [List.lookup]
  | (g, w) :: fs, i + 1, f, v, nd, h1, h2 => by
    rw [List.map_cons, List.nodup_cons] at nd
    have h1' : (fs.map (·.1))[i]? = some f := by simpa using h1
    have h2' : (fs.map (·.2))[i]? = some v := by simpa using h2
    have hm : f ∈ fs.map (·.1) := List.mem_of_getElem? h1'
    have hne : (f == g) = false := by
      rw [beq_eq_false_iff_ne]
      intro z
      subst z
      exact nd.1 hm
    have ih := lookup_at nd.2 h1' h2'
    show (match f == g with
      | true => some w
      | false => fs.lookup f) = some v
    rw [hne]
    exact ih
section
variable {X : L2.Cx} {ci : CI} {W : WX} {C : Rf.Cx} {a e : Expr} {es : List Expr} {ca co : E} {p pos : Pos} {x f : Str} {c i n k fuel g : Nat} {nm : List Str} {l : As} {ls : Es}
theorem r_fld (hx : ClsOk X.K X.mg ci x c nm) (hf : nm[i]? = some f) (ha : PE X a (tE X.K ci W C ca)) (hb : attributeBase a f X.env (eval a X.env) = eval a X.env := by rfl) : PE X (.Attribute a f pos) (tE X.K ci W C (.prim (.fld c i) (.cons ca .nil))) :=
  peImp (pe_fld ha hb) fun σ H Q ⟨He, Pp, H0e, H0, ρ, r, out⟩ => by
    have out2 := out
    rw [ev1] at out2
    refine ⟨He, Pp, H0e, H0, ρ, r, Out.imp (fun y h0 h1 ρ1 _ _ ⟨r1, o1⟩ v hv => ?_) (Out.bind out2)⟩
    obtain ⟨z, e, o3⟩ := Out.of o1
    change pFld c i [y] = some z at e
    unfold pFld at e
    split at e
    · rename_i c' ds q
      cases q
      split at e
      · rename_i hc
        subst hc
        cases hv with
        | ins s hn rr =>
          rename_i b dx fs
          obtain ⟨w, h2, h3⟩ := rr.get e
          have hnm := hn.trans hx.nmE
          exact ⟨b, _, dx, fs, w, rfl, r1.sub _ _ s, hx.cls, hx.no f (List.mem_of_getElem? hf), lookup_at (by rw [hnm]; exact hx.nd) (by rw [hnm]; exact hf) h2, o3 h0 h1 (.refl _) r1 w h3⟩
      · cases e
    · cases e
def rIsc (K : PySem.W.Frag) (ci : CI) (c : Nat) : List V → Hp → VK → Prop := fun xs H Q => ∃ H0 y d z, xs = [y, .ref (ci.ad c)] ∧ Same H0 H ∧ Rep K ci H0 y d ∧ pIsc c [d] = some z ∧ Post K ci H0 H z Q
theorem prim_isc (hx : ClsOk X.K X.mg ci x c nm) : CallR X (.builtin "isinstance") (rIsc X.K ci c) := callImp call_isi fun xs H Q ⟨H0, y, d, z, ex, sm, r, e, q⟩ => by
  subst ex
  have other : (∀ q l, d ≠ .ins q l) → z = .bl false → ∃ (x c_1 : V) (t u : Value) (b : Bool), [y, V.ref (ci.ad c)] = [x, c_1] ∧ ClsV c_1 u ∧ TyX X.K H x t ∧ PySem.W.kitOne X.K t u = some b ∧ Q (.bl b) H := fun hd hz => by
    subst hz
    exact ⟨y, _, _, _, false, rfl, .own _, rep_tyx (r.mono sm) hd, hx.oth d hd, q.here sm (.bl _)⟩
  unfold pIsc at e
  split at e
  · rename_i c' ds q0
    cases q0
    split at e
    · rename_i hc
      subst hc
      cases e
      cases r with
      | ins s hn rr => exact ⟨_, _, _, _, true, rfl, .own _, .base (.ins (sm _ _ s) hx.cls hx.ha hx.hn hx.ht hx.hm), hx.self, q.here sm (.bl _)⟩
    · cases e
  · rename_i q0; cases q0; cases e; exact other (fun _ _ z => by cases z) rfl
  · rename_i q0; cases q0; cases e; exact other (fun _ _ z => by cases z) rfl
  · rename_i q0; cases q0; cases e; exact other (fun _ _ z => by cases z) rfl
  · rename_i q0; cases q0; cases e; exact other (fun _ _ z => by cases z) rfl
  · rename_i q0; cases q0; cases e; exact other (fun _ _ z => by cases z) rfl
  · rename_i q0; cases q0; cases e; exact other (fun _ _ z => by cases z) rfl
  · cases e
theorem x_isc {py : Pos} (hx : ClsOk X.K X.mg ci x c nm) (hm : X.mg "isinstance" = none) (ha : PE X a (tE X.K ci W C ca)) (hg : Gl X "isinstance" := by rfl) (hgy : Gl X x := by rfl) (hs : starEach [a, .Name x py] X.env = (false, eval a X.env) :: starEach [.Name x py] X.env := by rfl)
    (hdb : (x == ("__debug__" : Str)) = false := by decide +kernel) : PE X (.Call (.Name "isinstance" p) [a, .Name x py] [] pos) (tE X.K ci W C (.prim (.isc c) (.cons ca .nil))) :=
  peImp (pe_callB (prim_isc hx) hg hm boot_isi (pa_cons ha (pa_cons (pe_glob (v := .ref (ci.ad c)) hgy hx.mg rfl hdb) pa_nil rfl) hs) (hn := by decide +kernel) (hdb := by decide +kernel) (he := hs) (hpl := rfl)) fun σ H Q ⟨He, Pp, H0e, H0, ρ, r, out⟩ => by
    have out2 := out
    rw [ev1] at out2
    refine ⟨He, Pp, H0e, H0, ρ, r, Out.imp (fun y h0 h1 ρ1 _ _ ⟨r1, o1⟩ v hv => ?_) (Out.bind out2)⟩
    obtain ⟨z, e, o3⟩ := Out.of o1
    exact ⟨h0, v, y, z, rfl, r1.sub, hv, e, Out.post o3 r1⟩
theorem cut_from (xs : List V) (n : Nat) : cutV xs (some (n : Int)) none = xs.drop n := by
  unfold cutV
  rw [HT.sIx_nat, HT.sIx_none]
  by_cases h : n ≤ xs.length
  · rw [Nat.min_eq_left h]
    exact List.take_of_length_le (by rw [List.length_drop]; exact Nat.le_refl _)
  · rw [Nat.min_eq_right (by omega), List.drop_eq_nil_of_le (Nat.le_refl xs.length), List.drop_eq_nil_of_le (by omega), List.take_nil]
theorem Reps.drop {K : PySem.W.Frag} {H : Hp} : ∀ {vs : List V} {ds : List D} (n : Nat), Reps K ci H vs ds → Reps K ci H (vs.drop n) (ds.drop n)
  | _, _, 0, r => r
  | _, _, _ + 1, .nil => .nil
  | _, _, n + 1, .cons _ t => Reps.drop n t
/-- e[n:] -/
theorem r_drop {j : Nat} {p1 p2 : Pos} (ha : PE X a (tE X.K ci W C ca)) : PE X (.Subscript a (.Slice (some (.Constant (.int (n : Int)) j p1)) none none p2) pos) (tE X.K ci W C (.prim (.drop n) (.cons ca .nil))) :=
  peImp (pe_slice sl_list ha (po_some pe_int) po_none) fun σ H Q ⟨He, Pp, H0e, H0, ρ, r, out⟩ => by
    have out2 := out
    rw [ev1] at out2
    refine ⟨He, Pp, H0e, H0, ρ, r, Out.imp (fun y h0 h1 ρ1 _ _ ⟨r1, o1⟩ v hv => ?_) (Out.bind out2)⟩
    obtain ⟨z, e, o3⟩ := Out.of o1
    change pDrop n [y] = some z at e
    unfold pDrop at e
    split at e
    · rename_i l q
      cases q
      cases e
      cases hv with
      | lst s rr =>
        refine ⟨(n : Int), rfl, _, _, rfl, .of (r1.sub _ _ s), fun pl hp => ?_⟩
        rw [cut_from]
        exact (Out.post o3 r1).new r1.sub hp (.lst upd_same ((Reps.drop n rr).mono (same_upd (same_none r1.sub hp))))
    · cases e
/-! ### new instances -/
def spNew (K : PySem.W.Frag) (ci : CI) (C : Rf.Cx) (c f n : Nat) : Sp := fun vs H Q E => vs.length = n + 1 ∧ ∃ x us dx H1 H0 ds, vs = .ref x :: us ∧ H1 x = none ∧ H1 dx = none ∧ dx ≠ x ∧ H = upd (upd H1 dx (.own x)) x (.ins (ci.ad c) dx []) ∧ Same H0 H1 ∧ Reps K ci H0 us ds ∧
  (∃ outs, C.call f (.non :: ds.map .val) = .ok .non outs) ∧ ∀ H0' H', Grow H0 H1 H0' H' → Rep K ci H0' (.ref x) (.ins c ds) → Q .non H'
def FnNew (P : Program) (w : World) (K : PySem.W.Frag) (mg : Str → Option Value) (base : Heap) (ci : CI) (T : Nat → Option Fd) (fuel c f n : Nat) (fa : Addr) (fd : FuncData) (ps : List Str) : Prop :=
  ∀ k, FnOk P w K mg base (L2N.CX P w) (2 * k) fa fd ps (spNew K ci ⟨run T fuel k, fuel⟩ c f n)
structure MkC (P : Program) (w : World) (K : PySem.W.Frag) (mg : Str → Option Value) (base : Heap) (ci : CI) (T : Nat → Option Fd) (fuel c f n : Nat) (ps : List Str) : Prop where
  ex : ∃ (fa : Addr) (fd : FuncData), Mk K (ci.ad c) fa ∧ Binds K fd ps [] ∧ FnNew P w K mg base ci T fuel c f n fa fd ps
theorem passN {X : L2.Cx} : Passes (L2N.CX X.prog X.w) X E0 := fun _ _ _ _ _ _ _ h => by
  obtain ⟨_, _, _, _, _, _, _, _, _, _, _, _, z⟩ := h
  exact z.elim
theorem x_make {T : Nat → Option Fd} {ps : List Str} (hx : ClsOk X.K X.mg ci x c nm) (m : MkC X.prog X.w X.K X.mg X.base ci T fuel c g n ps) (hr : Room (2 * k + 1) X.A) (hn : ls.len = n) (ha : PA X (e :: es) (tEs X.K ci W ⟨run T fuel k, fuel⟩ ls)) (hg : Gl X x := by rfl)
    (he : starEach (e :: es) X.env = (false, eval e X.env) :: starEach es X.env := by rfl) (hpl : (backTo pos (starEach es X.env)).any (·.1) = false := by rfl) (hdb : (x == ("__debug__" : Str)) = false := by decide +kernel) :
    PE X (.Call (.Name x p) (e :: es) [] pos) (tE X.K ci W ⟨run T fuel k, fuel⟩ (.make c g ls)) := by
  obtain ⟨fa, fd, M, hb, F⟩ := m.ex
  refine peImp (pe_make M (F k) hr hg hx.mg hb .nil passN ha hdb he hpl) fun σ H Q ⟨He, Pp, H0e, H0, ρ, r, out⟩ => ?_
  unfold evE at out
  refine ⟨He, Pp, H0e, H0, ρ, r, ?_⟩
  have o2 := Out.bind out
  cases q : evEs (⟨run T fuel k, fuel⟩ : Rf.Cx) ls ρ with
  | exc c l ρ1 => rw [q] at o2; exact o2
  | bot => rw [q] at o2; exact o2
  | ok ds ρ1 =>
    rw [q] at o2
    intro h0 h1 sm r1 us ru
    obtain ⟨_, o3⟩ := o2 h0 h1 sm r1
    intro y dx hy hdx hne
    have el := evEs_len q
    rw [List.append_nil]
    refine ⟨by rw [List.length_cons, ru.length, el, hn], y, us, dx, h1, h0, ds, rfl, hy, hdx, hne, rfl, r1.sub, ru, ?_⟩
    cases q2 : (⟨run T fuel k, fuel⟩ : Rf.Cx).call g (.non :: ds.map .val) with
    | exc c l o => rw [q2] at o3; exact o3.elim
    | bot => rw [q2] at o3; exact o3.elim
    | ok d o =>
      rw [q2] at o3
      cases d with
      | non => exact ⟨⟨o, rfl⟩, fun H0' H' g2 rv => ⟨rfl, o3 H0' H' g2.a (r1.grow g2) _ rv⟩⟩
      | _ => exact o3.elim
/-! ### methods -/
structure MeC (P : Program) (w : World) (K : PySem.W.Frag) (mg : Str → Option Value) (base : Heap) (ci : CI) (T : Nat → Option Fd) (fuel c f : Nat) (m : Str) (ps : List Str) (ar : Arguments) (bo : List Stmt) (sc : Scope) (qual : Str) (dvs : List V) : Prop where
  ex : ∃ (fa : Addr) (fd : FuncData), Meth K (ci.ad c) m fa ∧ FunD K m qual ar bo sc dvs [] fa fd ∧ FnAt P w K mg base ci T fuel f fa fd ps
theorem lookup_none : ∀ {fs : List (Str × V)} {f : Str}, f ∉ fs.map (·.1) → fs.lookup f = none
  | [], _, _ => rfl
  | (g, w) :: fs, f, h => by
    rw [List.map_cons, List.mem_cons, not_or] at h
    show (match f == g with
      | true => some w
      | false => fs.lookup f) = none
    rw [beq_eq_false_iff_ne.mpr h.1]
    exact lookup_none h.2
theorem x_meth {T : Nat → Option Fd} {m : Str} {ps : List Str} {ar : Arguments} {bo : List Stmt} {sc : Scope} {qual : Str} {dvs : List V} {perm : List (Nat ⊕ D)} {o : Expr} {apos : Pos} {pl : Sem Bool} (hx : ClsOk X.K X.mg ci x c nm) (me : MeC X.prog X.w X.K X.mg X.base ci T fuel c g m ps ar bo sc qual dvs) (hr : Room (2 * k) X.A) (tk : L2N.Takes X W)
    (hmn : m ∉ nm) (hb : ∀ fa fd, FunD X.K m qual ar bo sc dvs [] fa fd → Bnd X.K ci fd ps (l.len + 1) [] perm) (ho : PE X o (tE X.K ci W ⟨run T fuel k, fuel⟩ co)) (ha : PA X (e :: es) (tAs X.K ci W ⟨run T fuel k, fuel⟩ l))
    (hst : starEach (e :: es) X.env = (false, eval e X.env) :: starEach es X.env := by rfl) (hpl : (backTo pos (starEach es X.env)).any (·.1) = false := by rfl)
    (ht : eval (.Call (.Attribute o m apos) (e :: es) [] pos) X.env = (do
      let ov ← eval o X.env
      standAt apos.atName
      let (f, first) ← holding [ov] (getMethod ov m pl)
      callWith pos f first (backTo pos (starEach (e :: es) X.env)) (backToKw pos (keywordEach [] X.env))) := by rfl) :
    PE X (.Call (.Attribute o m apos) (e :: es) [] pos) (tE X.K ci W ⟨run T fuel k, fuel⟩ (.meth c g perm co l)) := by
  obtain ⟨fa, fd, M, FD, A⟩ := me.ex
  obtain ⟨dv, du, rd, po, hps, hbi⟩ := (hb fa fd FD).ex
  refine ⟨fun pins s σ H Q I ⟨He, Pp, H0e, H0, ρ, r, out⟩ => ?_⟩
  unfold evE at out
  refine PySem.W.methodCall_KW (pl := pl) (thn (ho.run pins s σ H (fun v H1 => ∃ b dx fs, v = .ref b ∧ H1 b = some (.ins (ci.ad c) dx fs) ∧ fs.lookup m = none ∧ tAs X.K ci W ⟨run T fuel k, fuel⟩ l σ H1 fun us H'' => us.length = l.len ∧ spI X.K ci ⟨run T fuel k, fuel⟩ perm.length g (permG perm dv (.ref b :: us)) H'' Q (fun cls d H' => W cls d σ H')) I ?_) fun u s1 ⟨v, H1, I1, rx, b, dx, fs, ev, eb, lk, hq⟩ => ?_) ht
  · refine ⟨He, Pp, H0e, H0, ρ, r, Out.imp (fun y h0 h1 ρ1 _ _ ⟨r1, o1⟩ v hv => ?_) (Out.bind out)⟩
    split at o1
    · rename_i c' ds _
      split at o1
      · rename_i hc
        subst hc
        cases hv with
        | ins s0 hnm rr =>
          rename_i b dx fs
          refine ⟨b, dx, fs, rfl, r1.sub _ _ s0, lookup_none (by rw [hnm, hx.nmE]; exact hmn), He, Pp, H0e, h0, ρ1, r1, ?_⟩
          have o2 := Out.bind o1
          cases q : evAs (⟨run T fuel k, fuel⟩ : Rf.Cx) l ρ1 with
          | exc c l ρ1 => rw [q] at o2; exact o2
          | bot => rw [q] at o2; exact o2
          | ok vs ρ2 =>
            rw [q] at o2
            intro k0 k1 sm r2 us H'' av
            obtain ⟨_, o3⟩ := o2 k0 k1 sm r2
            have e1 := evAs_len q
            have ow := evAs_owns q
            refine ⟨av.length.trans e1, call_core (vs := .val (.ins _ ds) :: vs) (ρ := ρ2) r2 (.val ((Rep.ins s0 hnm rr).mono sm) av) ⟨fun i hi => ?_, fun i j kk h1 h2 => ?_⟩ (by rw [List.length_cons, e1]; exact po) o3⟩
            · rcases List.mem_cons.mp hi with z | z
              · cases z
              · exact ow.1 i z
            · cases i with
              | zero => simp at h1
              | succ i =>
                cases j with
                | zero => simp at h2
                | succ j => exact congrArg Nat.succ (ow.2 i j kk (by simpa using h1) (by simpa using h2))
      · exact o1.elim
    · exact o1.elim
  · subst ev
    obtain rfl : u = Value.ref b := rx
    refine getmeth_ok I1 eb hx.cls M lk ?_
    refine PySem.W.callWith_K (first := [.ref b]) (h₀ := X.base) I.ok.mod.kin M.kp (thn (ha.run pos pins s1 σ H1 _ I1 hq) fun us s2 ⟨vs, H2, I2, r2, hl, q2⟩ => ⟨I2.kIn, ?_⟩) hst hpl
    have hb1 := hbi s2 (.ref b :: us) [] I2.kIn (by rw [List.length_cons, ← r2.length, hl]) rfl
    rw [List.append_nil] at hb1
    rw [← hps] at q2
    have rv : Vals (V.ref b :: vs) (Value.ref b :: us) := .cons rfl r2
    exact run_sp (args := ⟨.ref b :: us, []⟩) (A k) hr tk I2 (permG_vals rd rv) hb1 q2
end
end Rf

set_option Elab.async false
set_option linter.all false
set_option maxRecDepth 100000
set_option maxHeartbeats 2000000
/-! RfNew: an __init__ that looks at its arguments, then keeps them. -/
namespace Rf
open PySem PySem.Spec PyProof.Rows L2

/-- the looks -/
def bInit : List E → Rf.St
  | [] => .skip
  | c :: cs => .seq (.ite c (.seq .never .skip) .skip) (bInit cs)
theorem bInit_nx {C : Rf.Cx} {c : E} {cs : List E} {ρ ρ' : List S} (h : exS C (bInit (c :: cs)) ρ = .nx ρ') : ∃ ρ1, evE C c ρ = .ok (.bl false) ρ1 ∧ exS C (bInit cs) ρ1 = .nx ρ' := by
  have h2 : ((evE C c ρ).thn fun x r1 => match x with
    | .bl true => exS C (.seq .never .skip) r1
    | .bl false => .nx r1
    | _ => .bot).thn (fun r1 => exS C (bInit cs) r1) = .nx ρ' := h
  cases q : evE C c ρ with
  | exc c l r => rw [q] at h2; cases h2
  | bot => rw [q] at h2; cases h2
  | ok d ρ1 =>
    rw [q] at h2
    cases d with
    | bl b =>
      cases b with
      | true => cases h2
      | false => exact ⟨ρ1, rfl, h2⟩
    | _ => cases h2
theorem bInit_end {C : Rf.Cx} {np : Nat} {o : List S} : ∀ {cs : List E} {ρ : List S}, finish np (exS C (bInit cs) ρ) = .ok .non o → ∃ ρ', exS C (bInit cs) ρ = .nx ρ'
  | [], ρ, _ => ⟨ρ, rfl⟩
  | c :: cs, ρ, h => by
    have h2 : finish np (((evE C c ρ).thn fun x r1 => match x with
      | .bl true => exS C (.seq .never .skip) r1
      | .bl false => .nx r1
      | _ => .bot).thn (fun r1 => exS C (bInit cs) r1)) = .ok .non o := h
    show ∃ ρ', ((evE C c ρ).thn fun x r1 => match x with
      | .bl true => exS C (.seq .never .skip) r1
      | .bl false => .nx r1
      | _ => .bot).thn (fun r1 => exS C (bInit cs) r1) = .nx ρ'
    cases q : evE C c ρ with
    | exc c l r => rw [q] at h2; cases h2
    | bot => rw [q] at h2; cases h2
    | ok d ρ1 =>
      rw [q] at h2
      cases d with
      | bl b =>
        cases b with
        | true => cases h2
        | false => exact bInit_end (cs := cs) (ρ := ρ1) h2
      | _ => cases h2
section
variable {X : L2.Cx} {ci : CI} {W : WX} {C : Rf.Cx} {c e : Expr} {rest : List Stmt} {cc : E} {t : TS} {cd : Nat}
def tSets (A : Addr) : List (Str × Nat) → TS
  | [] => fun D σ H => D.nx σ H
  | (f, i) :: fs => fun D σ H => ∃ x dx g v, σ[0]? = some (some (.ref x)) ∧ σ[i]? = some (some v) ∧ H x = some (.ins A dx g) ∧ g.length < 1000 ∧ tSets A fs D σ (upd H x (.ins A dx (putF f v g)))
def tInit (K : PySem.W.Frag) (ci : CI) (C : Rf.Cx) (t : TS) : List E → TS
  | [] => t
  | c :: cs => fun D σ H => ∃ He Pp H0e H0 ρ ρ', Rl K ci He Pp H0e H0 H σ ρ ∧ evE C c ρ = .ok (.bl false) ρ' ∧ ∀ h0 h1, Same H0 h0 → Rl K ci He Pp H0e h0 h1 σ ρ' → tInit K ci C t cs D σ h1
theorem n_end : PSs X [] (tSets (ci.ad cd) []) := pssImp pss_nil fun D σ H h => h
theorem n_set {i : Nat} {f y : Str} {fs : List (Str × Nat)} {p1 p2 p3 p4 : Pos} {nm : List Str} {x : Str} (hx : ClsOk X.K X.mg ci x cd nm) (hf : f ∈ nm) (h0 : PE X (.Name "self" p1) (tVar 0)) (hi : PE X (.Name y p3) (tVar i)) (hs : swapsWith (.Name y p3) (some (.Attribute (.Name "self" p1) f p2)) p4.line X.env = pure false)
    (hr : PSs X rest (tSets (ci.ad cd) fs)) : PSs X (.Assign [.Attribute (.Name "self" p1) f p2] (.Name y p3) p4 :: rest) (tSets (ci.ad cd) ((f, i) :: fs)) :=
  pssImp (pss_cons (ps_fld h0 hi hs) hr) fun D σ H h => by
    obtain ⟨x, dx, g, v, s0, si, hH, hg, q⟩ := h
    exact ⟨v, si, .ref x, s0, x, _, dx, g, rfl, hH, hx.cls, hx.no f hf, hg, q⟩
theorem n_if {cs : List E} {p1 p2 : Pos} {ex : Option Expr} (hc : PT X c (tT X.K ci WF C cc)) (hr : PSs X rest (tInit X.K ci C t cs)) : PSs X (.If c [.Raise ex none p1] [] p2 :: rest) (tInit X.K ci C t (cc :: cs)) :=
  pssImp (pss_cons (ps_if hc (pss_one ps_never) pss_nil) hr) fun D σ H h => by
    obtain ⟨He, Pp, H0e, H0, ρ, ρ', r, e, q⟩ := h
    refine ⟨He, Pp, H0e, H0, ρ, r, ?_⟩
    rw [e]
    exact fun h0 h1 sm r1 => ⟨false, rfl, iteF (q h0 h1 sm r1)⟩
theorem n_pre (h : PSs X rest t) : PSs X rest (tInit X.K ci C t []) := h
end
def flds : List Str → Nat → List (Str × Nat)
  | [], _ => []
  | f :: r, i => (f, i) :: flds r (i + 1)
theorem putF_new {f : Str} {v : V} : ∀ {g : List (Str × V)}, f ∉ g.map (·.1) → putF f v g = g ++ [(f, v)]
  | [], _ => rfl
  | (q, w) :: g, h => by
    rw [List.map_cons, List.mem_cons, not_or] at h
    show (if q = f then (q, v) :: g else (q, w) :: putF f v g) = _
    rw [if_neg (fun z => h.1 z.symm), putF_new h.2]
    rfl
theorem sets_read {A : Addr} {D : Ends} {σ : L2.St} {x dx : Addr} (s0 : σ[0]? = some (some (.ref x))) : ∀ (todo : List Str) (us : List V) (i : Nat) (g : List (Str × V)) (h : Hp), todo.length = us.length → (∀ (j : Nat) v, us[j]? = some v → σ[i + j]? = some (some v)) → h x = some (.ins A dx g) →
    g.length + todo.length < 1000 → (∀ f ∈ todo, f ∉ g.map (·.1)) → todo.Nodup → D.nx σ (upd h x (.ins A dx (g ++ todo.zip us))) → tSets A (flds todo i) D σ h
  | [], us, i, g, h, _, _, hx, _, _, _, q => by
    have e : upd h x (.ins A dx (g ++ [].zip us)) = h := by
      funext b
      by_cases hb : b = x
      · subst hb; rw [upd_same, hx]; simp
      · rw [upd_ne hb]
    rw [e] at q
    exact q
  | f :: todo, [], i, g, h, hl, _, _, _, _, _, _ => by cases hl
  | f :: todo, u :: us, i, g, h, hl, hs, hx, hg, hf, nd, q => by
    have hfg := hf f List.mem_cons_self
    rw [List.nodup_cons] at nd
    refine ⟨x, dx, g, u, s0, by simpa using hs 0 u rfl, hx, by rw [List.length_cons] at hg; omega, ?_⟩
    rw [putF_new hfg]
    refine sets_read s0 todo us (i + 1) (g ++ [(f, u)]) _ (Nat.succ.inj hl) (fun j v e => ?_) upd_same ?_ (fun f' hf' => ?_) nd.2 ?_
    · have := hs (j + 1) v (by simpa using e)
      rw [show i + 1 + j = i + (j + 1) by omega]
      exact this
    · rw [List.length_append, List.length_cons, List.length_nil]
      rw [List.length_cons] at hg
      omega
    · rw [List.map_append, List.mem_append, not_or]
      refine ⟨hf f' (List.mem_cons_of_mem _ hf'), fun z => ?_⟩
      simp at z
      subst z
      exact nd.1 hf'
    · rw [upd_upd, List.append_assoc]
      exact q
theorem init_read {K : PySem.W.Frag} {ci : CI} {C : Rf.Cx} {D : Ends} {σ : L2.St} {He : Hp} {Pp : List (Nat × Addr)} {H0e : Hp} {t : TS} {ρ' : List S} : ∀ {cs : List E} {ρ : List S} {h0 h1 : Hp}, Rl K ci He Pp H0e h0 h1 σ ρ → exS C (bInit cs) ρ = .nx ρ' →
    (∀ k0 k1, Same h0 k0 → Rl K ci He Pp H0e k0 k1 σ ρ' → t D σ k1) → tInit K ci C t cs D σ h1
  | [], ρ, h0, h1, r, e, q => by
    cases e
    exact q h0 h1 (.refl _) r
  | c :: cs, ρ, h0, h1, r, e, q => by
    obtain ⟨ρ1, e1, e2⟩ := bInit_nx e
    exact ⟨He, Pp, H0e, h0, ρ, ρ1, r, e1, fun k0 k1 s r1 => init_read r1 e2 fun l0 l1 s2 r2 => q l0 l1 (s.trans s2) r2⟩
section
variable {P : Program} {w : World} {K : PySem.W.Frag} {mg : Str → Option Value} {base : Heap} {ci : CI} {x qual : Str} {params : Arguments} {body : List Stmt} {scope : Scope} {dvs : List V} {kws : List (Str × V)} {f : Addr} {fd : FuncData}
theorem new_ok {ps nm : List Str} {T : Nat → Option Fd} {fuel g cd : Nat} {cs : List E} (F : FunD K x qual params body scope dvs kws f fd) (Sc : FnScope ps ps scope) (hnm : ci.nm cd = nm) (nd : nm.Nodup) (hl : ps.length = nm.length + 1) (hsm : nm.length < 1000) (hT : T g = some ⟨nm.length + 1, nm.length + 1, bInit cs⟩)
    (hbody : ∀ (k : Nat) (cdv : Value) (A : Around) (outer : List Env) (s : Shared) (H : Hp) (E : XK), Bd (cxOf (L2N.CX P w) P w K mg base ps qual scope f cdv A outer s H E) (WF : WX) k →
      PSs (cxOf (L2N.CX P w) P w K mg base ps qual scope f cdv A outer s H E) body (tInit K ci ⟨run T fuel k, fuel⟩ (tSets (ci.ad cd) (flds nm 1)) cs)) : FnNew P w K mg base ci T fuel cd g nm.length f fd ps := by
  intro k
  cases k with
  | zero =>
    refine ⟨fun vs H Q E h => h.1.trans hl.symm, fun A outer s H args us vs Q E hr he hb r h => ?_⟩
    obtain ⟨_, _, _, _, _, _, _, _, _, _, _, _, _, _, ⟨_, z⟩, _⟩ := h
    cases z
  | succ k =>
    refine F.ok (k := 2 * k + 1) Sc (fun vs H Q E h => h.1.trans hl.symm) fun cdv A outer s H vs Q E hr h => ?_
    refine ⟨_, hbody k cdv A outer s H E ⟨tkF, passes_of rfl, hr⟩, ?_⟩
    obtain ⟨hv, y, us, dx, H1, H0, ds, rfl, hy, hdx, hne, rfl, sm, ru, ⟨o, hrun⟩, q⟩ := h
    have lu : us.length = nm.length := Nat.succ.inj hv
    have ld : ds.length = nm.length := ru.length.symm.trans lu
    have hrun2 : finish (nm.length + 1) (exS ⟨run T fuel k, fuel⟩ (bInit cs) (.non :: ds.map .val)) = .ok .non o := by
      have h2 : run T fuel (k + 1) g (.non :: ds.map .val) = .ok .non o := hrun
      simp only [run, hT] at h2
      have e0 : nm.length + 1 - (S.non :: ds.map S.val).length = 0 := by
        rw [List.length_cons, List.length_map, ld]; omega
      rw [e0] at h2
      have e1 : (S.non :: ds.map S.val) ++ List.replicate 0 S.non = S.non :: ds.map S.val := by
        rw [List.replicate_zero, List.append_nil]
      rw [e1] at h2
      exact h2
    obtain ⟨ρ', he⟩ := bInit_end hrun2
    have hst : L2.start ps (.ref y :: us) = some (.ref y) :: us.map some := by
      unfold L2.start
      have e0 : ps.length - (V.ref y :: us).length = 0 := by
        rw [List.length_cons, lu, hl]; omega
      rw [e0, List.replicate_zero, List.append_nil, List.map_cons]
    have out : ∀ b o, H1 b = some o → upd (upd H1 dx (.own y)) y (.ins (ci.ad cd) dx []) b = some o := fun b o e => by
      have n1 : b ≠ y := fun z => by rw [z, hy] at e; cases e
      have n2 : b ≠ dx := fun z => by rw [z, hdx] at e; cases e
      rw [upd_ne n1, upd_ne n2]
      exact e
    have r0 : Rl K ci (upd (upd H1 dx (.own y)) y (.ins (ci.ad cd) dx [])) [] H0 H0 (upd (upd H1 dx (.own y)) y (.ins (ci.ad cd) dx [])) (some (.ref y) :: us.map some) (.non :: ds.map .val) := by
      refine ⟨by rw [List.length_cons, List.length_cons, List.length_map, List.length_map, lu, ld], fun b o e => out b o (sm b o e), .refl _, fun b o e _ => e, fun b hb => (by cases hb), fun b o e => .inl e, fun i s' o' e1 e2 => ?_, fun i j a b l b' l' hij e1 e2 _ _ => ?_, fun p hp => (by cases hp)⟩
      · cases i with
        | zero =>
          simp at e1 e2
          subst e1; subst e2
          trivial
        | succ i =>
          have e1' : (ds.map S.val)[i]? = some s' := by simpa using e1
          have e2' : (us.map some)[i]? = some o' := by simpa using e2
          rw [List.getElem?_map] at e1' e2'
          cases qd : ds[i]? with
          | none => rw [qd] at e1'; cases e1'
          | some d =>
            rw [qd] at e1'; cases e1'
            obtain ⟨v, hv1, hv2⟩ := ru.get qd
            rw [hv1] at e2'; cases e2'
            exact hv2
      · cases i with
        | zero => simp at e1
        | succ i =>
          have e1' : (ds.map S.val)[i]? = some (.own b l) := by simpa using e1
          rw [List.getElem?_map] at e1'
          cases qd : ds[i]? with
          | none => rw [qd] at e1'; cases e1'
          | some d => rw [qd] at e1'; cases e1'
    rw [hst]
    refine init_read r0 he fun k0 k1 sk r1 => ?_
    have hk1 : k1 y = some (.ins (ci.ad cd) dx []) := r1.ent y _ upd_same (by simp)
    refine sets_read rfl nm us 1 [] k1 lu.symm (fun j v e => ?_) hk1 (by simpa using hsm) (fun f hf => by simp) nd ?_
    · rw [show 1 + j = j + 1 by omega]
      show (us.map some)[j]? = _
      rw [List.getElem?_map, e]
      rfl
    · rw [List.nil_append]
      have H0y : H0 y = none := same_none sm hy
      have ga : Same H0 (upd k0 y (.ins (ci.ad cd) dx (nm.zip us))) := fun b o e => by
        have n1 : b ≠ y := fun z => by rw [z, H0y] at e; cases e
        rw [upd_ne n1]
        exact sk b o e
      refine q (upd k0 y (.ins (ci.ad cd) dx (nm.zip us))) (upd k1 y (.ins (ci.ad cd) dx (nm.zip us))) ⟨ga, fun b o e => ?_, same_upd2 r1.sub, fun b o e => ?_⟩ (.ins (dx := dx) (fs := nm.zip us) upd_same ?_ ?_)
      · have n1 : b ≠ y := fun z => by rw [z, hy] at e; cases e
        rw [upd_ne n1]
        exact r1.ent b o (out b o e) (by simp)
      · by_cases hb : b = y
        · subst hb; exact .inr hy
        · rw [upd_ne hb] at e
          rcases r1.fresh b o e with z | z
          · exact .inl z
          · right
            by_cases hb2 : b = dx
            · subst hb2
              exact hdx
            · rw [upd_ne hb, upd_ne hb2] at z
              exact z
      · rw [hnm]
        exact List.map_fst_zip (by omega)
      · have e2 : (nm.zip us).map (·.2) = us := List.map_snd_zip (by omega)
        rw [e2]
        exact ru.mono ga
end
end Rf

set_option Elab.async false
set_option linter.all false
set_option maxRecDepth 100000
set_option maxHeartbeats 2000000
/-! RfComp2: comprehensions with two for clauses. -/
namespace Rf
open PySem PySem.Spec PyProof.Rows L2
section
variable {X : L2.Cx} {ci : CI} {W : WX} {C : Rf.Cx}
theorem isNS_eq {s : S} (h : isNS s = true) : s = .non := by cases s <;> first | rfl | cases h
theorem tYesI {σ : L2.St} {H : Hp} {q : Bool → Hp → Prop} (h : q true H) : tYes σ H q := h
theorem tYesI2 {σ : L2.St} {H : Hp} {A B : Hp → Prop} (h : A H) : tYes σ H fun b H3 => if b = true then A H3 else B H3 := tYesI (iteT h)
theorem comp2_rd {i j : Nat} {it it2 : It} {ce : E} {σ : L2.St} {H : Hp} {Q : VK} (hij : i ≠ j) (hh : tE X.K ci W C (.comp2 i it j it2 ce) σ H Q) :
    tLc2 (tI X.K ci W C it) (gName i) tYes (tI X.K ci WF C it2) (gName j) tYes (tE X.K ci WF C ce) [i, j] [j] σ H Q := by
  obtain ⟨He, Pp, H0e, H0, ρ, r, out⟩ := hh
  unfold evE at out
  refine ⟨He, Pp, H0e, H0, ρ, r, Out.imp (fun xs h0 h1 ρ1 _ _ ⟨r1, o1⟩ J wk Dl hD => ?_) (Out.bind out)⟩
  split at o1
  rotate_left
  · exact o1.elim
  rename_i hns
  rw [Bool.and_eq_true] at hns
  have ni := isNS_eq hns.1
  have nj := isNS_eq hns.2
  have hl0 : h0 Dl = none := same_none r1.sub hD
  have hH0e : H0e Dl = none := same_none r1.ext hl0
  have hPw : Dl ∉ Pp.map (·.2) := fun hb => by
    obtain ⟨vs, e⟩ := r1.pin Dl hb
    rw [hD] at e; cases e
  have hHe : He Dl = none := by
    cases q : He Dl with
    | none => rfl
    | some u => have e := r1.ent Dl u q hPw; rw [hD] at e; cases e
  let τ : L2.St := (σ.set j none).set i none
  let fin : Res (List D) → Res D := fun z => match z with
      | .ok ys r2 => .ok (.lst ys) ((r2.set i .non).set j .non)
      | _ => .bot
  have tj : τ.set j none = τ := by
    show ((σ.set j none).set i none).set j none = (σ.set j none).set i none
    rw [List.set_comm _ _ hij, List.set_set]
  have ti : τ.set i none = τ := List.set_set ..
  let IvO : Nat → Hp → Prop := fun a H2 => ∃ acc vs k0 ρ2, a ≤ xs.length ∧ Same h0 k0 ∧ Rl X.K ci (upd He Dl (.lst vs)) Pp H0e k0 H2 τ ρ2 ∧ (∀ b l, getS ρ2 i ≠ .own b l) ∧ Reps X.K ci k0 vs acc ∧
    Out X.K ci W σ He Pp H0e h0 (RE X.K ci Q) (fin (compO i j (evI C it2) (evE C ce) (xs.drop a) acc ρ2))
  have gone : ∀ {k0 H2 : Hp} {vs : List V} {σ2 : L2.St} {ρ2 : List S}, Rl X.K ci (upd He Dl (.lst vs)) Pp H0e k0 H2 σ2 ρ2 → k0 Dl = none := fun {k0 H2 vs σ2 ρ2} rr => by
    cases q : k0 Dl with
    | none => rfl
    | some u =>
      rcases rr.fresh Dl u q with z | z
      · rw [hH0e] at z; cases z
      · rw [upd_same] at z; cases z
  have hnj : ∀ b l, getS ρ1 j ≠ .own b l := fun b l z => by rw [nj] at z; cases z
  have hni : ∀ b l, getS (ρ1.set j .non) i ≠ .own b l := fun b l z => by
    have e : getS (ρ1.set j .non) i = getS ρ1 i := by
      unfold getS
      rw [List.getD_eq_getElem?_getD, List.getD_eq_getElem?_getD, List.getElem?_set_ne (Ne.symm hij)]
    rw [e, ni] at z; cases z
  have r2' : Rl X.K ci (upd He Dl (.lst [])) Pp H0e h0 (upd h1 Dl (.lst [])) τ ((ρ1.set j .non).set i .non) := ((r1.flyN hD).blk hnj).blk hni
  refine ⟨fun a m H2 => m = xs.length - a ∧ IvO a H2, ⟨xs.length, by simp, [], [], h0, (ρ1.set j .non).set i .non, Nat.zero_le _, .refl _, r2', getS_set (fun b l z => by cases z), .nil, o1⟩, ?_⟩
  rintro a m H2 ⟨rfl, acc, vs, k0, ρ2, ha, sk, r2, hn2, rv, o3⟩
  have hk0 := gone r2
  have swalk : Same h0 H2 := sk.trans r2.sub
  by_cases hlt : a < xs.length
  · have ed : xs.drop a = xs[a] :: xs.drop (a + 1) := (List.drop_eq_getElem_cons hlt)
    obtain ⟨go, yl⟩ := (wk H2 swalk).2 a xs[a] (List.getElem?_eq_getElem hlt)
    refine .inr ⟨go, IvO (a + 1), fun H' q => ⟨xs.length - (a + 1), by omega, rfl, q⟩, fun v H' y => ?_⟩
    obtain ⟨eH, rep⟩ := yl v H' y
    subst eH
    rw [ed] at o3
    simp only [compO] at o3
    have sj : (τ.set i (some v)).set j none = τ.set i (some v) := by
      rw [List.set_comm _ _ hij, tj]
    show wipe (τ.set i (some v)) [i, j] = τ ∧ _
    refine ⟨by show ((τ.set i (some v)).set j none).set i none = τ; rw [sj, List.set_set, ti], ?_⟩
    have rs : Rl X.K ci (upd He Dl (.lst vs)) Pp H0e k0 H' (τ.set i (some v)) (ρ2.set i (.val xs[a])) :=
      r2.set (o := some v) (s := .val xs[a]) (rep.mono sk) (fun l => hn2 true l) fun _ _ _ _ _ _ _ z => by cases z
    refine tYesI2 ?_
    refine ⟨_, Pp, H0e, k0, _, rs, ?_⟩
    cases q1 : evI C it2 (ρ2.set i (.val xs[a])) with
    | exc c l ρ' => rw [q1] at o3; exact o3.elim
    | bot => rw [q1] at o3; exact o3.elim
    | ok ys ρ3 =>
      rw [q1] at o3
      simp only [Res.bind] at o3
      intro k1 H3 s1 r3 J1 wk1
      cases hcj : clr j ρ3 with
      | none => simp only [hcj] at o3; exact o3.elim
      | some ρ3' =>
        simp only [hcj] at o3
        obtain ⟨ecj, hnj3⟩ := clr_eq hcj
        subst ecj
        have r3' : Rl X.K ci (upd He Dl (.lst vs)) Pp H0e k1 H3 (τ.set i (some v)) (ρ3.set j .non) := by
          have r3a : Rl X.K ci (upd He Dl (.lst vs)) Pp H0e k1 H3 (τ.set i (some v)) ρ3 := r3
          have z := r3a.blk hnj3 (o := none)
          rw [sj] at z
          exact z
        let cont : Res (List D) → Res (List D) := fun z => z.bind fun acc' r3 => (match clr i r3 with
            | some r4 => compO i j (evI C it2) (evE C ce) (xs.drop (a + 1)) acc' r4
            | none => .bot)
        let IvI : Nat → Hp → Prop := fun b H4 => ∃ acc vs l0 ρ4, b ≤ ys.length ∧ Same k1 l0 ∧ Rl X.K ci (upd He Dl (.lst vs)) Pp H0e l0 H4 (τ.set i (some v)) ρ4 ∧ (∀ b l, getS ρ4 j ≠ .own b l) ∧ Reps X.K ci l0 vs acc ∧
          Out X.K ci W σ He Pp H0e h0 (RE X.K ci Q) (fin (cont (compL j yes (evE C ce) (ys.drop b) acc ρ4)))
        refine ⟨fun b m H4 => m = ys.length - b ∧ IvI b H4, ⟨ys.length, by simp, acc, vs, k1, ρ3.set j .non, Nat.zero_le _, .refl _, r3', getS_set (fun b l z => by cases z), rv.mono s1, o3⟩, ?_⟩
        rintro b m H4 ⟨rfl, acc4, vs4, l0, ρ4, hb, sl, r4, hn4, rv4, o4⟩
        have sw4 : Same k1 H4 := sl.trans r4.sub
        by_cases hbt : b < ys.length
        · have ed4 : ys.drop b = ys[b] :: ys.drop (b + 1) := (List.drop_eq_getElem_cons hbt)
          obtain ⟨go4, yl4⟩ := (wk1 H4 sw4).2 b ys[b] (List.getElem?_eq_getElem hbt)
          refine .inr ⟨go4, IvI (b + 1), fun H' q => ⟨ys.length - (b + 1), by omega, rfl, q⟩, fun u H' y => ?_⟩
          obtain ⟨eH4, rep4⟩ := yl4 u H' y
          subst eH4
          rw [ed4] at o4
          simp only [compL, yes, Res.bind, cont] at o4
          show wipe (((τ.set i (some v)).set j none).set j (some u)) [j] = (τ.set i (some v)).set j none ∧ _
          refine ⟨by show (((τ.set i (some v)).set j none).set j (some u)).set j none = _; rw [List.set_set, List.set_set], ?_⟩
          refine tYesI2 ?_
          have rs4 : Rl X.K ci (upd He Dl (.lst vs4)) Pp H0e l0 H' (((τ.set i (some v)).set j none).set j (some u)) (ρ4.set j (.val ys[b])) := by
            have z := r4.set (i := j) (o := some u) (s := .val ys[b]) (rep4.mono sl) (fun l => hn4 true l) fun _ _ _ _ _ _ _ z => by cases z
            rw [List.set_set]
            exact z
          refine ⟨_, Pp, H0e, l0, _, rs4, ?_⟩
          cases q2 : evE C ce (ρ4.set j (.val ys[b])) with
          | exc c l ρ' => rw [q2] at o4; exact o4.elim
          | bot => rw [q2] at o4; exact o4.elim
          | ok d2 ρ5 =>
            rw [q2] at o4
            simp only at o4
            refine fun k2 H5 s2 r5 w hw => ?_
            by_cases hz : acc4.length < lineN
            · rw [if_pos hz] at o4
              cases hcl : clr j ρ5 with
              | none => simp only [hcl] at o4; exact o4.elim
              | some ρ6 =>
                simp only [hcl] at o4
                obtain ⟨ec, hn5⟩ := clr_eq hcl
                subst ec
                have hk2 := gone r5
                refine ⟨vs4, r5.ent Dl _ upd_same hPw, by rw [rv4.length, ← lineN_eq]; exact hz, ?_⟩
                have r5a : Rl X.K ci (upd He Dl (.lst vs4)) Pp H0e k2 H5 (((τ.set i (some v)).set j none).set j (some u)) ρ5 := r5
                have r6 := (r5a.flyU (o2 := .lst (vs4 ++ [w])) hPw hk2).blk hn5 (o := none)
                rw [List.set_set, List.set_set, sj] at r6
                exact ⟨acc4 ++ [d2], vs4 ++ [w], k2, ρ5.set j .non, hbt, sl.trans s2, r6, getS_set (fun b l z => by cases z), (rv4.mono s2).append (.cons hw .nil), o4⟩
            · rw [if_neg hz] at o4; exact o4.elim
        · have eb : b = ys.length := by omega
          subst eb
          left
          refine ⟨(wk1 H4 sw4).1 _ (Nat.le_refl _), ?_⟩
          rw [List.drop_length] at o4
          simp only [compL, Res.bind, cont] at o4
          cases hci : clr i ρ4 with
          | none => simp only [hci] at o4; exact o4.elim
          | some ρ5 =>
            simp only [hci] at o4
            obtain ⟨ec, hn5⟩ := clr_eq hci
            subst ec
            have r5 := r4.blk hn5 (o := none)
            rw [List.set_set, ti] at r5
            exact ⟨acc4, vs4, l0, ρ4.set i .non, hlt, (sk.trans s1).trans sl, r5, getS_set (fun b l z => by cases z), rv4, o4⟩
  · have ej : a = xs.length := by omega
    subst ej
    left
    refine ⟨(wk H2 swalk).1 _ (Nat.le_refl _), ?_⟩
    rw [List.drop_length] at o3
    simp only [compO, fin] at o3
    obtain ⟨r5, s5⟩ := r2.land hPw hk0 hHe
    have nt : ∀ {n : Nat} {l : List D}, τ[n]? = some none → getS ρ2 n ≠ .own true l := fun {n l} hn z => by
      have e := getS_some z (by intro z; cases z)
      have := r5.slot n _ _ e hn
      exact this
    have back1 : ∀ {n : Nat} {σ' : L2.St} {ρ' : List S} {k : Hp}, Rl X.K ci He Pp H0e k H2 σ' ρ' → (∀ l, getS ρ' n ≠ .own true l) → ∀ o, Rl X.K ci He Pp H0e k H2 (σ'.set n o) (ρ'.set n .non) := fun {n σ' ρ' k} rr hh o => rr.set (s := .non) (by cases o <;> trivial) hh fun _ _ _ _ _ _ _ z => by cases z
    have hti : ∀ l, getS ρ2 i ≠ .own true l := fun l z => hn2 true l z
    have htj : ∀ l, getS (ρ2.set i .non) j ≠ .own true l := fun l z => by
      have e : getS (ρ2.set i .non) j = getS ρ2 j := by
        unfold getS
        rw [List.getD_eq_getElem?_getD, List.getD_eq_getElem?_getD, List.getElem?_set_ne hij]
      rw [e] at z
      have e2 := getS_some z (by intro z; cases z)
      have hj : j < τ.length := by rw [r5.len]; exact (List.getElem?_eq_some_iff.mp e2).1
      have hjt : τ[j]? = some none := by
        rw [← tj, List.getElem?_set_self hj]
      exact nt hjt z
    have rf : Rl X.K ci He Pp H0e (upd k0 Dl (.lst vs)) H2 σ ((ρ2.set i .non).set j .non) := by
      have z1 := back1 r5 hti (if h : i < σ.length then σ[i] else none)
      have z2 := back1 z1 htj (if h : j < σ.length then σ[j] else none)
      have e1 : τ.set i (if h : i < σ.length then σ[i] else none) = σ.set j none := by
        show ((σ.set j none).set i none).set i _ = _
        rw [List.set_set]
        by_cases hil : i < σ.length
        · rw [dif_pos hil]
          have : (σ.set j none)[i]? = some σ[i] := by rw [List.getElem?_set_ne (Ne.symm hij)]; exact List.getElem?_eq_getElem hil
          exact List.ext_getElem? fun n => by
            by_cases hn : i = n
            · subst hn
              rw [List.getElem?_set_self (by rw [List.length_set]; exact hil), this]
            · rw [List.getElem?_set_ne hn]
        · exact set_out (by rw [List.length_set]; exact Nat.le_of_not_lt hil)
      have e2 : (σ.set j none).set j (if h : j < σ.length then σ[j] else none) = σ := by
        by_cases hjl : j < σ.length
        · rw [dif_pos hjl]
          exact set_back (List.getElem?_eq_getElem hjl)
        · rw [List.set_set]
          exact set_out (Nat.le_of_not_lt hjl)
      rw [e1, e2] at z2
      exact z2
    exact o3 _ _ (sk.trans s5) rf _ (.lst upd_same (rv.mono s5))
theorem comp_pg' {scope : Scope} {i : Nat} {x : Str} {px : Pos} (hN : X.N.Nodup) (hi : X.N[i]? = some x) (hx : scope.names.lookup x = some .local ∨ scope.names.lookup x = some .cell) :
    ∀ (s : Shared) (H : Hp) (D : Addr) (cl : List (Str × Addr)) (fp : List Addr), PG (X.blk s H scope (compEnvC scope cl D X.env) fp) (.Name x px) (gName i) := comp_pg hN hi hx
theorem r_comp2 {elt iter iter2 : Expr} {scope : Scope} {i j : Nat} {x y : Str} {px py pos : Pos} {it it2 : It} {ce : E} (hc : X.calm = true) (hN : X.N.Nodup) (hi : X.N[i]? = some x) (hj : X.N[j]? = some y) (hij : i ≠ j) (ok : BlkOk X.N X.env.scope scope [(x, i), (y, j)])
    (hx : scope.names.lookup x = some .local ∨ scope.names.lookup x = some .cell) (hy : scope.names.lookup y = some .local ∨ scope.names.lookup y = some .cell)
    (hit : PI X (.Name x px) iter (tI X.K ci W C it))
    (hit2 : ∀ (s : Shared) (H : Hp) (D : Addr) (cl : List (Str × Addr)) (fp : List Addr), PI (X.blk s H scope (compEnvC scope cl D X.env) fp) (.Name y py) iter2 (tI X.K ci WF C it2))
    (he : ∀ (s : Shared) (H : Hp) (D : Addr) (cl : List (Str × Addr)) (fp : List Addr), PE (X.blk s H scope (compEnvC scope cl D X.env) fp) elt (tE X.K ci WF C ce))
    (hs : ∀ z, foldedSetIterable iter X.env z = pure z) (hs2 : ∀ env z, foldedSetIterable iter2 env z = pure z) :
    PE X (.ListComp elt [⟨.Name x px, iter, [], 0⟩, ⟨.Name y py, iter2, [], 0⟩] scope pos) (tE X.K ci W C (.comp2 i it j it2 ce)) :=
  peImp (pe_lc2 (own := [(x, i), (y, j)]) (vs1 := [j]) hc hN hit ok (by simp) (comp_pg hN hi hx) (fun _ _ _ _ _ => pts_nil) hit2 (comp_pg hN hj hy) (fun _ _ _ _ _ => pts_nil) he hs hs2) fun σ H Q hh => comp2_rd hij hh
/-- y = [.. for .. for ..] on one line -/
theorem s_asgLc2 {elt iter iter2 : Expr} {scope : Scope} {i j n : Nat} {x y z : Str} {px py pz pos spos : Pos} {it it2 : It} {ce : E} (hc : X.calm = true) (hN : X.N.Nodup) (hz : X.N[n]? = some z) (hzl : X.env.scope.names.lookup z = some .local)
    (hsw : swapsWith (.ListComp elt [⟨.Name x px, iter, [], 0⟩, ⟨.Name y py, iter2, [], 0⟩] scope pos) (some (.Name z pz)) spos.line X.env = pure true) (hi : X.N[i]? = some x) (hj : X.N[j]? = some y) (hij : i ≠ j) (ok : BlkOk X.N X.env.scope scope [(x, i), (y, j)])
    (hx : scope.names.lookup x = some .local ∨ scope.names.lookup x = some .cell) (hy : scope.names.lookup y = some .local ∨ scope.names.lookup y = some .cell)
    (hit : PI X (.Name x px) iter (tI X.K ci W C it))
    (hit2 : ∀ (s : Shared) (H : Hp) (D : Addr) (cl : List (Str × Addr)) (fp : List Addr), PI (X.blk s H scope (compEnvC scope cl D X.env) fp) (.Name y py) iter2 (tI X.K ci WF C it2))
    (he : ∀ (s : Shared) (H : Hp) (D : Addr) (cl : List (Str × Addr)) (fp : List Addr), PE (X.blk s H scope (compEnvC scope cl D X.env) fp) elt (tE X.K ci WF C ce))
    (hs : ∀ z, foldedSetIterable iter X.env z = pure z) (hs2 : ∀ env z, foldedSetIterable iter2 env z = pure z) :
    PS X (.Assign [.Name z pz] (.ListComp elt [⟨.Name x px, iter, [], 0⟩, ⟨.Name y py, iter2, [], 0⟩] scope pos) spos) (tS X.K ci W C (.asg (.name n) (.comp2 i it j it2 ce))) :=
  psImp (ps_setLc2 (own := [(x, i), (y, j)]) (vs1 := [j]) hc hN hz hzl hsw hit ok (by simp) (comp_pg hN hi hx) (fun _ _ _ _ _ => pts_nil) hit2 (comp_pg hN hj hy) (fun _ _ _ _ _ => pts_nil) he hs hs2) fun D σ H ⟨He, Pp, H0e, H0, ρ, r, o⟩ => by
    refine comp2_rd (Q := fun v H1 => gName n v σ H1 D.nx) hij ⟨He, Pp, H0e, H0, ρ, r, Out.imp (fun z h0 h1 ρ1 _ _ ⟨r1, o1⟩ v hv => ?_) (OutS.thn o)⟩
    obtain ⟨ρ', e, o2⟩ := OutS.of o1
    exact o2 _ h0 h1 (.refl _) (r1.put e hv)
end
end Rf
namespace Rf
open PySem PySem.W
theorem kit_self {K : Frag} {C : Addr} : kitOne K (.ref C) (.ref C) = some true := if_pos (by first | exact beq_self_eq_true _ | simp | rfl)
theorem kit_oth {K : Frag} {C : Addr} {s : String} (ic : isClsIn K C = true) (tc : typeIn K (.ref C) = some (.type "type")) (st : subIn K (.type s) (.ref C) = some false) : kitOne K (.type s) (.ref C) = some false := by
  unfold kitOne
  rw [if_neg (show ¬ (Value.type s == Value.ref C) = true from fun z => by cases z)]
  unfold kitCls
  have ic' : (clsIn K C).isSome = true := ic
  simp only
  rw [if_pos (by rw [ic', tc]; rfl)]
  exact st
theorem alls_nil {α : Type} {p : α → Prop} : ∀ n ∈ ([] : List α), p n := fun _ h => by cases h
theorem alls_cons {α : Type} {p : α → Prop} {x : α} {l : List α} (h : p x) (t : ∀ n ∈ l, p n) : ∀ n ∈ x :: l, p n := fun n hn => by
  rcases List.mem_cons.mp hn with e | e
  · rw [e]; exact h
  · exact t n e
end Rf

set_option Elab.async false
set_option linter.all false
set_option maxRecDepth 100000
set_option maxHeartbeats 2000000
/-! RfEv: the plain meaning, step by step. -/
namespace Rf
open PySem

theorem byRfl {α : Sort u} {a b : α} (h : a = b) : a = b := h
def dropR : Res D → Res D
  | .ok d _ => .ok d []
  | .exc c l _ => .exc c l []
  | .bot => .bot
def kV (r : List S) : Res D → Res D
  | .ok d _ => .ok d r
  | .exc c l _ => .exc c l r
  | .bot => .bot
def noOwns : List Av → Bool
  | [] => true
  | .own _ :: _ => false
  | _ :: vs => noOwns vs
theorem noOwns_at : ∀ {vs : List Av} {i j : Nat}, noOwns vs = true → isOwn j vs[i]? = false
  | [], i, j, h => by simp [isOwn]
  | .own _ :: _, _, _, h => by simp [noOwns] at h
  | .val _ :: vs, 0, j, h => rfl
  | .tmp _ :: vs, 0, j, h => rfl
  | .val _ :: vs, i + 1, j, h => by simpa using noOwns_at (vs := vs) (i := i) (j := j) (by simpa [noOwns] using h)
  | .tmp _ :: vs, i + 1, j, h => by simpa using noOwns_at (vs := vs) (i := i) (j := j) (by simpa [noOwns] using h)
theorem lent_no {vs : List Av} (h : noOwns vs = true) : ∀ {p : List (Nat ⊕ D)} {k j : Nat}, lentAt vs p k j = none
  | [], _, _ => rfl
  | .inr _ :: p, k, j => lent_no h (p := p)
  | .inl i :: p, k, j => by
    unfold lentAt
    rw [noOwns_at h]
    exact lent_no h (p := p)
theorem back_no {outs : List S} {vs : List Av} (h : noOwns vs = true) {p : List (Nat ⊕ D)} : ∀ {j : Nat} {ρ : List S}, backS outs vs p j ρ = ρ
  | _, [] => rfl
  | j, s :: ρ => by
    unfold backS
    rw [lent_no h, back_no h]
    rfl
section
variable {C : Cx} {a b c e : E} {r r1 r2 : List S} {x y z d : D} {o : Op} {o1 o2 : Cp} {l : Es} {al : As} {xs ys ds : List D} {vs : List Av} {i j f : Nat} {perm : List (Nat ⊕ D)} {s : S} {bb : Bool}
/-! slots -/
def rdS (i : Nat) (r : List S) : S → Res D
  | .val d => .ok d r
  | .own false l => .ok (.lst l) (r.set i (.val (.lst l)))
  | _ => .bot
theorem getS_0 {s : S} {l : List S} : getS (s :: l) 0 = s := byRfl rfl
theorem getS_s {s : S} {l : List S} {n : Nat} : getS (s :: l) (n + 1) = getS l n := byRfl rfl
theorem ev_var : evE C (.var i) r = rdS i r (getS r i) := byRfl rfl
theorem rdS_val : rdS i r (.val d) = .ok d r := byRfl rfl
theorem rdS_own : rdS i r (.own false xs) = .ok (.lst xs) (r.set i (.val (.lst xs))) := byRfl rfl
theorem ev_cst : evE C (.cst d) r = .ok d r := byRfl rfl
theorem of_some : Res.of (some x) r = .ok x r := byRfl rfl
theorem of_some' : Res.of (some xs) r = .ok xs r := byRfl rfl
/-! operators -/
def kBin (C : Cx) (o : Op) (b : E) : Res D → Res D := fun q => q.bind fun x r1 => (evE C b r1).bind fun y r2 => .of (bin o x y) r2
def kBin' (o : Op) (x : D) : Res D → Res D := fun q => q.bind fun y r2 => .of (bin o x y) r2
theorem ev_bin : evE C (.bin o a b) r = kBin C o b (evE C a r) := byRfl rfl
theorem kBin_ok : kBin C o b (.ok x r1) = kBin' o x (evE C b r1) := byRfl rfl
theorem kBin_ok' : kBin' o x (.ok y r2) = .of (bin o x y) r2 := byRfl rfl
def kCmp (C : Cx) (o : Cp) (b : E) : Res D → Res D := fun q => q.bind fun x r1 => (evE C b r1).bind fun y r2 => .of ((cmp o x y).map D.bl) r2
def kCmp' (o : Cp) (x : D) : Res D → Res D := fun q => q.bind fun y r2 => .of ((cmp o x y).map D.bl) r2
def kCmpR (r : List S) : Option Bool → Res D
  | some q => .ok (.bl q) r
  | none => .bot
theorem ev_cmp : evE C (.cmp o1 a b) r = kCmp C o1 b (evE C a r) := byRfl rfl
theorem kCmp_ok : kCmp C o1 b (.ok x r1) = kCmp' o1 x (evE C b r1) := byRfl rfl
theorem kCmp_ok' : kCmp' o1 x (.ok y r2) = kCmpR r2 (cmp o1 x y) := by
  show Res.of ((cmp o1 x y).map D.bl) r2 = kCmpR r2 (cmp o1 x y)
  cases cmp o1 x y <;> rfl
theorem kCmpR_some {q : Bool} : kCmpR r (some q) = .ok (.bl q) r := byRfl rfl
def kChn (C : Cx) (o p : Cp) (b c : E) : Res D → Res D := fun q => q.bind fun x r1 => (evE C b r1).bind fun y r2 => match cmp o x y with
    | some true => (evE C c r2).bind fun z r3 => .of ((cmp p y z).map D.bl) r3
    | some false => .ok (.bl false) r2
    | none => .bot
def kChn' (C : Cx) (o p : Cp) (c : E) (x : D) : Res D → Res D := fun q => q.bind fun y r2 => match cmp o x y with
    | some true => (evE C c r2).bind fun z r3 => .of ((cmp p y z).map D.bl) r3
    | some false => .ok (.bl false) r2
    | none => .bot
def kChn2 (C : Cx) (p : Cp) (c : E) (y : D) (r2 : List S) : Option Bool → Res D
    | some q => bif q then kCmp' p y (evE C c r2) else .ok (.bl false) r2
    | none => .bot
theorem ev_chn : evE C (.chn o1 o2 a b c) r = kChn C o1 o2 b c (evE C a r) := byRfl rfl
theorem kChn_ok : kChn C o1 o2 b c (.ok x r1) = kChn' C o1 o2 c x (evE C b r1) := byRfl rfl
theorem kChn_ok' : kChn' C o1 o2 c x (.ok y r2) = kChn2 C o2 c y r2 (cmp o1 x y) := by
  show (match cmp o1 x y with
    | some true => (evE C c r2).bind fun z r3 => .of ((cmp o2 y z).map D.bl) r3
    | some false => .ok (.bl false) r2
    | none => .bot) = _
  cases cmp o1 x y with
  | none => rfl
  | some q => cases q <;> rfl
theorem kChn2_some {q : Bool} : kChn2 C o2 c y r (some q) = bif q then kCmp' o2 y (evE C c r) else .ok (.bl false) r := byRfl rfl
def kAnd (C : Cx) (b : E) : Res D → Res D := fun q => q.bind fun x r1 => match x with
    | .bl true => evE C b r1
    | .bl false => .ok (.bl false) r1
    | _ => .bot
theorem ev_and : evE C (.and a b) r = kAnd C b (evE C a r) := byRfl rfl
theorem kAnd_ok {q : Bool} : kAnd C b (.ok (.bl q) r) = bif q then evE C b r else .ok (.bl false) r := by cases q <;> rfl
def kOr (C : Cx) (b : E) : Res D → Res D := fun q => q.bind fun x r1 => match x with
    | .bl false => evE C b r1
    | .bl true => .ok (.bl true) r1
    | _ => .bot
theorem ev_or : evE C (.or a b) r = kOr C b (evE C a r) := byRfl rfl
theorem kOr_ok {q : Bool} : kOr C b (.ok (.bl q) r) = bif q then .ok (.bl true) r else evE C b r := by cases q <;> rfl
def kNot : Res D → Res D := fun q => q.bind fun x r1 => match x with
    | .bl b => .ok (.bl (!b)) r1
    | _ => .bot
theorem ev_not : evE C (.not a) r = kNot (evE C a r) := byRfl rfl
theorem kNot_ok {q : Bool} : kNot (.ok (.bl q) r) = .ok (.bl (!q)) r := byRfl rfl
def kNeg : Res D → Res D := fun q => q.bind fun x r1 => match x with
    | .int i => .ok (.int (-i)) r1
    | _ => .bot
theorem ev_neg : evE C (.neg a) r = kNeg (evE C a r) := byRfl rfl
theorem kNeg_ok {q : Int} : kNeg (.ok (.int q) r) = .ok (.int (-q)) r := byRfl rfl
def kIteE (C : Cx) (a b : E) : Res D → Res D := fun q => q.bind fun x r1 => match x with
    | .bl true => evE C a r1
    | .bl false => evE C b r1
    | _ => .bot
theorem ev_ite : evE C (.ite c a b) r = kIteE C a b (evE C c r) := byRfl rfl
theorem kIteE_ok {q : Bool} : kIteE C a b (.ok (.bl q) r) = bif q then evE C a r else evE C b r := by cases q <;> rfl
/-! displays -/
def kEs (C : Cx) (l : Es) : Res D → Res (List D) := fun q => q.bind fun x r1 => (evEs C l r1).bind fun xs r2 => .ok (x :: xs) r2
def kEs' (x : D) : Res (List D) → Res (List D) := fun q => q.bind fun xs r2 => .ok (x :: xs) r2
theorem es_nil : evEs C .nil r = .ok [] r := byRfl rfl
theorem es_cons : evEs C (.cons e l) r = kEs C l (evE C e r) := byRfl rfl
theorem kEs_ok : kEs C l (.ok x r1) = kEs' x (evEs C l r1) := byRfl rfl
theorem kEs_ok' : kEs' x (.ok xs r2) = .ok (x :: xs) r2 := byRfl rfl
def kTup : Res (List D) → Res D := fun q => q.bind fun ds r1 => if ds.length ≤ lineN then .ok (.tup ds) r1 else .bot
def kLst : Res (List D) → Res D := fun q => q.bind fun ds r1 => if ds.length ≤ lineN then .ok (.lst ds) r1 else .bot
theorem ev_tup : evE C (.tup l) r = kTup (evEs C l r) := byRfl rfl
theorem ev_lst : evE C (.lst l) r = kLst (evEs C l r) := byRfl rfl
theorem kTup_ok (h : ds.length ≤ 16777216) : kTup (.ok ds r) = .ok (.tup ds) r := if_pos h
theorem kLst_ok (h : ds.length ≤ 16777216) : kLst (.ok ds r) = .ok (.lst ds) r := if_pos h
def kPrim (p : P) : Res (List D) → Res D := fun q => q.bind fun ds r1 => .of (prim p ds) r1
theorem ev_prim {p : P} : evE C (.prim p l) r = kPrim p (evEs C l r) := byRfl rfl
theorem kPrim_ok {p : P} : kPrim p (.ok ds r) = .of (prim p ds) r := byRfl rfl
def kMix (C : Cx) (i : Nat) (e : E) (r : List S) : S → Res D
    | .own _ _ => (evE C e r).bind fun x r1 => match getS r1 i, x with
      | .own _ l, .int j => .of (L2.atI l j) r1
      | _, _ => .bot
    | _ => .bot
def kMix' (i : Nat) : Res D → Res D := fun q => q.bind fun x r1 => match getS r1 i, x with
      | .own _ l, .int j => .of (L2.atI l j) r1
      | _, _ => .bot
def kMix2 (x : D) (r1 : List S) (s : S) : Res D := match s, x with
      | .own _ l, .int j => .of (L2.atI l j) r1
      | _, _ => .bot
theorem ev_mix : evE C (.mix i e) r = kMix C i e r (getS r i) := byRfl rfl
theorem kMix_ok : kMix C i e r (.own bb xs) = kMix' i (evE C e r) := byRfl rfl
theorem kMix_ok' : kMix' i (.ok x r1) = kMix2 x r1 (getS r1 i) := byRfl rfl
theorem kMix2_ok {j : Int} : kMix2 (.int j) r (.own bb xs) = .of (L2.atI xs j) r := byRfl rfl
/-! calls -/
def kAs (C : Cx) (l : As) : Res D → Res (List Av) := fun q => q.bind fun x r1 => (evAs C l r1).bind fun xs r2 => .ok (.val x :: xs) r2
def kAs' (v : Av) : Res (List Av) → Res (List Av) := fun q => q.bind fun xs r2 => .ok (v :: xs) r2
theorem as_nil : evAs C .nil r = .ok [] r := byRfl rfl
theorem as_val : evAs C (.val e al) r = kAs C al (evE C e r) := byRfl rfl
theorem kAs_ok : kAs C al (.ok x r1) = kAs' (.val x) (evAs C al r1) := byRfl rfl
theorem kAs_ok' {v : Av} : kAs' v (.ok vs r2) = .ok (v :: vs) r2 := byRfl rfl
def kOwn (C : Cx) (i : Nat) (l : As) (r : List S) : S → Res (List Av)
    | .own _ _ => (evAs C l r).bind fun xs r2 => (match getS r2 i with
      | .own _ _ => if noOwn i xs = true then .ok (.own i :: xs) r2 else .bot
      | _ => .bot)
    | _ => .bot
def kOwn' (i : Nat) : Res (List Av) → Res (List Av) := fun q => q.bind fun xs r2 => (match getS r2 i with
      | .own _ _ => if noOwn i xs = true then .ok (.own i :: xs) r2 else .bot
      | _ => .bot)
def kOwn2 (i : Nat) (xs : List Av) (r2 : List S) : S → Res (List Av)
      | .own _ _ => if noOwn i xs = true then .ok (.own i :: xs) r2 else .bot
      | _ => .bot
theorem as_own : evAs C (.own i al) r = kOwn C i al r (getS r i) := by rw [evAs]; rfl
theorem kOwn_ok : kOwn C i al r (.own bb xs) = kOwn' i (evAs C al r) := byRfl rfl
theorem kOwn_ok' : kOwn' i (.ok vs r) = kOwn2 i vs r (getS r i) := byRfl rfl
theorem kOwn2_ok (h : noOwn i vs = true) : kOwn2 i vs r (.own bb xs) = .ok (.own i :: vs) r := if_pos h
def kTmp : Res (List D) → Res (List Av) := fun q => q.bind fun x r1 => if x.length ≤ lineN then .ok [.tmp x] r1 else .bot
theorem as_tmp : evAs C (.tmp l) r = kTmp (evEs C l r) := byRfl rfl
theorem kTmp_ok (h : xs.length ≤ 16777216) : kTmp (.ok xs r) = .ok [.tmp xs] r := if_pos h
def kCallR (vs : List Av) (perm : List (Nat ⊕ D)) (r1 : List S) : Res D → Res D
    | .ok d outs => .ok d (backS outs vs perm 0 r1)
    | .exc c l outs => .exc c l (backS outs vs perm 0 r1)
    | .bot => .bot
def kCall (C : Cx) (f : Nat) (perm : List (Nat ⊕ D)) : Res (List Av) → Res D := fun q => q.bind fun vs r1 => kCallR vs perm r1 (C.call f (permS r1 vs perm))
theorem ev_call : evE C (.call f perm al) r = kCall C f perm (evAs C al r) := by
  rw [evE]
  unfold kCall kCallR
  rfl
theorem kCall_own : kCall C f perm (.ok vs r) = kCallR vs perm r (C.call f (permS r vs perm)) := byRfl rfl
theorem kCall_val (h : noOwns vs = true) : kCall C f perm (.ok vs r) = kV r (dropR (C.call f (permS r vs perm))) := by
  rw [kCall_own]
  cases C.call f (permS r vs perm) with
  | ok d outs => show Res.ok d _ = Res.ok d r; rw [back_no h]
  | exc c l outs => show Res.exc c l _ = Res.exc c l r; rw [back_no h]
  | bot => rfl
theorem kV_ok {o : List S} : kV r (.ok d o) = .ok d r := byRfl rfl
theorem kV_exc {q : Nat} {o : List S} : kV r (.exc q ds o) = .exc q ds r := byRfl rfl
theorem kCallR_ok {o : List S} : kCallR vs perm r (.ok d o) = .ok d (backS o vs perm 0 r) := byRfl rfl
def kCk (C : Cx) (f : Nat) (perm : List (Nat ⊕ D)) (m : Es) : Res (List D) → Res D := fun q => q.bind fun xs r1 => (evEs C m r1).bind fun ys r2 => kV r2 (dropR (C.call f (permG perm (permD perm) ((xs ++ ys).map .val))))
def kCk' (C : Cx) (f : Nat) (perm : List (Nat ⊕ D)) (xs : List D) : Res (List D) → Res D := fun q => q.bind fun ys r2 => kV r2 (dropR (C.call f (permG perm (permD perm) ((xs ++ ys).map .val))))
theorem ev_callk {m : Es} : evE C (.callk f perm l m) r = kCk C f perm m (evEs C l r) := by
  rw [evE]
  unfold kCk
  congr 1
  funext xs r1
  congr 1
  funext ys r2
  cases C.call f (permG perm (permD perm) ((xs ++ ys).map .val)) <;> rfl
theorem kCk_ok {m : Es} : kCk C f perm m (.ok xs r1) = kCk' C f perm xs (evEs C m r1) := byRfl rfl
theorem kCk_ok' : kCk' C f perm xs (.ok ys r2) = kV r2 (dropR (C.call f (permG perm (permD perm) ((xs ++ ys).map .val)))) := byRfl rfl
/-! comprehensions -/
def kComp (C : Cx) (i : Nat) (c e : E) : Res (List D) → Res D := fun q => q.bind fun xs r1 => match getS r1 i with
    | .own _ _ => .bot
    | s => (match compL i (evE C c) (evE C e) xs [] (r1.set i .non) with
      | .ok ys r2 => .ok (.lst ys) (r2.set i s)
      | _ => .bot)
theorem ev_comp {it : It} : evE C (.comp i it c e) r = kComp C i c e (evI C it r) := byRfl rfl
theorem kComp_ok (hs : isVal (getS r i) = true) (h : compL i (evE C c) (evE C e) xs [] (r.set i .non) = .ok ys r2) : kComp C i c e (.ok xs r) = .ok (.lst ys) (r2.set i (getS r i)) := by
  unfold kComp
  simp only [Res.bind, h]
  cases q : getS r i with
  | own b l => rw [q] at hs; cases hs
  | _ => rfl
/-! iterables -/
def kI : Res D → Res (List D) := fun q => q.bind fun x r1 => .of (seqOf x) r1
def kI1 : Res D → Res (List D) := fun q => q.bind fun x r1 => match x with
    | .int j => if rngOk j = true then .ok (rng 0 j.toNat) r1 else .bot
    | _ => .bot
def kI2 (C : Cx) (b : E) : Res D → Res (List D) := fun q => q.bind fun x r1 => (evE C b r1).bind fun y r2 => match x, y with
    | .int i, .int j => if (rngOk i && rngOk j) = true then .ok (rng i (j - i).toNat) r2 else .bot
    | _, _ => .bot
def kI2' (x : D) : Res D → Res (List D) := fun q => q.bind fun y r2 => match x, y with
    | .int i, .int j => if (rngOk i && rngOk j) = true then .ok (rng i (j - i).toNat) r2 else .bot
    | _, _ => .bot
theorem it_val : evI C (.val e) r = kI (evE C e r) := byRfl rfl
theorem it_rng1 : evI C (.rng1 e) r = kI1 (evE C e r) := byRfl rfl
theorem it_rng2 : evI C (.rng2 a b) r = kI2 C b (evE C a r) := byRfl rfl
theorem kI_ok : kI (.ok x r) = .of (seqOf x) r := byRfl rfl
theorem kI1_ok {j : Int} (h : rngOk j = true) : kI1 (.ok (.int j) r) = .ok (rng 0 j.toNat) r := if_pos h
theorem kI2_ok : kI2 C b (.ok x r) = kI2' x (evE C b r) := byRfl rfl
theorem kI2_ok' {i j : Int} (h : rngOk i = true) (h2 : rngOk j = true) : kI2' (.int i) (.ok (.int j) r) = .ok (rng i (j - i).toNat) r := if_pos (by rw [h, h2]; rfl)
/-! statements -/
variable {sa sb : St} {t : Tg} {it : It}
def kSeq (C : Cx) (b : St) : SR → SR := fun q => q.thn fun r1 => exS C b r1
theorem ex_skip : exS C .skip r = .nx r := byRfl rfl
theorem ex_brk : exS C .brk r = .bk r := byRfl rfl
theorem ex_cnt : exS C .cnt r = .ct r := byRfl rfl
theorem ex_seq : exS C (.seq sa sb) r = kSeq C sb (exS C sa r) := byRfl rfl
theorem kSeq_nx : kSeq C sb (.nx r) = exS C sb r := byRfl rfl
theorem kSeq_rt : kSeq C sb (.rt d r) = .rt d r := byRfl rfl
theorem kSeq_bk : kSeq C sb (.bk r) = .bk r := byRfl rfl
theorem kSeq_ct : kSeq C sb (.ct r) = .ct r := byRfl rfl
theorem kSeq_exc : kSeq C sb (.exc i ds r) = .exc i ds r := byRfl rfl
def kAsg (t : Tg) : Res D → SR := fun q => q.thn fun x r1 => .of (bindT t x r1)
theorem ex_asg : exS C (.asg t e) r = kAsg t (evE C e r) := byRfl rfl
theorem kAsg_ok : kAsg t (.ok x r) = SR.of (bindT t x r) := byRfl rfl
theorem srof : SR.of (some r) = .nx r := byRfl rfl
def free : S → Bool
  | .own true _ => false
  | _ => true
def kPut (r : List S) (i : Nat) (s : S) (b : Bool) : Option (List S) := bif b then some (r.set i s) else none
theorem put_eq : putS r i s = kPut r i s (free (getS r i)) := by
  unfold putS kPut
  cases getS r i with
  | own b l => cases b <;> rfl
  | _ => rfl
theorem kPut_t : kPut r i s true = some (r.set i s) := byRfl rfl
theorem free_non : free .non = true := byRfl rfl
theorem free_val : free (.val d) = true := byRfl rfl
theorem free_own : free (.own false ds) = true := byRfl rfl
theorem bind_name : bindT (.name i) d r = putS r i (.val d) := byRfl rfl
theorem bind_tup {is : List Nat} : bindT (.tup is) (.tup ds) r = putAll is ds r := byRfl rfl
theorem bind_lst {is : List Nat} : bindT (.tup is) (.lst ds) r = putAll is ds r := byRfl rfl
theorem all_nil : putAll [] [] r = some r := byRfl rfl
def kAll (is : List Nat) (ds : List D) : Option (List S) → Option (List S) := fun q => q.bind fun r' => putAll is ds r'
theorem all_cons {is : List Nat} : putAll (i :: is) (d :: ds) r = kAll is ds (putS r i (.val d)) := byRfl rfl
theorem kAll_some {is : List Nat} : kAll is ds (some r) = putAll is ds r := byRfl rfl
def kNew (i : Nat) : Res D → SR := fun q => q.thn (newK i)
theorem ex_new : exS C (.new i e) r = kNew i (evE C e r) := byRfl rfl
theorem kNew_ok : kNew i (.ok (.lst xs) r) = SR.of (putS r i (.own false xs)) := byRfl rfl
def kApp (C : Cx) (i : Nat) (e : E) (r : List S) : S → SR
    | .own _ _ => (evE C e r).thn fun x r1 => (match getS r1 i with
      | .own b l => if l.length < lineN then .nx (r1.set i (.own b (l ++ [x]))) else .bot
      | _ => .bot)
    | _ => .bot
def kApp' (i : Nat) : Res D → SR := fun q => q.thn fun x r1 => (match getS r1 i with
      | .own b l => if l.length < lineN then .nx (r1.set i (.own b (l ++ [x]))) else .bot
      | _ => .bot)
def kApp2 (i : Nat) (x : D) (r1 : List S) : S → SR
      | .own b l => if l.length < lineN then .nx (r1.set i (.own b (l ++ [x]))) else .bot
      | _ => .bot
theorem ex_app : exS C (.app i e) r = kApp C i e r (getS r i) := byRfl rfl
theorem kApp_ok : kApp C i e r (.own bb xs) = kApp' i (evE C e r) := byRfl rfl
theorem kApp_ok' : kApp' i (.ok x r) = kApp2 i x r (getS r i) := byRfl rfl
theorem kApp2_ok (h : xs.length < 16777216) : kApp2 i x r (.own bb xs) = .nx (r.set i (.own bb (xs ++ [x]))) := if_pos h
def kSto (C : Cx) (i : Nat) (x : E) : Res D → SR := fun q => q.thn fun v r1 => (match getS r1 i with
    | .own _ _ => (evE C x r1).thn fun j r2 => (match getS r2 i, j with
      | .own b l, .int k => (match L2.ixN l.length k with
        | some n => .nx (r2.set i (.own b (l.set n v)))
        | none => .bot)
      | _, _ => .bot)
    | _ => .bot)
def kSto1 (C : Cx) (i : Nat) (x : E) (v : D) (r1 : List S) : S → SR
    | .own _ _ => (evE C x r1).thn fun j r2 => (match getS r2 i, j with
      | .own b l, .int k => (match L2.ixN l.length k with
        | some n => .nx (r2.set i (.own b (l.set n v)))
        | none => .bot)
      | _, _ => .bot)
    | _ => .bot
def kSto2 (i : Nat) (v : D) : Res D → SR := fun q => q.thn fun j r2 => (match getS r2 i, j with
      | .own b l, .int k => (match L2.ixN l.length k with
        | some n => .nx (r2.set i (.own b (l.set n v)))
        | none => .bot)
      | _, _ => .bot)
def kSto3 (i : Nat) (v j : D) (r2 : List S) (s : S) : SR := match s, j with
      | .own b l, .int k => (match L2.ixN l.length k with
        | some n => .nx (r2.set i (.own b (l.set n v)))
        | none => .bot)
      | _, _ => .bot
theorem ex_put : exS C (.put i b e) r = kSto C i b (evE C e r) := byRfl rfl
theorem kSto_ok : kSto C i b (.ok x r) = kSto1 C i b x r (getS r i) := byRfl rfl
theorem kSto1_ok : kSto1 C i b x r (.own bb xs) = kSto2 i x (evE C b r) := byRfl rfl
theorem kSto2_ok : kSto2 i x (.ok y r) = kSto3 i x y r (getS r i) := byRfl rfl
theorem kSto3_0 : kSto3 i x (.int 0) r (.own bb (y :: xs)) = .nx (r.set i (.own bb (x :: xs))) := by
  have e : L2.ixN (y :: xs).length 0 = some 0 := by simp [L2.ixN]
  unfold kSto3
  simp only [e]
  rfl
theorem kSto3_n {k : Int} {n : Nat} (h : L2.ixN xs.length k = some n) : kSto3 i x (.int k) r (.own bb xs) = .nx (r.set i (.own bb (xs.set n x))) := by
  unfold kSto3
  simp only [h]
def kExp : Res D → SR := fun q => q.thn fun _ r1 => .nx r1
theorem ex_exp : exS C (.exp e) r = kExp (evE C e r) := byRfl rfl
theorem kExp_ok : kExp (.ok x r) = .nx r := byRfl rfl
def kRet : Res D → SR := fun q => q.thn fun x r1 => .rt x r1
theorem ex_ret : exS C (.ret e) r = kRet (evE C e r) := byRfl rfl
theorem kRet_ok : kRet (.ok x r) = .rt x r := byRfl rfl
def kIte (C : Cx) (a b : St) : Res D → SR := fun q => q.thn fun x r1 => match x with
    | .bl true => exS C a r1
    | .bl false => exS C b r1
    | _ => .bot
theorem ex_ite : exS C (.ite c sa sb) r = kIte C sa sb (evE C c r) := byRfl rfl
theorem kIte_ok {q : Bool} : kIte C sa sb (.ok (.bl q) r) = bif q then exS C sa r else exS C sb r := by cases q <;> rfl
def kFor (C : Cx) (t : Tg) (b : St) : Res (List D) → SR := fun q => q.thn fun xs r1 => forL (bindT t) (exS C b) xs r1
theorem ex_for : exS C (.for t it sa) r = kFor C t sa (evI C it r) := byRfl rfl
theorem kFor_ok : kFor C t sa (.ok xs r) = forL (bindT t) (exS C sa) xs r := byRfl rfl
theorem ex_whl : exS C (.whl c sa) r = whl (evE C c) (exS C sa) C.fuel r := byRfl rfl
theorem fin_nx : finish i (.nx r) = .ok .non (r.take i) := byRfl rfl
theorem fin_rt : finish i (.rt d r) = .ok d (r.take i) := byRfl rfl
end
/-! operators on data -/
theorem bn_add {i j : Int} : bin .add (.int i) (.int j) = some (.int (i + j)) := byRfl rfl
theorem bn_sub {i j : Int} : bin .sub (.int i) (.int j) = some (.int (i - j)) := byRfl rfl
theorem bn_mul {i j : Int} (h : mulOk i j = true) : bin .mul (.int i) (.int j) = some (.int (i * j)) := by
  show (arI .mul i j).map D.int = _
  simp only [arI, h, if_true, Option.map]
theorem bn_fdv {i j : Int} (h : 0 < j) (h2 : Builtin.divisionGoesByPylong i j = false) : bin .fdv (.int i) (.int j) = some (.int (i / j)) := by
  show (arI .fdv i j).map D.int = _
  simp only [arI, if_pos h, h2, if_false, Option.map, Bool.false_eq_true]
theorem bn_mod {i j : Int} (h : 0 < j) : bin .mod (.int i) (.int j) = some (.int (i % j)) := by
  show (arI .mod i j).map D.int = _
  simp only [arI, if_pos h, Option.map]
theorem bn_shl {i j : Int} (h : shlOk i j = true) : bin .shl (.int i) (.int j) = some (.int (i * 2 ^ j.toNat)) := by
  show (arI .shl i j).map D.int = _
  simp only [arI, h, if_true, Option.map]
theorem bn_shr {i j : Int} (h : 0 ≤ j) : bin .shr (.int i) (.int j) = some (.int (i / 2 ^ j.toNat)) := by
  show (arI .shr i j).map D.int = _
  simp only [arI, if_pos h, Option.map]
theorem bn_pow {i j : Int} (h : powOk i j = true) : bin .pow (.int i) (.int j) = some (.int (i ^ j.toNat)) := by
  show (arI .pow i j).map D.int = _
  simp only [arI, h, if_true, Option.map]
theorem bn_cat {a b : List D} (h : a.length + b.length ≤ 16777216) : bin .add (.lst a) (.lst b) = some (.lst (a ++ b)) := by
  show (if a.length ≤ lineN then _ else _) = _
  have e : lineN = 16777216 := rfl
  rw [if_pos (by omega), if_pos (by omega), if_pos (by omega)]
theorem bn_rep2 {a : List D} (h : a.length * 2 ≤ 16777216) : bin .mul (.lst a) (.int 2) = some (.lst (a ++ (a ++ []))) := by
  show (if (0 : Int) ≤ 2 then (if (2 : Int) < 2 ^ 62 then (if a.length * (2 : Int).toNat ≤ lineN then some (D.lst (repL (2 : Int).toNat a)) else none) else none) else none) = _
  rw [if_pos (by decide), if_pos (by decide), if_pos (show a.length * (2 : Int).toNat ≤ lineN from h)]
  rfl
theorem cp_lt {i j : Int} : cmp .lt (.int i) (.int j) = some (decide (i < j)) := byRfl rfl
theorem cp_le {i j : Int} : cmp .le (.int i) (.int j) = some (decide (i ≤ j)) := byRfl rfl
theorem cp_gt {i j : Int} : cmp .gt (.int i) (.int j) = some (decide (j < i)) := byRfl rfl
theorem cp_ge {i j : Int} : cmp .ge (.int i) (.int j) = some (decide (j ≤ i)) := byRfl rfl
theorem cp_eq {x y : D} : cmp .eq x y = eqD x y := by cases x <;> cases y <;> rfl
theorem cp_is {x : D} : cmp .is x .non = some (isNon x) := by cases x <;> rfl
theorem cp_nis {x : D} : cmp .nis x .non = some (!isNon x) := by cases x <;> rfl
def kNe : Option Bool → Option Bool
  | some b => some (!b)
  | none => none
theorem cp_ne {x y : D} : cmp .ne x y = kNe (eqD x y) := by
  have e : cmp .ne x y = (eqD x y).map not := by cases x <;> cases y <;> rfl
  rw [e]
  cases eqD x y <;> rfl
theorem kNe_some {b : Bool} : kNe (some b) = some (!b) := byRfl rfl
/-! arguments into parameters and back -/
def avO : S → S
  | .own _ l => S.own true l
  | _ => .non
theorem av_val {r : List S} {d : D} : avS r (.val d) = .val d := byRfl rfl
theorem av_tmp {r : List S} {d : List D} : avS r (.tmp d) = .own true d := byRfl rfl
theorem av_own {r : List S} {i : Nat} : avS r (.own i) = avO (getS r i) := by
  show (match getS r i with
    | .own _ l => S.own true l
    | _ => S.non) = avO (getS r i)
  cases getS r i <;> rfl
theorem avO_own {b : Bool} {l : List D} : avO (.own b l) = .own true l := byRfl rfl
theorem pm_eq {r : List S} {vs : List Av} {p : List (Nat ⊕ D)} : permS r vs p = permG p (permD p) (vs.map (avS r)) := byRfl rfl
theorem pg_nil {α : Type} {l xs : List α} : permG [] xs l = [] := byRfl rfl
theorem pg_inl {α : Type} {i : Nat} {p : List (Nat ⊕ D)} {x : α} {l xs : List α} : permG (.inl i :: p) (x :: xs) l = l.getD i x :: permG p xs l := byRfl rfl
theorem pg_inr {α : Type} {i : D} {p : List (Nat ⊕ D)} {x : α} {l xs : List α} : permG (.inr i :: p) (x :: xs) l = x :: permG p xs l := byRfl rfl
theorem pd_nil : permD [] = [] := byRfl rfl
theorem pd_inl {i : Nat} {p : List (Nat ⊕ D)} : permD (.inl i :: p) = .non :: permD p := byRfl rfl
theorem pd_inr {i : D} {p : List (Nat ⊕ D)} : permD (.inr i :: p) = .val i :: permD p := byRfl rfl
theorem gd_0 {α : Type} {x a : α} {l : List α} : (a :: l).getD 0 x = a := byRfl rfl
theorem gd_s {α : Type} {x a : α} {l : List α} {n : Nat} : (a :: l).getD (n + 1) x = l.getD n x := byRfl rfl
theorem nw_nil : noOwns [] = true := byRfl rfl
theorem nw_val {d : D} {vs : List Av} : noOwns (.val d :: vs) = noOwns vs := byRfl rfl
theorem nw_tmp {d : List D} {vs : List Av} : noOwns (.tmp d :: vs) = noOwns vs := byRfl rfl
theorem nw_own {d : Nat} {vs : List Av} : noOwns (.own d :: vs) = false := byRfl rfl
theorem no_nil {j : Nat} : noOwn j [] = true := byRfl rfl
theorem no_val {j : Nat} {d : D} {vs : List Av} : noOwn j (.val d :: vs) = noOwn j vs := byRfl rfl
theorem no_tmp {j : Nat} {d : List D} {vs : List Av} : noOwn j (.tmp d :: vs) = noOwn j vs := byRfl rfl
theorem no_own {i j : Nat} {vs : List Av} : noOwn j (.own i :: vs) = (!(i == j) && noOwn j vs) := byRfl rfl
theorem lt_nil {vs : List Av} {k j : Nat} : lentAt vs [] k j = none := byRfl rfl
def lentK (c : Bool) (k : Nat) (e : Option Nat) : Option Nat := bif c then some k else e
theorem lt_inl {vs : List Av} {k j i : Nat} {p : List (Nat ⊕ D)} : lentAt vs (.inl i :: p) k j = lentK (isOwn j vs[i]?) k (lentAt vs p (k + 1) j) := by
  show (if isOwn j vs[i]? = true then some k else lentAt vs p (k + 1) j) = _
  unfold lentK
  cases isOwn j vs[i]? <;> rfl
theorem lt_inr {vs : List Av} {k j : Nat} {i : D} {p : List (Nat ⊕ D)} : lentAt vs (.inr i :: p) k j = lentAt vs p (k + 1) j := byRfl rfl
theorem lentK_t {k : Nat} {e : Option Nat} : lentK true k e = some k := byRfl rfl
theorem lentK_f {k : Nat} {e : Option Nat} : lentK false k e = e := byRfl rfl
theorem io_own {i j : Nat} : isOwn j (some (.own i)) = (i == j) := byRfl rfl
theorem io_val {j : Nat} {d : D} : isOwn j (some (.val d)) = false := byRfl rfl
theorem io_tmp {j : Nat} {d : List D} : isOwn j (some (.tmp d)) = false := byRfl rfl
theorem io_none {j : Nat} : isOwn j none = false := byRfl rfl
theorem bk_nil {outs : List S} {vs : List Av} {p : List (Nat ⊕ D)} {j : Nat} : backS outs vs p j [] = [] := byRfl rfl
theorem bk_cons {outs : List S} {vs : List Av} {p : List (Nat ⊕ D)} {j : Nat} {s : S} {r : List S} : backS outs vs p j (s :: r) = back1 outs (lentAt vs p 0 j) s :: backS outs vs p (j + 1) r := byRfl rfl
theorem b1_none {outs : List S} {s : S} : back1 outs none s = s := by cases s <;> rfl
def backO (b : Bool) (l : List D) : S → S
  | .own _ l' => S.own b l'
  | _ => .own b l
theorem b1_some {outs : List S} {k : Nat} {b : Bool} {l : List D} : back1 outs (some k) (.own b l) = backO b l (getS outs k) := by
  show (match getS outs k with
    | .own _ l' => S.own b l'
    | _ => S.own b l) = _
  cases getS outs k <;> rfl
theorem backO_own {b b' : Bool} {l l' : List D} : backO b l (.own b' l') = .own b l' := byRfl rfl
/-! items -/
theorem at_0 {α : Type} {x : α} {l : List α} : L2.atI (x :: l) 0 = some x := by simp [L2.atI, L2.ixN]
theorem at_n {α : Type} {l : List α} {i : Int} {x : α} (h0 : 0 ≤ i) (h : l[i.toNat]? = some x) : L2.atI l i = some x := by
  have hl : i.toNat < l.length := (List.getElem?_eq_some_iff.mp h).1
  unfold L2.atI L2.ixN
  rw [if_pos h0, if_pos (by omega)]
  exact h
theorem at_1 {α : Type} {x y : α} {l : List α} : L2.atI (x :: y :: l) 1 = some y := at_n (by decide) rfl
theorem at_2 {α : Type} {x y z : α} {l : List α} : L2.atI (x :: y :: z :: l) 2 = some z := at_n (by decide) rfl
theorem at_3 {α : Type} {x y z u : α} {l : List α} : L2.atI (x :: y :: z :: u :: l) 3 = some u := at_n (by decide) rfl
theorem at_4 {α : Type} {x y z u v : α} {l : List α} : L2.atI (x :: y :: z :: u :: v :: l) 4 = some v := at_n (by decide) rfl
theorem pr_idx_t {l : List D} {i : Int} : prim .idx [.tup l, .int i] = L2.atI l i := byRfl rfl
theorem pr_idx_l {l : List D} {i : Int} : prim .idx [.lst l, .int i] = L2.atI l i := byRfl rfl
theorem pr_idx_f {l : List D} {i : Int} : prim .idx [.frz l, .int i] = L2.atI l i := byRfl rfl
theorem pr_len_t {l : List D} : prim .len [.tup l] = some (.int l.length) := byRfl rfl
theorem pr_len_l {l : List D} : prim .len [.lst l] = some (.int l.length) := byRfl rfl
theorem pr_len_f {l : List D} : prim .len [.frz l] = some (.int l.length) := byRfl rfl
theorem pr_isa {t : Nat} {d : D} {b : Bool} (h : isa t d = some b) : prim (.isa t) [d] = some (.bl b) := by
  show (isa t d).map D.bl = _
  rw [h]
  rfl
theorem pr_int {i : Int} : prim .int [.int i] = some (.int i) := byRfl rfl
theorem pr_int_t : prim .int [.bl true] = some (.int 1) := byRfl rfl
theorem pr_int_f : prim .int [.bl false] = some (.int 0) := byRfl rfl
theorem pr_abs {i : Int} : prim .abs [.int i] = some (.int (if i < 0 then -i else i)) := byRfl rfl
theorem pr_min {i j : Int} : prim .min2 [.int i, .int j] = some (.int (if j < i then j else i)) := byRfl rfl
theorem pr_max {i j : Int} : prim .max2 [.int i, .int j] = some (.int (if j > i then j else i)) := byRfl rfl
theorem dr_ok {d : D} {r : List S} : dropR (.ok d r) = .ok d [] := byRfl rfl
/-! equality -/
theorem eq_int {i j : Int} : eqD (.int i) (.int j) = some (i == j) := byRfl rfl
theorem eq_bl {i j : Bool} : eqD (.bl i) (.bl j) = some (i == j) := by cases i <;> cases j <;> rfl
/-! sizes -/
theorem bits_le {a : Int} {k : Nat} (h : a.natAbs < 2 ^ k) : Builtin.Int.intBits a ≤ k := PyProof.Rows.intBits_le h
theorem mul_ok {i j : Int} {m n : Nat} (hi : i.natAbs < 2 ^ m) (hj : j.natAbs < 2 ^ n) (h : m + n ≤ 134217728) : mulOk i j = true := by
  have h1 := bits_le hi
  have h2 := bits_le hj
  exact decide_eq_true (by omega)
theorem shl_k {i j : Int} {m : Nat} (hi : i.natAbs < 2 ^ m) (hj : 0 ≤ j) (h : (m : Int) + j ≤ 134217728) : shlOk i j = true := by
  have h1 := bits_le hi
  have e : (2 : Int) ^ 27 = 134217728 := by decide
  unfold shlOk
  rw [Bool.and_eq_true]
  exact ⟨decide_eq_true hj, decide_eq_true (by rw [e]; omega)⟩
theorem no_py {i j : Int} (h : j.natAbs < 2 ^ 9000) : Builtin.divisionGoesByPylong i j = false := by
  refine PyProof.noPylong_of_log2 ?_
  by_cases z : j.natAbs = 0
  · rw [z]; decide
  · exact (Nat.log2_lt z).mpr h
/-! loops -/
def kWb (c : List S → Res D) (b : List S → SR) (n : Nat) : SR → SR
  | .nx r2 => whl c b n r2
  | .ct r2 => whl c b n r2
  | .bk r2 => .nx r2
  | y => y
def kWhl (c : List S → Res D) (b : List S → SR) (n : Nat) : Res D → SR := fun q => q.thn fun x r1 => match x with
    | .bl true => kWb c b n (b r1)
    | .bl false => .nx r1
    | _ => .bot
section
variable {c : List S → Res D} {b : List S → SR} {n : Nat} {r r1 r2 : List S} {t : D → List S → Option (List S)} {x d : D} {xs : List D}
theorem whl_s : whl c b (n + 1) r = kWhl c b n (c r) := by
  unfold kWhl
  rw [whl]
  congr 1
theorem kWhl_ok {q : Bool} : kWhl c b n (.ok (.bl q) r) = bif q then kWb c b n (b r) else .nx r := by cases q <;> rfl
theorem kWb_nx : kWb c b n (.nx r) = whl c b n r := byRfl rfl
theorem kWb_ct : kWb c b n (.ct r) = whl c b n r := byRfl rfl
theorem kWb_bk : kWb c b n (.bk r) = .nx r := byRfl rfl
theorem kWb_rt : kWb c b n (.rt d r) = .rt d r := byRfl rfl
theorem forL_nil : forL t b [] r = .nx r := byRfl rfl
theorem forL_nx (h1 : t x r = some r1) (h2 : b r1 = .nx r2) : forL t b (x :: xs) r = forL t b xs r2 := by
  simp only [forL, h1, h2]
theorem forL_rt (h1 : t x r = some r1) (h2 : b r1 = .rt d r2) : forL t b (x :: xs) r = .rt d r2 := by
  simp only [forL, h1, h2]
theorem forL_all {I : List S → Prop} : ∀ {xs : List D}, (∀ x ∈ xs, ∀ r, I r → ∃ r1 r2, t x r = some r1 ∧ b r1 = .nx r2 ∧ I r2) → ∀ {r}, I r → ∃ r', forL t b xs r = .nx r' ∧ I r'
  | [], _, r, h => ⟨r, rfl, h⟩
  | x :: xs, hs, r, h => by
    obtain ⟨r1, r2, e1, e2, h2⟩ := hs x List.mem_cons_self r h
    obtain ⟨r', e3, h3⟩ := forL_all (xs := xs) (fun y hy => hs y (List.mem_cons_of_mem _ hy)) h2
    exact ⟨r', by rw [forL_nx e1 e2]; exact e3, h3⟩
end
theorem rng_mem : ∀ {n : Nat} {lo : Int} {d : D}, d ∈ rng lo n → ∃ i : Int, d = .int i ∧ lo ≤ i ∧ i < lo + n
  | 0, _, _, h => by simp [rng] at h
  | n + 1, lo, d, h => by
    unfold rng at h
    rcases List.mem_cons.mp h with rfl | h
    · exact ⟨lo, rfl, by omega, by omega⟩
    · obtain ⟨i, e, h1, h2⟩ := rng_mem h
      exact ⟨i, e, by omega, by omega⟩
theorem rng_len : ∀ {n : Nat} {lo : Int}, (rng lo n).length = n
  | 0, _ => rfl
  | n + 1, lo => congrArg Nat.succ rng_len
theorem rng_ok {i : Int} (h1 : 0 ≤ i) (h2 : i < 4611686018427387904) : rngOk i = true := by
  unfold rngOk
  rw [Bool.and_eq_true]
  exact ⟨decide_eq_true (by omega), decide_eq_true (by omega)⟩
theorem pr_str {i : Int} (h : i.natAbs.log2 < 1920) : prim .str [.int i] = some (.str (Str.ofString (toString i))) := if_pos h
theorem eq_pair {a b c d : Int} : eqD (.tup [.int a, .int b]) (.tup [.int c, .int d]) = some (a == c && b == d) := by
  simp [eqD, toPy, toPys, SeqAt.shaped, PyData.canLay0, PyData.canLayAll0, PyData.depth, PyData.depthAll, PyData.eqv, PyData.eqvAll]
theorem eq_bls {a b c d : Bool} : eqD (.lst [.bl a, .bl b]) (.lst [.bl c, .bl d]) = some (a == c && b == d) := by
  simp [eqD, toPy, toPys, SeqAt.shaped, PyData.canLay0, PyData.canLayAll0, PyData.depth, PyData.depthAll, PyData.eqv, PyData.eqvAll]
theorem is0_non : prim (.isa 0) [.non] = some (.bl false) := byRfl rfl
theorem is0_bl {b : Bool} : prim (.isa 0) [(.bl b)] = some (.bl true) := byRfl rfl
theorem is0_int {i : Int} : prim (.isa 0) [(.int i)] = some (.bl true) := byRfl rfl
theorem is0_str {x : Str} : prim (.isa 0) [(.str x)] = some (.bl false) := byRfl rfl
theorem is0_tup {l : List D} : prim (.isa 0) [(.tup l)] = some (.bl false) := byRfl rfl
theorem is0_lst {l : List D} : prim (.isa 0) [(.lst l)] = some (.bl false) := byRfl rfl
theorem is1_non : prim (.isa 1) [.non] = some (.bl false) := byRfl rfl
theorem is1_bl {b : Bool} : prim (.isa 1) [(.bl b)] = some (.bl true) := byRfl rfl
theorem is1_int {i : Int} : prim (.isa 1) [(.int i)] = some (.bl false) := byRfl rfl
theorem is1_str {x : Str} : prim (.isa 1) [(.str x)] = some (.bl false) := byRfl rfl
theorem is1_tup {l : List D} : prim (.isa 1) [(.tup l)] = some (.bl false) := byRfl rfl
theorem is1_lst {l : List D} : prim (.isa 1) [(.lst l)] = some (.bl false) := byRfl rfl
theorem is2_non : prim (.isa 2) [.non] = some (.bl false) := byRfl rfl
theorem is2_bl {b : Bool} : prim (.isa 2) [(.bl b)] = some (.bl false) := byRfl rfl
theorem is2_int {i : Int} : prim (.isa 2) [(.int i)] = some (.bl false) := byRfl rfl
theorem is2_str {x : Str} : prim (.isa 2) [(.str x)] = some (.bl false) := byRfl rfl
theorem is2_tup {l : List D} : prim (.isa 2) [(.tup l)] = some (.bl true) := byRfl rfl
theorem is2_lst {l : List D} : prim (.isa 2) [(.lst l)] = some (.bl false) := byRfl rfl
theorem is3_non : prim (.isa 3) [.non] = some (.bl false) := byRfl rfl
theorem is3_bl {b : Bool} : prim (.isa 3) [(.bl b)] = some (.bl false) := byRfl rfl
theorem is3_int {i : Int} : prim (.isa 3) [(.int i)] = some (.bl false) := byRfl rfl
theorem is3_str {x : Str} : prim (.isa 3) [(.str x)] = some (.bl false) := byRfl rfl
theorem is3_tup {l : List D} : prim (.isa 3) [(.tup l)] = some (.bl false) := byRfl rfl
theorem is3_lst {l : List D} : prim (.isa 3) [(.lst l)] = some (.bl true) := byRfl rfl
theorem is4_non : prim (.isa 4) [.non] = some (.bl false) := byRfl rfl
theorem is4_bl {b : Bool} : prim (.isa 4) [(.bl b)] = some (.bl false) := byRfl rfl
theorem is4_int {i : Int} : prim (.isa 4) [(.int i)] = some (.bl false) := byRfl rfl
theorem is4_str {x : Str} : prim (.isa 4) [(.str x)] = some (.bl true) := byRfl rfl
theorem is4_tup {l : List D} : prim (.isa 4) [(.tup l)] = some (.bl false) := byRfl rfl
theorem is4_lst {l : List D} : prim (.isa 4) [(.lst l)] = some (.bl false) := byRfl rfl
/-! for, turn by turn -/
def kFl (t : D → List S → Option (List S)) (b : List S → SR) (xs : List D) : Option (List S) → SR
  | none => .bot
  | some r1 => match b r1 with
      | .nx r2 => forL t b xs r2
      | .ct r2 => forL t b xs r2
      | .bk r2 => .nx r2
      | y => y
def kFb (t : D → List S → Option (List S)) (b : List S → SR) (xs : List D) : SR → SR
      | .nx r2 => forL t b xs r2
      | .ct r2 => forL t b xs r2
      | .bk r2 => .nx r2
      | y => y
section
variable {t : D → List S → Option (List S)} {b : List S → SR} {xs : List D} {r : List S} {d x : D}
theorem forL_cons : forL t b (x :: xs) r = kFl t b xs (t x r) := by
  unfold kFl
  rw [forL]
  try
    cases t x r with
    | none => rfl
    | some r1 => cases h : b r1 <;> simp only [h]
theorem kFl_ok : kFl t b xs (some r) = kFb t b xs (b r) := by
  unfold kFl kFb
  cases h : b r <;> simp only [h]
theorem kFb_nx : kFb t b xs (.nx r) = forL t b xs r := byRfl rfl
theorem kFb_ct : kFb t b xs (.ct r) = forL t b xs r := byRfl rfl
theorem kFb_bk : kFb t b xs (.bk r) = .nx r := byRfl rfl
theorem kFb_rt : kFb t b xs (.rt d r) = .rt d r := byRfl rfl
theorem sq_t : seqOf (.tup xs) = some xs := byRfl rfl
theorem sq_l : seqOf (.lst xs) = some xs := byRfl rfl
end
theorem pr_all {l : List D} {bs : List Bool} (h : bls l = some bs) : prim .all [.lst l] = some (.bl (bs.all id)) := by
  show (bls l).map _ = _
  rw [h]
  rfl
/-! comprehensions, turn by turn -/
def kClr (r : List S) (i : Nat) (b : Bool) : Option (List S) := bif b then some (r.set i .non) else none
theorem clr_eq' {i : Nat} {r : List S} : clr i r = kClr r i (isVal (getS r i)) := by
  unfold clr kClr
  cases getS r i <;> rfl
theorem kClr_t {i : Nat} {r : List S} : kClr r i true = some (r.set i .non) := byRfl rfl
theorem iv_non : isVal .non = true := byRfl rfl
theorem iv_val {d : D} : isVal (.val d) = true := byRfl rfl
def kCl3 (i : Nat) (c e : List S → Res D) (xs acc : List D) : Option (List S) → Res (List D)
  | some r4 => compL i c e xs acc r4
  | none => .bot
def kCl2 (i : Nat) (c e : List S → Res D) (xs acc : List D) : Res D → Res (List D) := fun q => q.bind fun y r3 => if acc.length < lineN then (match clr i r3 with
        | some r4 => compL i c e xs (acc ++ [y]) r4
        | none => .bot) else .bot
def kCl (i : Nat) (c e : List S → Res D) (xs acc : List D) : Res D → Res (List D) := fun q => q.bind fun b r2 => match b with
      | .bl true => kCl2 i c e xs acc (e r2)
      | .bl false => kCl3 i c e xs acc (clr i r2)
      | _ => .bot
section
variable {i : Nat} {c e : List S → Res D} {xs acc : List D} {r : List S} {x y : D}
theorem cl_nil : compL i c e [] acc r = .ok acc r := byRfl rfl
theorem cl_cons : compL i c e (x :: xs) acc r = kCl i c e xs acc (c (r.set i (.val x))) := by
  unfold kCl
  rw [compL]
  congr 1
  try
    funext b r2
    cases b with
    | bl q => cases q <;> (try unfold kCl2 kCl3) <;> rfl
    | _ => rfl
theorem kCl_b {q : Bool} : kCl i c e xs acc (.ok (.bl q) r) = bif q then kCl2 i c e xs acc (e r) else kCl3 i c e xs acc (clr i r) := by cases q <;> rfl
theorem kCl2_ok (h : acc.length < 16777216) : kCl2 i c e xs acc (.ok y r) = kCl3 i c e xs (acc ++ [y]) (clr i r) := by
  unfold kCl2 kCl3
  simp only [Res.bind]
  rw [if_pos (show acc.length < lineN from h)]
  try rfl
theorem kCl3_some : kCl3 i c e xs acc (some r) = compL i c e xs acc r := byRfl rfl
end
def kCm (i : Nat) (s : S) : Res (List D) → Res D
      | .ok ys r2 => .ok (.lst ys) (r2.set i s)
      | _ => .bot
theorem kComp_ok2 {C : Cx} {i : Nat} {c e : E} {xs : List D} {r : List S} (hs : isVal (getS r i) = true) : kComp C i c e (.ok xs r) = kCm i (getS r i) (compL i (evE C c) (evE C e) xs [] (r.set i .non)) := by
  unfold kComp
  simp only [Res.bind]
  cases q : getS r i with
  | own b l => rw [q] at hs; cases hs
  | _ => cases compL i (evE C c) (evE C e) xs [] (r.set i .non) <;> rfl
theorem kCm_ok {i : Nat} {s : S} {ys : List D} {r : List S} : kCm i s (.ok ys r) = .ok (.lst ys) (r.set i s) := byRfl rfl
theorem pr_int_b {b : Bool} : prim .int [.bl b] = some (.int (bif b then 1 else 0)) := by cases b <;> rfl
theorem eq_l3 {a b c d e f : Int} : eqD (.lst [.tup [.int a, .int b], .tup [.int c, .int d], .tup [.int e, .int f]]) (.lst [.tup [.int a, .int b], .tup [.int c, .int d], .tup [.int e, .int f]]) = some true := by
  simp [eqD, toPy, toPys, SeqAt.shaped, PyData.canLay0, PyData.canLayAll0, PyData.depth, PyData.depthAll, PyData.eqv, PyData.eqvAll]
def kI3 (C : Cx) (b c : E) : Res D → Res (List D) := fun q => q.bind fun x r1 => (evE C b r1).bind fun y r2 => (evE C c r2).bind fun z r3 => match x, y, z with
    | .int i, .int j, .int q => if q = -1 then (if (rngOk i && rngOk j) = true then .ok (rngD i (i - j).toNat) r3 else .bot) else .bot
    | _, _, _ => .bot
def kI3' (C : Cx) (c : E) (x : D) : Res D → Res (List D) := fun q => q.bind fun y r2 => (evE C c r2).bind fun z r3 => match x, y, z with
    | .int i, .int j, .int q => if q = -1 then (if (rngOk i && rngOk j) = true then .ok (rngD i (i - j).toNat) r3 else .bot) else .bot
    | _, _, _ => .bot
def kI3'' (x y : D) : Res D → Res (List D) := fun q => q.bind fun z r3 => match x, y, z with
    | .int i, .int j, .int q => if q = -1 then (if (rngOk i && rngOk j) = true then .ok (rngD i (i - j).toNat) r3 else .bot) else .bot
    | _, _, _ => .bot
section
variable {C : Cx} {a b c : E} {r : List S} {x y : D}
theorem it_rng3 : evI C (.rng3 a b c) r = kI3 C b c (evE C a r) := byRfl rfl
theorem kI3_ok : kI3 C b c (.ok x r) = kI3' C c x (evE C b r) := byRfl rfl
theorem kI3_ok' : kI3' C c x (.ok y r) = kI3'' x y (evE C c r) := byRfl rfl
theorem kI3_ok'' {i j : Int} (h1 : rngOk i = true) (h2 : rngOk j = true) : kI3'' (.int i) (.int j) (.ok (.int (-1)) r) = .ok (rngD i (i - j).toNat) r := by
  show (if (-1 : Int) = -1 then (if (rngOk i && rngOk j) = true then Res.ok (rngD i (i - j).toNat) r else .bot) else .bot) = _
  rw [if_pos rfl, h1, h2]
  rfl
end
theorem cp_in {x y : D} : cmp .isin x y = inD x y := by cases x <;> cases y <;> rfl
theorem cp_nin {x y : D} : cmp .notin x y = kNe (inD x y) := by
  have e : cmp .notin x y = (inD x y).map not := by cases x <;> cases y <;> rfl
  rw [e]
  cases inD x y <;> rfl
theorem eq_str {i j : Str} (hi : PyData.strOk i = true) (hj : PyData.strOk j = true) : eqD (.str i) (.str j) = some (i == j) := by
  simp [eqD, toPy, SeqAt.shaped, PyData.canLay0, PyData.depth, PyData.eqv, hi, hj]
theorem isn_non : isNon .non = true := byRfl rfl
theorem isn_tup {l : List D} : isNon (.tup l) = false := byRfl rfl
/-! own classes -/
def kMk (c : Nat) (ds : List D) (r : List S) : Res D → Res D
  | .ok d _ => if isOk d = true then .ok (.ins c ds) r else .bot
  | _ => .bot
def kMake (C : Cx) (c f : Nat) : Res (List D) → Res D := fun q => q.bind fun ds r1 => kMk c ds r1 (dropR (C.call f (.non :: ds.map .val)))
section
variable {C : Cx} {c f i j : Nat} {l : Es} {r r1 : List S} {ds xs ys acc : List D} {x y z : D} {it it2 : It} {e : E} {e' : List S → Res D} {t' : List S → Res (List D)}
theorem ev_make : evE C (.make c f l) r = kMake C c f (evEs C l r) := by
  rw [evE]
  unfold kMake kMk
  congr 1
  funext ds r1
  cases C.call f (.non :: ds.map .val) <;> rfl
theorem kMake_ok : kMake C c f (.ok ds r) = kMk c ds r (dropR (C.call f (.non :: ds.map .val))) := byRfl rfl
theorem kMk_ok {o : List S} : kMk c ds r (.ok .non o) = .ok (.ins c ds) r := byRfl rfl
theorem pr_fld0 : prim (.fld c 0) [.ins c (x :: xs)] = some x := by
  show (if c = c then (x :: xs)[0]? else none) = some x
  rw [if_pos rfl]; rfl
theorem pr_fld1 : prim (.fld c 1) [.ins c (x :: y :: xs)] = some y := by
  show (if c = c then (x :: y :: xs)[1]? else none) = some y
  rw [if_pos rfl]; rfl
theorem pr_fld2 : prim (.fld c 2) [.ins c (x :: y :: z :: xs)] = some z := by
  show (if c = c then (x :: y :: z :: xs)[2]? else none) = some z
  rw [if_pos rfl]; rfl
theorem pr_isc : prim (.isc c) [.ins c xs] = some (.bl true) := by
  show (if c = c then some (D.bl true) else none) = _
  rw [if_pos rfl]
theorem pr_drop1 : prim (.drop 1) [.lst (x :: xs)] = some (.lst xs) := byRfl rfl
theorem yes_eq : yes r = .ok (.bl true) r := byRfl rfl
def kCo4 (i j : Nat) (it2 : List S → Res (List D)) (e : List S → Res D) (xs acc : List D) : Option (List S) → Res (List D)
  | some r4 => compO i j it2 e xs acc r4
  | none => .bot
def kCo3 (i j : Nat) (it2 : List S → Res (List D)) (e : List S → Res D) (xs : List D) : Res (List D) → Res (List D) := fun q => q.bind fun acc r3 => kCo4 i j it2 e xs acc (clr i r3)
def kCo2 (i j : Nat) (it2 : List S → Res (List D)) (e : List S → Res D) (xs acc ys : List D) : Option (List S) → Res (List D)
  | some r2 => kCo3 i j it2 e xs (compL j yes e ys acc r2)
  | none => .bot
def kCo1 (i j : Nat) (it2 : List S → Res (List D)) (e : List S → Res D) (xs acc : List D) : Res (List D) → Res (List D) := fun q => q.bind fun ys r2 => kCo2 i j it2 e xs acc ys (clr j r2)
theorem co_nil : compO i j t' e' [] acc r = .ok acc r := byRfl rfl
theorem co_cons : compO i j t' e' (x :: xs) acc r = kCo1 i j t' e' xs acc (t' (r.set i (.val x))) := by
  unfold kCo1
  rw [compO]
  congr 1
  try
    funext ys r2
    cases h : clr j r2 with
    | none => rfl
    | some r3 =>
      show _ = kCo3 i j t' e' xs (compL j yes e' ys acc r3)
      unfold kCo3
      simp only
      congr 1
      try
        funext acc' r3
        cases h2 : clr i r3 <;> rfl
theorem kCo1_ok : kCo1 i j t' e' xs acc (.ok ys r) = kCo2 i j t' e' xs acc ys (clr j r) := byRfl rfl
theorem kCo2_ok : kCo2 i j t' e' xs acc ys (some r) = kCo3 i j t' e' xs (compL j yes e' ys acc r) := byRfl rfl
theorem kCo3_ok : kCo3 i j t' e' xs (.ok acc r) = kCo4 i j t' e' xs acc (clr i r) := byRfl rfl
theorem kCo4_ok : kCo4 i j t' e' xs acc (some r) = compO i j t' e' xs acc r := byRfl rfl
def kC2e (i j : Nat) : Res (List D) → Res D
  | .ok ys r2 => .ok (.lst ys) ((r2.set i .non).set j .non)
  | _ => .bot
def kC2 (C : Cx) (i j : Nat) (it2 : It) (e : E) : Res (List D) → Res D := fun q => q.bind fun xs r1 => if (isNS (getS r1 i) && isNS (getS r1 j)) = true then kC2e i j (compO i j (evI C it2) (evE C e) xs [] ((r1.set j .non).set i .non)) else .bot
theorem ev_comp2 : evE C (.comp2 i it j it2 e) r = kC2 C i j it2 e (evI C it r) := by
  rw [evE]
  unfold kC2 kC2e
  rfl
theorem kC2_ok (h : (isNS (getS r i) && isNS (getS r j)) = true) : kC2 C i j it2 e (.ok xs r) = kC2e i j (compO i j (evI C it2) (evE C e) xs [] ((r.set j .non).set i .non)) := if_pos h
theorem kC2e_ok : kC2e i j (.ok ys r) = .ok (.lst ys) ((r.set i .non).set j .non) := byRfl rfl
theorem ns_non : isNS .non = true := byRfl rfl
end
end Rf

set_option Elab.async false
set_option linter.all false
set_option maxRecDepth 100000
set_option maxHeartbeats 2000000
/-! RfNum: numbers of twos. -/
namespace Rf
theorem pow2_pos (n : Nat) : (0 : Int) < 2 ^ n := Int.pow_pos (by decide)
def v2f : Nat → Int → Nat
  | 0, _ => 0
  | n + 1, m => if m % 2 = 0 then v2f n (m / 2) + 1 else 0
theorem v2f_spec : ∀ (n : Nat) (m : Int), m ≠ 0 → m.natAbs ≤ n → ∃ q : Int, m = q * 2 ^ v2f n m ∧ q % 2 = 1
  | 0, m, h, hn => by omega
  | n + 1, m, h, hn => by
    unfold v2f
    by_cases e : m % 2 = 0
    · rw [if_pos e]
      obtain ⟨q, h1, h2⟩ := v2f_spec n (m / 2) (by omega) (by omega)
      refine ⟨q, ?_, h2⟩
      rw [Int.pow_succ, ← Int.mul_assoc, ← h1]
      omega
    · rw [if_neg e]
      exact ⟨m, by simp, by omega⟩
def v2 (m : Int) : Nat := v2f m.natAbs m
def NM (m : Int) : Int := if m = 0 then 0 else m / 2 ^ v2 m
def NE (m e : Int) : Int := if m = 0 then 0 else e + v2 m
theorem nm0 : NM 0 = 0 := rfl
theorem ne0 {e : Int} : NE 0 e = 0 := rfl
theorem nm_spec {m : Int} (h : m ≠ 0) : NM m % 2 = 1 ∧ m = NM m * 2 ^ v2 m := by
  obtain ⟨q, h1, h2⟩ := v2f_spec _ m h (Nat.le_refl _)
  have e : NM m = q := by
    unfold NM
    rw [if_neg h]
    have e1 : m / 2 ^ v2 m = q * 2 ^ v2 m / 2 ^ v2 m := congrArg (· / 2 ^ v2 m) h1
    rw [e1]
    exact Int.mul_ediv_cancel _ (Int.ne_of_gt (pow2_pos _))
  rw [e]
  exact ⟨h2, h1⟩
theorem odd_unique : ∀ {u v : Nat} {a b : Int}, a % 2 = 1 → b % 2 = 1 → a * 2 ^ u = b * 2 ^ v → a = b ∧ u = v
  | 0, 0, a, b, _, _, h => ⟨by simpa using h, rfl⟩
  | u + 1, v + 1, a, b, ha, hb, h => by
    rw [Int.pow_succ, Int.pow_succ, ← Int.mul_assoc, ← Int.mul_assoc] at h
    obtain ⟨h1, h2⟩ := odd_unique (u := u) (v := v) ha hb (by omega)
    exact ⟨h1, by omega⟩
  | 0, v + 1, a, b, ha, hb, h => by
    rw [Int.pow_succ, ← Int.mul_assoc] at h
    simp only [Int.pow_zero, Int.mul_one] at h
    omega
  | u + 1, 0, a, b, ha, hb, h => by
    rw [Int.pow_succ, ← Int.mul_assoc] at h
    simp only [Int.pow_zero, Int.mul_one] at h
    omega
theorem odd_ne {q : Int} (h : q % 2 = 1) : q ≠ 0 := by omega
theorem nm_of {m q : Int} {v : Nat} (hq : q % 2 = 1) (h : m = q * 2 ^ v) : m ≠ 0 ∧ NM m = q ∧ ∀ e, NE m e = e + v := by
  have h0 : m ≠ 0 := by
    rw [h]
    exact Int.mul_ne_zero (odd_ne hq) (Int.ne_of_gt (pow2_pos _))
  obtain ⟨h1, h2⟩ := nm_spec h0
  obtain ⟨h3, h4⟩ := odd_unique h1 hq (h2.symm.trans h)
  refine ⟨h0, h3, fun e => ?_⟩
  unfold NE
  rw [if_neg h0, h4]
theorem nm_odd {m : Int} (h : m % 2 = 1) : NM m = m ∧ ∀ e, NE m e = e := by
  obtain ⟨_, h1, h2⟩ := nm_of (m := m) (q := m) (v := 0) h (by simp)
  exact ⟨h1, fun e => by rw [h2]; simp⟩
theorem nm_shift {m : Int} (h : m ≠ 0) (j : Nat) : NM (m * 2 ^ j) = NM m ∧ ∀ e, NE (m * 2 ^ j) e = NE m (e + j) := by
  obtain ⟨h1, h2⟩ := nm_spec h
  obtain ⟨_, h3, h4⟩ := nm_of (m := m * 2 ^ j) (q := NM m) (v := v2 m + j) h1 (by rw [Int.pow_add, ← Int.mul_assoc, ← h2])
  refine ⟨h3, fun e => ?_⟩
  rw [h4]
  unfold NE
  rw [if_neg h]
  omega
theorem nm_div {m : Int} (h : m ≠ 0) {j : Nat} (hd : m % 2 ^ j = 0) : m / 2 ^ j ≠ 0 ∧ NM (m / 2 ^ j) = NM m ∧ ∀ e, NE (m / 2 ^ j) (e + j) = NE m e := by
  have e1 : m / 2 ^ j * 2 ^ j = m := by
    have := Int.mul_ediv_add_emod m (2 ^ j)
    rw [hd, Int.add_zero, Int.mul_comm] at this
    exact this
  have h0 : m / 2 ^ j ≠ 0 := fun z => by rw [z, Int.zero_mul] at e1; exact h e1.symm
  obtain ⟨h1, h2⟩ := nm_shift h0 j
  rw [e1] at h1 h2
  exact ⟨h0, h1.symm, fun e => (h2 e).symm⟩
theorem natAbs_div_le {m : Int} {j : Nat} : (m / 2 ^ j).natAbs ≤ m.natAbs := by
  have hp := pow2_pos j
  have h1 := Int.mul_ediv_add_emod m (2 ^ j)
  have h2 := Int.emod_nonneg m (Int.ne_of_gt hp)
  have h3 := Int.emod_lt_of_pos m hp
  by_cases hm : 0 ≤ m
  · have a := Int.ediv_nonneg hm (Int.le_of_lt hp)
    have b := Int.ediv_le_self (2 ^ j) hm
    omega
  · have a : m / 2 ^ j < 0 := Int.ediv_neg_of_neg_of_pos (by omega) hp
    have b : m ≤ m / 2 ^ j := by
      have : m / 2 ^ j * 2 ^ j ≤ m / 2 ^ j * 1 := Int.mul_le_mul_of_nonpos_left (by omega) (by omega)
      have c : m = 2 ^ j * (m / 2 ^ j) + m % 2 ^ j := h1.symm
      -- m < 2^j * (m / 2^j) + 2^j
      rw [Int.mul_comm] at c
      -- use: m / 2^j ≥ m since 2^j ≥ 1
      have d : m ≤ m / 2 ^ j := by
        have e := Int.le_ediv_of_mul_le (a := m) (b := m) (c := 2 ^ j) hp (by
          have : m * 2 ^ j ≤ m * 1 := Int.mul_le_mul_of_nonpos_left (by omega) (by omega)
          omega)
        exact e
      exact d
    omega
theorem nm_le {m : Int} : (NM m).natAbs ≤ m.natAbs := by
  unfold NM
  by_cases h : m = 0
  · rw [if_pos h]; omega
  · rw [if_neg h]; exact natAbs_div_le
theorem nm_norm (m e : Int) : NM (NM m) = NM m ∧ (∀ e, NE (NM m) (NE m e) = NE m e) := by
  by_cases h : m = 0
  · subst h; exact ⟨rfl, fun _ => rfl⟩
  · obtain ⟨h1, _⟩ := nm_spec h
    obtain ⟨h2, h3⟩ := nm_odd h1
    exact ⟨h2, fun e => h3 _⟩
/-- how many twos there are at most -/
theorem v2_lt {m : Int} {b : Nat} (h : m ≠ 0) (hb : m.natAbs < 2 ^ b) : v2 m < b := by
  obtain ⟨h1, h2⟩ := nm_spec h
  have h3 : m.natAbs = (NM m).natAbs * 2 ^ v2 m := by
    have := congrArg Int.natAbs h2
    rw [Int.natAbs_mul, Int.natAbs_pow] at this
    exact this
  by_cases hv : v2 m < b
  · exact hv
  · have h4 : 2 ^ b ≤ 2 ^ v2 m := Nat.pow_le_pow_right (by decide) (by omega)
    have h5 : 1 * 2 ^ v2 m ≤ (NM m).natAbs * 2 ^ v2 m := Nat.mul_le_mul_right _ (by omega)
    omega
end Rf

set_option Elab.async false
set_option linter.all false
set_option maxRecDepth 100000
set_option maxHeartbeats 4000000
/-! RfLib: what the laws' own helpers and the numbers of twos compute. -/
namespace Rf
open PySem
variable {T : Nat → Option Fd} {F : Nat} {k f : Nat}
theorem rnT {np n : Nat} {b : St} {args : List S} (h : T f = some ⟨np, n, b⟩) : run T F (k + 1) f args = finish np (exS ⟨run T F k, F⟩ b (args ++ List.replicate (n - args.length) .non)) := by
  simp only [run, h]
/-! ### a digit off a pile -/
def cTake : St := (.seq (.asg (.name 2) (.bin .mod (.mix 0 (.cst (.int (0)))) (.var 1))) (.seq (.put 0 (.cst (.int (0))) (.bin .fdv (.mix 0 (.cst (.int (0)))) (.var 1))) (.seq (.ret (.var 2)) .skip)))
theorem u_cTake {C : Cx} {r : List S} : exS C cTake r = exS C (.seq (.asg (.name 2) (.bin .mod (.mix 0 (.cst (.int (0)))) (.var 1))) (.seq (.put 0 (.cst (.int (0))) (.bin .fdv (.mix 0 (.cst (.int (0)))) (.var 1))) (.seq (.ret (.var 2)) .skip))) r := byRfl rfl
theorem sp_take (hT : T f = some ⟨2, 3, cTake⟩) {x s : Int} (hs : 0 < s) (h2 : Builtin.divisionGoesByPylong x s = false) : run T F (k + 1) f [.own true [.int x], .val (.int s)] = .ok (.int (x % s)) [.own true [.int (x / s)], .val (.int s)] := by
  rw [rnT hT]
  simp only [getS_0, getS_s, ev_var, rdS_val, rdS_own, ev_cst, of_some, of_some', ev_bin, kBin_ok, kBin_ok', ev_cmp, kCmp_ok, kCmp_ok', kCmpR_some, ev_chn, kChn_ok, kChn_ok', kChn2_some, ev_and, kAnd_ok, ev_or, kOr_ok, ev_not, kNot_ok, ev_neg, kNeg_ok, ev_ite, kIteE_ok, es_nil, es_cons, kEs_ok, kEs_ok', ev_tup, ev_lst, kTup_ok, kLst_ok, ev_prim, kPrim_ok, ev_mix, kMix_ok, kMix_ok', kMix2_ok, as_nil, as_val, kAs_ok, kAs_ok', as_own, kOwn_ok, kOwn_ok', kOwn2_ok, as_tmp, kTmp_ok, ev_call, kCall_val, kCall_own, kV_ok, kV_exc, kCallR_ok, ev_callk, kCk_ok, kCk_ok', ev_comp, it_val, it_rng1, it_rng2, kI_ok, kI1_ok, kI2_ok, kI2_ok', ex_skip, ex_brk, ex_cnt, ex_seq, kSeq_nx, kSeq_rt, kSeq_bk, kSeq_ct, kSeq_exc, ex_asg, kAsg_ok, srof, put_eq, kPut_t, free_non, free_val, free_own, bind_name, bind_tup, bind_lst, all_nil, all_cons, kAll_some, ex_new, kNew_ok, ex_app, kApp_ok, kApp_ok', kApp2_ok, ex_put, kSto_ok, kSto1_ok, kSto2_ok, kSto3_0, ex_exp, kExp_ok, ex_ret, kRet_ok, ex_ite, kIte_ok, ex_for, kFor_ok, ex_whl, fin_nx, fin_rt, bn_add, bn_sub, bn_cat, bn_rep2, cp_lt, cp_le, cp_gt, cp_ge, cp_eq, cp_is, cp_nis, cp_ne, kNe_some, av_val, av_tmp, av_own, avO_own, pm_eq, pg_nil, pg_inl, pg_inr, pd_nil, pd_inl, pd_inr, gd_0, gd_s, nw_nil, nw_val, nw_tmp, nw_own, no_nil, no_val, no_tmp, no_own, lt_nil, lt_inl, lt_inr, lentK_t, lentK_f, io_own, io_val, io_tmp, io_none, bk_nil, bk_cons, b1_none, b1_some, backO_own, at_0, at_1, at_2, at_3, at_4, pr_idx_t, pr_idx_l, pr_idx_f, pr_len_t, pr_len_l, pr_len_f, pr_int, pr_int_t, pr_int_f, pr_abs, pr_min, pr_max, dr_ok, eq_int, eq_bl, List.cons_append, List.nil_append, List.append_nil, List.append_assoc, List.length_cons, List.length_nil, List.set_cons_zero, List.set_cons_succ, List.take_succ_cons, List.take_zero, List.take_nil, List.replicate_succ, List.replicate_zero, List.map_cons, List.map_nil, List.getElem?_cons_zero, List.getElem?_cons_succ, is0_non, is0_bl, is0_int, is0_str, is0_tup, is0_lst, is1_non, is1_bl, is1_int, is1_str, is1_tup, is1_lst, is2_non, is2_bl, is2_int, is2_str, is2_tup, is2_lst, is3_non, is3_bl, is3_int, is3_str, is3_tup, is3_lst, is4_non, is4_bl, is4_int, is4_str, is4_tup, is4_lst, ev_make, kMake_ok, kMk_ok, pr_fld0, pr_fld1, pr_fld2, pr_isc, pr_drop1, yes_eq, co_nil, co_cons, kCo1_ok, kCo2_ok, kCo3_ok, kCo4_ok, ev_comp2, kC2_ok, kC2e_ok, ns_non, clr_eq', kClr_t, iv_non, iv_val, cl_nil, cl_cons, kCl_b, kCl2_ok, kCl3_some, kComp_ok2, kCm_ok, pr_int_b, it_rng3, kI3_ok, kI3_ok', cp_in, cp_nin, isn_non, isn_tup, forL_nil, forL_cons, kFl_ok, kFb_nx, kFb_ct, kFb_bk, kFb_rt, sq_t, sq_l, kWhl_ok, kWb_nx, kWb_ct, kWb_bk, kWb_rt, lineN, cond_true, cond_false, Bool.cond_decide, Bool.not_true, Bool.not_false, Bool.and_true, Bool.true_and, Bool.and_false, Bool.false_and, Nat.zero_add, beq_self_eq_true, decide_true, decide_false, if_true, if_false, Bool.true_eq_false, Bool.false_eq_true, reduceIte, Nat.reduceAdd, Nat.reduceSub, Nat.reduceMul, Nat.reduceLeDiff, Nat.reduceBEq, Nat.reduceEqDiff, Int.reduceToNat, Int.reduceNeg, Nat.reduceLT, Nat.sub_self, u_cTake, bn_mod hs, bn_fdv hs h2]
/-! ### a cell mixed -/
def cMixed : St := (.seq (.asg (.name 2) (.bin .mod (.bin .add (.bin .add (.bin .mul (.bin .mod (.var 0) (.cst (.int (2147483647)))) (.cst (.int (48271)))) (.bin .mul (.var 1) (.cst (.int (69621))))) (.cst (.int (1048583)))) (.cst (.int (2147483629))))) (.seq (.asg (.name 2) (.bin .mod (.bin .mul (.var 2) (.var 2)) (.cst (.int (2147483587))))) (.seq (.ret (.bin .mod (.bin .mul (.var 2) (.bin .add (.var 2) (.cst (.int (2))))) (.cst (.int (2147483579))))) .skip)))
theorem u_cMixed {C : Cx} {r : List S} : exS C cMixed r = exS C (.seq (.asg (.name 2) (.bin .mod (.bin .add (.bin .add (.bin .mul (.bin .mod (.var 0) (.cst (.int (2147483647)))) (.cst (.int (48271)))) (.bin .mul (.var 1) (.cst (.int (69621))))) (.cst (.int (1048583)))) (.cst (.int (2147483629))))) (.seq (.asg (.name 2) (.bin .mod (.bin .mul (.var 2) (.var 2)) (.cst (.int (2147483587))))) (.seq (.ret (.bin .mod (.bin .mul (.var 2) (.bin .add (.var 2) (.cst (.int (2))))) (.cst (.int (2147483579))))) .skip))) r := byRfl rfl
theorem sp_mixed (hT : T f = some ⟨2, 3, cMixed⟩) (c q : Int) (h0 : 0 ≤ q) (h1 : q < 2 ^ 40) : ∃ z : Int, dropR (run T F (k + 1) f [.val (.int c), .val (.int q)]) = .ok (.int z) [] ∧ 0 ≤ z ∧ z < 2147483579 := by
  have m1 : mulOk (c % 2147483647) 48271 = true := mul_ok (m := 32) (n := 20) (by omega) (by decide) (by decide)
  have m2 : mulOk q 69621 = true := mul_ok (m := 40) (n := 20) (by omega) (by decide) (by decide)
  obtain ⟨z1, e1, z10, z11⟩ : ∃ z1 : Int, (c % 2147483647 * 48271 + q * 69621 + 1048583) % 2147483629 = z1 ∧ 0 ≤ z1 ∧ z1 < 2147483629 := ⟨_, rfl, by omega, by omega⟩
  have m3 : mulOk z1 z1 = true := mul_ok (m := 32) (n := 32) (by omega) (by omega) (by decide)
  obtain ⟨z2, e2, z20, z21⟩ : ∃ z2 : Int, (z1 * z1) % 2147483587 = z2 ∧ 0 ≤ z2 ∧ z2 < 2147483587 := ⟨_, rfl, Int.emod_nonneg _ (by decide), Int.emod_lt_of_pos _ (by decide)⟩
  have m4 : mulOk z2 (z2 + 2) = true := mul_ok (m := 32) (n := 33) (by omega) (by omega) (by decide)
  refine ⟨(z2 * (z2 + 2)) % 2147483579, ?_, Int.emod_nonneg _ (by decide), Int.emod_lt_of_pos _ (by decide)⟩
  rw [rnT hT]
  simp only [getS_0, getS_s, ev_var, rdS_val, rdS_own, ev_cst, of_some, of_some', ev_bin, kBin_ok, kBin_ok', ev_cmp, kCmp_ok, kCmp_ok', kCmpR_some, ev_chn, kChn_ok, kChn_ok', kChn2_some, ev_and, kAnd_ok, ev_or, kOr_ok, ev_not, kNot_ok, ev_neg, kNeg_ok, ev_ite, kIteE_ok, es_nil, es_cons, kEs_ok, kEs_ok', ev_tup, ev_lst, kTup_ok, kLst_ok, ev_prim, kPrim_ok, ev_mix, kMix_ok, kMix_ok', kMix2_ok, as_nil, as_val, kAs_ok, kAs_ok', as_own, kOwn_ok, kOwn_ok', kOwn2_ok, as_tmp, kTmp_ok, ev_call, kCall_val, kCall_own, kV_ok, kV_exc, kCallR_ok, ev_callk, kCk_ok, kCk_ok', ev_comp, it_val, it_rng1, it_rng2, kI_ok, kI1_ok, kI2_ok, kI2_ok', ex_skip, ex_brk, ex_cnt, ex_seq, kSeq_nx, kSeq_rt, kSeq_bk, kSeq_ct, kSeq_exc, ex_asg, kAsg_ok, srof, put_eq, kPut_t, free_non, free_val, free_own, bind_name, bind_tup, bind_lst, all_nil, all_cons, kAll_some, ex_new, kNew_ok, ex_app, kApp_ok, kApp_ok', kApp2_ok, ex_put, kSto_ok, kSto1_ok, kSto2_ok, kSto3_0, ex_exp, kExp_ok, ex_ret, kRet_ok, ex_ite, kIte_ok, ex_for, kFor_ok, ex_whl, fin_nx, fin_rt, bn_add, bn_sub, bn_cat, bn_rep2, cp_lt, cp_le, cp_gt, cp_ge, cp_eq, cp_is, cp_nis, cp_ne, kNe_some, av_val, av_tmp, av_own, avO_own, pm_eq, pg_nil, pg_inl, pg_inr, pd_nil, pd_inl, pd_inr, gd_0, gd_s, nw_nil, nw_val, nw_tmp, nw_own, no_nil, no_val, no_tmp, no_own, lt_nil, lt_inl, lt_inr, lentK_t, lentK_f, io_own, io_val, io_tmp, io_none, bk_nil, bk_cons, b1_none, b1_some, backO_own, at_0, at_1, at_2, at_3, at_4, pr_idx_t, pr_idx_l, pr_idx_f, pr_len_t, pr_len_l, pr_len_f, pr_int, pr_int_t, pr_int_f, pr_abs, pr_min, pr_max, dr_ok, eq_int, eq_bl, List.cons_append, List.nil_append, List.append_nil, List.append_assoc, List.length_cons, List.length_nil, List.set_cons_zero, List.set_cons_succ, List.take_succ_cons, List.take_zero, List.take_nil, List.replicate_succ, List.replicate_zero, List.map_cons, List.map_nil, List.getElem?_cons_zero, List.getElem?_cons_succ, is0_non, is0_bl, is0_int, is0_str, is0_tup, is0_lst, is1_non, is1_bl, is1_int, is1_str, is1_tup, is1_lst, is2_non, is2_bl, is2_int, is2_str, is2_tup, is2_lst, is3_non, is3_bl, is3_int, is3_str, is3_tup, is3_lst, is4_non, is4_bl, is4_int, is4_str, is4_tup, is4_lst, ev_make, kMake_ok, kMk_ok, pr_fld0, pr_fld1, pr_fld2, pr_isc, pr_drop1, yes_eq, co_nil, co_cons, kCo1_ok, kCo2_ok, kCo3_ok, kCo4_ok, ev_comp2, kC2_ok, kC2e_ok, ns_non, clr_eq', kClr_t, iv_non, iv_val, cl_nil, cl_cons, kCl_b, kCl2_ok, kCl3_some, kComp_ok2, kCm_ok, pr_int_b, it_rng3, kI3_ok, kI3_ok', cp_in, cp_nin, isn_non, isn_tup, forL_nil, forL_cons, kFl_ok, kFb_nx, kFb_ct, kFb_bk, kFb_rt, sq_t, sq_l, kWhl_ok, kWb_nx, kWb_ct, kWb_bk, kWb_rt, lineN, cond_true, cond_false, Bool.cond_decide, Bool.not_true, Bool.not_false, Bool.and_true, Bool.true_and, Bool.and_false, Bool.false_and, Nat.zero_add, beq_self_eq_true, decide_true, decide_false, if_true, if_false, Bool.true_eq_false, Bool.false_eq_true, reduceIte, Nat.reduceAdd, Nat.reduceSub, Nat.reduceMul, Nat.reduceLeDiff, Nat.reduceBEq, Nat.reduceEqDiff, Int.reduceToNat, Int.reduceNeg, Nat.reduceLT, Nat.sub_self, u_cMixed, bn_mod, bn_mul, m1, m2, e1, m3, e2, m4, Int.reduceLT]
/-! ### a cell of the script -/
def cCellL (g : Nat) : St := (.seq (.asg (.name 3) (.bin .add (.bin .mul (.var 3) (.cst (.int (2147483579)))) (.call g [.inl 0, .inl 1] (.val (.var 2) (.val (.bin .add (.bin .add (.bin .mul (.cst (.int (7))) (.var 1)) (.bin .mul (.cst (.int (100))) (.var 4))) (.bin .mul (.var 4) (.var 4))) .nil))))) .skip)
theorem u_cCellL {g : Nat} {C : Cx} {r : List S} : exS C (cCellL g) r = exS C (.seq (.asg (.name 3) (.bin .add (.bin .mul (.var 3) (.cst (.int (2147483579)))) (.call g [.inl 0, .inl 1] (.val (.var 2) (.val (.bin .add (.bin .add (.bin .mul (.cst (.int (7))) (.var 1)) (.bin .mul (.cst (.int (100))) (.var 4))) (.bin .mul (.var 4) (.var 4))) .nil))))) .skip) r := byRfl rfl
def cCellF (g : Nat) : St := (.seq (.for (.name 4) (.rng1 (.cst (.int (24)))) (cCellL g)) (.seq (.ret (.var 3)) .skip))
theorem u_cCellF {g : Nat} {C : Cx} {r : List S} : exS C (cCellF g) r = exS C (.seq (.for (.name 4) (.rng1 (.cst (.int (24)))) (cCellL g)) (.seq (.ret (.var 3)) .skip)) r := byRfl rfl
def cCellR (g : Nat) : St := (.seq (.ite (.cmp .ge (.var 2) (.bin .pow (.cst (.int (10))) (.cst (.int (18))))) (.seq (.ret (.bin .mod (.bin .sub (.var 2) (.bin .pow (.cst (.int (10))) (.cst (.int (18))))) (.bin .mul (.bin .mul (.bin .mul (.bin .pow (.cst (.int (10))) (.cst (.int (60)))) (.bin .pow (.cst (.int (10))) (.cst (.int (60))))) (.bin .pow (.cst (.int (10))) (.cst (.int (60))))) (.bin .pow (.cst (.int (10))) (.cst (.int (60))))))) .skip) .skip) (.seq (.asg (.name 3) (.cst (.int (0)))) (cCellF g)))
theorem u_cCellR {g : Nat} {C : Cx} {r : List S} : exS C (cCellR g) r = exS C (.seq (.ite (.cmp .ge (.var 2) (.bin .pow (.cst (.int (10))) (.cst (.int (18))))) (.seq (.ret (.bin .mod (.bin .sub (.var 2) (.bin .pow (.cst (.int (10))) (.cst (.int (18))))) (.bin .mul (.bin .mul (.bin .mul (.bin .pow (.cst (.int (10))) (.cst (.int (60)))) (.bin .pow (.cst (.int (10))) (.cst (.int (60))))) (.bin .pow (.cst (.int (10))) (.cst (.int (60))))) (.bin .pow (.cst (.int (10))) (.cst (.int (60))))))) .skip) .skip) (.seq (.asg (.name 3) (.cst (.int (0)))) (cCellF g))) r := byRfl rfl
def cCell (g : Nat) : St := (.seq (.asg (.name 2) (.cst (.int (0)))) (.seq (.ite (.cmp .lt (.var 1) (.prim .len (.cons (.var 0) .nil))) (.seq (.asg (.name 2) (.prim .idx (.cons (.var 0) (.cons (.var 1) .nil)))) .skip) .skip) (cCellR g)))
theorem u_cCell {g : Nat} {C : Cx} {r : List S} : exS C (cCell g) r = exS C (.seq (.asg (.name 2) (.cst (.int (0)))) (.seq (.ite (.cmp .lt (.var 1) (.prim .len (.cons (.var 0) .nil))) (.seq (.asg (.name 2) (.prim .idx (.cons (.var 0) (.cons (.var 1) .nil)))) .skip) .skip) (cCellR g))) r := byRfl rfl
theorem natAbs_lt_pow {x : Int} {n : Nat} (h0 : 0 ≤ x) (h1 : x < 2 ^ n) : x.natAbs < 2 ^ n := by
  have e : ((2 ^ n : Nat) : Int) = 2 ^ n := by simp
  omega
theorem cell_loop {g : Nat} (hM : T g = some ⟨2, 3, cMixed⟩) (s : S) (j c : Int) (hj0 : 0 ≤ j) (hj1 : j < 64) : ∀ (n lo : Nat) (fo : Int) (t : S), lo + n ≤ 24 → 0 ≤ fo → fo < 2 ^ (32 * (lo + 1)) → free t = true →
    ∃ (fo' : Int) (t' : S), forL (bindT (.name 4)) (exS ⟨run T F (k + 1), F⟩ (cCellL g)) (rng lo n) [s, .val (.int j), .val (.int c), .val (.int fo), t] = .nx [s, .val (.int j), .val (.int c), .val (.int fo'), t'] ∧ 0 ≤ fo' ∧ fo' < 2 ^ (32 * (lo + n + 1))  := by
  intro n
  induction n with
  | zero => exact fun lo fo t _ h0 h1 _ => ⟨fo, t, rfl, h0, h1⟩
  | succ n ih =>
    intro lo fo t hl h0 h1 ht
    have hlo : (0 : Int) ≤ (lo : Int) := Int.natCast_nonneg _
    have hq : (lo : Int) * lo ≤ 24 * 24 := Int.mul_le_mul (by omega) (by omega) hlo (by decide)
    have hq0 : 0 ≤ (lo : Int) * lo := Int.mul_nonneg hlo hlo
    have p1 : (2 : Int) ^ (32 * (lo + 1 + 1)) = 2 ^ (32 * (lo + 1)) * 4294967296 := by
      rw [show 32 * (lo + 1 + 1) = 32 * (lo + 1) + 32 by omega, Int.pow_add]
      rfl
    have m1 : mulOk fo 2147483579 = true := mul_ok (m := 32 * (lo + 1)) (n := 32) (natAbs_lt_pow h0 h1) (by decide) (by omega)
    have m2 : mulOk 7 j = true := mul_ok (m := 4) (n := 7) (by decide) (by omega) (by decide)
    have m3 : mulOk 100 (lo : Int) = true := mul_ok (m := 8) (n := 7) (by decide) (by omega) (by decide)
    have m4 : mulOk (lo : Int) (lo : Int) = true := mul_ok (m := 7) (n := 7) (by omega) (by omega) (by decide)
    obtain ⟨z, hz, z0, z1⟩ := sp_mixed (T := T) (F := F) (k := k) hM c (7 * j + 100 * lo + lo * lo) (by omega) (by omega)
    have q1 : fo * 2147483579 + z < 2 ^ (32 * (lo + 1 + 1)) := by
      rw [p1]
      generalize (2 : Int) ^ (32 * (lo + 1)) = X at *
      omega
    obtain ⟨fo', t', e, h3, h4⟩ := ih (lo + 1) (fo * 2147483579 + z) (.val (.int lo)) (by omega) (by omega) q1 rfl
    refine ⟨fo', t', ?_, h3, by rw [show lo + (n + 1) + 1 = lo + 1 + n + 1 by omega]; exact h4⟩
    have e2 : rng (lo : Int) (n + 1) = .int lo :: rng ((lo + 1 : Nat) : Int) n := rfl
    rw [e2, forL_nx (r1 := [s, .val (.int j), .val (.int c), .val (.int fo), .val (.int lo)]) (r2 := [s, .val (.int j), .val (.int c), .val (.int (fo * 2147483579 + z)), .val (.int lo)])]
    · exact e
    · simp only [getS_0, getS_s, ev_var, rdS_val, rdS_own, ev_cst, of_some, of_some', ev_bin, kBin_ok, kBin_ok', ev_cmp, kCmp_ok, kCmp_ok', kCmpR_some, ev_chn, kChn_ok, kChn_ok', kChn2_some, ev_and, kAnd_ok, ev_or, kOr_ok, ev_not, kNot_ok, ev_neg, kNeg_ok, ev_ite, kIteE_ok, es_nil, es_cons, kEs_ok, kEs_ok', ev_tup, ev_lst, kTup_ok, kLst_ok, ev_prim, kPrim_ok, ev_mix, kMix_ok, kMix_ok', kMix2_ok, as_nil, as_val, kAs_ok, kAs_ok', as_own, kOwn_ok, kOwn_ok', kOwn2_ok, as_tmp, kTmp_ok, ev_call, kCall_val, kCall_own, kV_ok, kV_exc, kCallR_ok, ev_callk, kCk_ok, kCk_ok', ev_comp, it_val, it_rng1, it_rng2, kI_ok, kI1_ok, kI2_ok, kI2_ok', ex_skip, ex_brk, ex_cnt, ex_seq, kSeq_nx, kSeq_rt, kSeq_bk, kSeq_ct, kSeq_exc, ex_asg, kAsg_ok, srof, put_eq, kPut_t, free_non, free_val, free_own, bind_name, bind_tup, bind_lst, all_nil, all_cons, kAll_some, ex_new, kNew_ok, ex_app, kApp_ok, kApp_ok', kApp2_ok, ex_put, kSto_ok, kSto1_ok, kSto2_ok, kSto3_0, ex_exp, kExp_ok, ex_ret, kRet_ok, ex_ite, kIte_ok, ex_for, kFor_ok, ex_whl, fin_nx, fin_rt, bn_add, bn_sub, bn_cat, bn_rep2, cp_lt, cp_le, cp_gt, cp_ge, cp_eq, cp_is, cp_nis, cp_ne, kNe_some, av_val, av_tmp, av_own, avO_own, pm_eq, pg_nil, pg_inl, pg_inr, pd_nil, pd_inl, pd_inr, gd_0, gd_s, nw_nil, nw_val, nw_tmp, nw_own, no_nil, no_val, no_tmp, no_own, lt_nil, lt_inl, lt_inr, lentK_t, lentK_f, io_own, io_val, io_tmp, io_none, bk_nil, bk_cons, b1_none, b1_some, backO_own, at_0, at_1, at_2, at_3, at_4, pr_idx_t, pr_idx_l, pr_idx_f, pr_len_t, pr_len_l, pr_len_f, pr_int, pr_int_t, pr_int_f, pr_abs, pr_min, pr_max, dr_ok, eq_int, eq_bl, List.cons_append, List.nil_append, List.append_nil, List.append_assoc, List.length_cons, List.length_nil, List.set_cons_zero, List.set_cons_succ, List.take_succ_cons, List.take_zero, List.take_nil, List.replicate_succ, List.replicate_zero, List.map_cons, List.map_nil, List.getElem?_cons_zero, List.getElem?_cons_succ, is0_non, is0_bl, is0_int, is0_str, is0_tup, is0_lst, is1_non, is1_bl, is1_int, is1_str, is1_tup, is1_lst, is2_non, is2_bl, is2_int, is2_str, is2_tup, is2_lst, is3_non, is3_bl, is3_int, is3_str, is3_tup, is3_lst, is4_non, is4_bl, is4_int, is4_str, is4_tup, is4_lst, ev_make, kMake_ok, kMk_ok, pr_fld0, pr_fld1, pr_fld2, pr_isc, pr_drop1, yes_eq, co_nil, co_cons, kCo1_ok, kCo2_ok, kCo3_ok, kCo4_ok, ev_comp2, kC2_ok, kC2e_ok, ns_non, clr_eq', kClr_t, iv_non, iv_val, cl_nil, cl_cons, kCl_b, kCl2_ok, kCl3_some, kComp_ok2, kCm_ok, pr_int_b, it_rng3, kI3_ok, kI3_ok', cp_in, cp_nin, isn_non, isn_tup, forL_nil, forL_cons, kFl_ok, kFb_nx, kFb_ct, kFb_bk, kFb_rt, sq_t, sq_l, kWhl_ok, kWb_nx, kWb_ct, kWb_bk, kWb_rt, lineN, cond_true, cond_false, Bool.cond_decide, Bool.not_true, Bool.not_false, Bool.and_true, Bool.true_and, Bool.and_false, Bool.false_and, Nat.zero_add, beq_self_eq_true, decide_true, decide_false, if_true, if_false, Bool.true_eq_false, Bool.false_eq_true, reduceIte, Nat.reduceAdd, Nat.reduceSub, Nat.reduceMul, Nat.reduceLeDiff, Nat.reduceBEq, Nat.reduceEqDiff, Int.reduceToNat, Int.reduceNeg, Nat.reduceLT, Nat.sub_self, ht]
    · simp only [getS_0, getS_s, ev_var, rdS_val, rdS_own, ev_cst, of_some, of_some', ev_bin, kBin_ok, kBin_ok', ev_cmp, kCmp_ok, kCmp_ok', kCmpR_some, ev_chn, kChn_ok, kChn_ok', kChn2_some, ev_and, kAnd_ok, ev_or, kOr_ok, ev_not, kNot_ok, ev_neg, kNeg_ok, ev_ite, kIteE_ok, es_nil, es_cons, kEs_ok, kEs_ok', ev_tup, ev_lst, kTup_ok, kLst_ok, ev_prim, kPrim_ok, ev_mix, kMix_ok, kMix_ok', kMix2_ok, as_nil, as_val, kAs_ok, kAs_ok', as_own, kOwn_ok, kOwn_ok', kOwn2_ok, as_tmp, kTmp_ok, ev_call, kCall_val, kCall_own, kV_ok, kV_exc, kCallR_ok, ev_callk, kCk_ok, kCk_ok', ev_comp, it_val, it_rng1, it_rng2, kI_ok, kI1_ok, kI2_ok, kI2_ok', ex_skip, ex_brk, ex_cnt, ex_seq, kSeq_nx, kSeq_rt, kSeq_bk, kSeq_ct, kSeq_exc, ex_asg, kAsg_ok, srof, put_eq, kPut_t, free_non, free_val, free_own, bind_name, bind_tup, bind_lst, all_nil, all_cons, kAll_some, ex_new, kNew_ok, ex_app, kApp_ok, kApp_ok', kApp2_ok, ex_put, kSto_ok, kSto1_ok, kSto2_ok, kSto3_0, ex_exp, kExp_ok, ex_ret, kRet_ok, ex_ite, kIte_ok, ex_for, kFor_ok, ex_whl, fin_nx, fin_rt, bn_add, bn_sub, bn_cat, bn_rep2, cp_lt, cp_le, cp_gt, cp_ge, cp_eq, cp_is, cp_nis, cp_ne, kNe_some, av_val, av_tmp, av_own, avO_own, pm_eq, pg_nil, pg_inl, pg_inr, pd_nil, pd_inl, pd_inr, gd_0, gd_s, nw_nil, nw_val, nw_tmp, nw_own, no_nil, no_val, no_tmp, no_own, lt_nil, lt_inl, lt_inr, lentK_t, lentK_f, io_own, io_val, io_tmp, io_none, bk_nil, bk_cons, b1_none, b1_some, backO_own, at_0, at_1, at_2, at_3, at_4, pr_idx_t, pr_idx_l, pr_idx_f, pr_len_t, pr_len_l, pr_len_f, pr_int, pr_int_t, pr_int_f, pr_abs, pr_min, pr_max, dr_ok, eq_int, eq_bl, List.cons_append, List.nil_append, List.append_nil, List.append_assoc, List.length_cons, List.length_nil, List.set_cons_zero, List.set_cons_succ, List.take_succ_cons, List.take_zero, List.take_nil, List.replicate_succ, List.replicate_zero, List.map_cons, List.map_nil, List.getElem?_cons_zero, List.getElem?_cons_succ, is0_non, is0_bl, is0_int, is0_str, is0_tup, is0_lst, is1_non, is1_bl, is1_int, is1_str, is1_tup, is1_lst, is2_non, is2_bl, is2_int, is2_str, is2_tup, is2_lst, is3_non, is3_bl, is3_int, is3_str, is3_tup, is3_lst, is4_non, is4_bl, is4_int, is4_str, is4_tup, is4_lst, ev_make, kMake_ok, kMk_ok, pr_fld0, pr_fld1, pr_fld2, pr_isc, pr_drop1, yes_eq, co_nil, co_cons, kCo1_ok, kCo2_ok, kCo3_ok, kCo4_ok, ev_comp2, kC2_ok, kC2e_ok, ns_non, clr_eq', kClr_t, iv_non, iv_val, cl_nil, cl_cons, kCl_b, kCl2_ok, kCl3_some, kComp_ok2, kCm_ok, pr_int_b, it_rng3, kI3_ok, kI3_ok', cp_in, cp_nin, isn_non, isn_tup, forL_nil, forL_cons, kFl_ok, kFb_nx, kFb_ct, kFb_bk, kFb_rt, sq_t, sq_l, kWhl_ok, kWb_nx, kWb_ct, kWb_bk, kWb_rt, lineN, cond_true, cond_false, Bool.cond_decide, Bool.not_true, Bool.not_false, Bool.and_true, Bool.true_and, Bool.and_false, Bool.false_and, Nat.zero_add, beq_self_eq_true, decide_true, decide_false, if_true, if_false, Bool.true_eq_false, Bool.false_eq_true, reduceIte, Nat.reduceAdd, Nat.reduceSub, Nat.reduceMul, Nat.reduceLeDiff, Nat.reduceBEq, Nat.reduceEqDiff, Int.reduceToNat, Int.reduceNeg, Nat.reduceLT, Nat.sub_self, u_cCellL, bn_mul, m1, m2, m3, m4, hz]
theorem sp_cell {g : Nat} (hT : T f = some ⟨2, 5, cCell g⟩) (hM : T g = some ⟨2, 3, cMixed⟩) (ns : List Int) (j : Int) (hj0 : 0 ≤ j) (hj1 : j < 64) : ∃ z : Int, dropR (run T F (k + 2) f [.val (.frz (ns.map .int)), .val (.int j)]) = .ok (.int z) [] ∧ 0 ≤ z ∧ z < 2 ^ 800 := by
  have step : ∃ c : Int, run T F (k + 2) f [.val (.frz (ns.map .int)), .val (.int j)] = finish 2 (exS ⟨run T F (k + 1), F⟩ (cCellR g) [.val (.frz (ns.map .int)), .val (.int j), .val (.int c), .non, .non]) := by
    rw [rnT hT]
    by_cases h : j < (ns.length : Int)
    · have e1 : (ns.map D.int)[j.toNat]? = some (.int (ns[j.toNat]'(by omega))) := by
        rw [List.getElem?_map, List.getElem?_eq_getElem (by omega)]
        rfl
      have e2 := at_n hj0 e1
      refine ⟨ns[j.toNat]'(by omega), ?_⟩
      simp only [getS_0, getS_s, ev_var, rdS_val, rdS_own, ev_cst, of_some, of_some', ev_bin, kBin_ok, kBin_ok', ev_cmp, kCmp_ok, kCmp_ok', kCmpR_some, ev_chn, kChn_ok, kChn_ok', kChn2_some, ev_and, kAnd_ok, ev_or, kOr_ok, ev_not, kNot_ok, ev_neg, kNeg_ok, ev_ite, kIteE_ok, es_nil, es_cons, kEs_ok, kEs_ok', ev_tup, ev_lst, kTup_ok, kLst_ok, ev_prim, kPrim_ok, ev_mix, kMix_ok, kMix_ok', kMix2_ok, as_nil, as_val, kAs_ok, kAs_ok', as_own, kOwn_ok, kOwn_ok', kOwn2_ok, as_tmp, kTmp_ok, ev_call, kCall_val, kCall_own, kV_ok, kV_exc, kCallR_ok, ev_callk, kCk_ok, kCk_ok', ev_comp, it_val, it_rng1, it_rng2, kI_ok, kI1_ok, kI2_ok, kI2_ok', ex_skip, ex_brk, ex_cnt, ex_seq, kSeq_nx, kSeq_rt, kSeq_bk, kSeq_ct, kSeq_exc, ex_asg, kAsg_ok, srof, put_eq, kPut_t, free_non, free_val, free_own, bind_name, bind_tup, bind_lst, all_nil, all_cons, kAll_some, ex_new, kNew_ok, ex_app, kApp_ok, kApp_ok', kApp2_ok, ex_put, kSto_ok, kSto1_ok, kSto2_ok, kSto3_0, ex_exp, kExp_ok, ex_ret, kRet_ok, ex_ite, kIte_ok, ex_for, kFor_ok, ex_whl, fin_nx, fin_rt, bn_add, bn_sub, bn_cat, bn_rep2, cp_lt, cp_le, cp_gt, cp_ge, cp_eq, cp_is, cp_nis, cp_ne, kNe_some, av_val, av_tmp, av_own, avO_own, pm_eq, pg_nil, pg_inl, pg_inr, pd_nil, pd_inl, pd_inr, gd_0, gd_s, nw_nil, nw_val, nw_tmp, nw_own, no_nil, no_val, no_tmp, no_own, lt_nil, lt_inl, lt_inr, lentK_t, lentK_f, io_own, io_val, io_tmp, io_none, bk_nil, bk_cons, b1_none, b1_some, backO_own, at_0, at_1, at_2, at_3, at_4, pr_idx_t, pr_idx_l, pr_idx_f, pr_len_t, pr_len_l, pr_len_f, pr_int, pr_int_t, pr_int_f, pr_abs, pr_min, pr_max, dr_ok, eq_int, eq_bl, List.cons_append, List.nil_append, List.append_nil, List.append_assoc, List.length_cons, List.length_nil, List.set_cons_zero, List.set_cons_succ, List.take_succ_cons, List.take_zero, List.take_nil, List.replicate_succ, List.replicate_zero, List.map_cons, List.map_nil, List.getElem?_cons_zero, List.getElem?_cons_succ, is0_non, is0_bl, is0_int, is0_str, is0_tup, is0_lst, is1_non, is1_bl, is1_int, is1_str, is1_tup, is1_lst, is2_non, is2_bl, is2_int, is2_str, is2_tup, is2_lst, is3_non, is3_bl, is3_int, is3_str, is3_tup, is3_lst, is4_non, is4_bl, is4_int, is4_str, is4_tup, is4_lst, ev_make, kMake_ok, kMk_ok, pr_fld0, pr_fld1, pr_fld2, pr_isc, pr_drop1, yes_eq, co_nil, co_cons, kCo1_ok, kCo2_ok, kCo3_ok, kCo4_ok, ev_comp2, kC2_ok, kC2e_ok, ns_non, clr_eq', kClr_t, iv_non, iv_val, cl_nil, cl_cons, kCl_b, kCl2_ok, kCl3_some, kComp_ok2, kCm_ok, pr_int_b, it_rng3, kI3_ok, kI3_ok', cp_in, cp_nin, isn_non, isn_tup, forL_nil, forL_cons, kFl_ok, kFb_nx, kFb_ct, kFb_bk, kFb_rt, sq_t, sq_l, kWhl_ok, kWb_nx, kWb_ct, kWb_bk, kWb_rt, lineN, cond_true, cond_false, Bool.cond_decide, Bool.not_true, Bool.not_false, Bool.and_true, Bool.true_and, Bool.and_false, Bool.false_and, Nat.zero_add, beq_self_eq_true, decide_true, decide_false, if_true, if_false, Bool.true_eq_false, Bool.false_eq_true, reduceIte, Nat.reduceAdd, Nat.reduceSub, Nat.reduceMul, Nat.reduceLeDiff, Nat.reduceBEq, Nat.reduceEqDiff, Int.reduceToNat, Int.reduceNeg, Nat.reduceLT, Nat.sub_self, u_cCell, List.length_map, h, e2]
    · refine ⟨0, ?_⟩
      simp only [getS_0, getS_s, ev_var, rdS_val, rdS_own, ev_cst, of_some, of_some', ev_bin, kBin_ok, kBin_ok', ev_cmp, kCmp_ok, kCmp_ok', kCmpR_some, ev_chn, kChn_ok, kChn_ok', kChn2_some, ev_and, kAnd_ok, ev_or, kOr_ok, ev_not, kNot_ok, ev_neg, kNeg_ok, ev_ite, kIteE_ok, es_nil, es_cons, kEs_ok, kEs_ok', ev_tup, ev_lst, kTup_ok, kLst_ok, ev_prim, kPrim_ok, ev_mix, kMix_ok, kMix_ok', kMix2_ok, as_nil, as_val, kAs_ok, kAs_ok', as_own, kOwn_ok, kOwn_ok', kOwn2_ok, as_tmp, kTmp_ok, ev_call, kCall_val, kCall_own, kV_ok, kV_exc, kCallR_ok, ev_callk, kCk_ok, kCk_ok', ev_comp, it_val, it_rng1, it_rng2, kI_ok, kI1_ok, kI2_ok, kI2_ok', ex_skip, ex_brk, ex_cnt, ex_seq, kSeq_nx, kSeq_rt, kSeq_bk, kSeq_ct, kSeq_exc, ex_asg, kAsg_ok, srof, put_eq, kPut_t, free_non, free_val, free_own, bind_name, bind_tup, bind_lst, all_nil, all_cons, kAll_some, ex_new, kNew_ok, ex_app, kApp_ok, kApp_ok', kApp2_ok, ex_put, kSto_ok, kSto1_ok, kSto2_ok, kSto3_0, ex_exp, kExp_ok, ex_ret, kRet_ok, ex_ite, kIte_ok, ex_for, kFor_ok, ex_whl, fin_nx, fin_rt, bn_add, bn_sub, bn_cat, bn_rep2, cp_lt, cp_le, cp_gt, cp_ge, cp_eq, cp_is, cp_nis, cp_ne, kNe_some, av_val, av_tmp, av_own, avO_own, pm_eq, pg_nil, pg_inl, pg_inr, pd_nil, pd_inl, pd_inr, gd_0, gd_s, nw_nil, nw_val, nw_tmp, nw_own, no_nil, no_val, no_tmp, no_own, lt_nil, lt_inl, lt_inr, lentK_t, lentK_f, io_own, io_val, io_tmp, io_none, bk_nil, bk_cons, b1_none, b1_some, backO_own, at_0, at_1, at_2, at_3, at_4, pr_idx_t, pr_idx_l, pr_idx_f, pr_len_t, pr_len_l, pr_len_f, pr_int, pr_int_t, pr_int_f, pr_abs, pr_min, pr_max, dr_ok, eq_int, eq_bl, List.cons_append, List.nil_append, List.append_nil, List.append_assoc, List.length_cons, List.length_nil, List.set_cons_zero, List.set_cons_succ, List.take_succ_cons, List.take_zero, List.take_nil, List.replicate_succ, List.replicate_zero, List.map_cons, List.map_nil, List.getElem?_cons_zero, List.getElem?_cons_succ, is0_non, is0_bl, is0_int, is0_str, is0_tup, is0_lst, is1_non, is1_bl, is1_int, is1_str, is1_tup, is1_lst, is2_non, is2_bl, is2_int, is2_str, is2_tup, is2_lst, is3_non, is3_bl, is3_int, is3_str, is3_tup, is3_lst, is4_non, is4_bl, is4_int, is4_str, is4_tup, is4_lst, ev_make, kMake_ok, kMk_ok, pr_fld0, pr_fld1, pr_fld2, pr_isc, pr_drop1, yes_eq, co_nil, co_cons, kCo1_ok, kCo2_ok, kCo3_ok, kCo4_ok, ev_comp2, kC2_ok, kC2e_ok, ns_non, clr_eq', kClr_t, iv_non, iv_val, cl_nil, cl_cons, kCl_b, kCl2_ok, kCl3_some, kComp_ok2, kCm_ok, pr_int_b, it_rng3, kI3_ok, kI3_ok', cp_in, cp_nin, isn_non, isn_tup, forL_nil, forL_cons, kFl_ok, kFb_nx, kFb_ct, kFb_bk, kFb_rt, sq_t, sq_l, kWhl_ok, kWb_nx, kWb_ct, kWb_bk, kWb_rt, lineN, cond_true, cond_false, Bool.cond_decide, Bool.not_true, Bool.not_false, Bool.and_true, Bool.true_and, Bool.and_false, Bool.false_and, Nat.zero_add, beq_self_eq_true, decide_true, decide_false, if_true, if_false, Bool.true_eq_false, Bool.false_eq_true, reduceIte, Nat.reduceAdd, Nat.reduceSub, Nat.reduceMul, Nat.reduceLeDiff, Nat.reduceBEq, Nat.reduceEqDiff, Int.reduceToNat, Int.reduceNeg, Nat.reduceLT, Nat.sub_self, u_cCell, List.length_map, h]
  obtain ⟨c, e⟩ := step
  rw [e]
  have w18 : bin .pow (.int 10) (.int 18) = some (.int 1000000000000000000) := bn_pow (by decide +kernel)
  have w60 : bin .pow (.int 10) (.int 60) = some (.int 1000000000000000000000000000000000000000000000000000000000000) := bn_pow (by decide +kernel)
  have x1 : bin .mul (.int 1000000000000000000000000000000000000000000000000000000000000) (.int 1000000000000000000000000000000000000000000000000000000000000) = some (.int 1000000000000000000000000000000000000000000000000000000000000000000000000000000000000000000000000000000000000000000000000) := bn_mul (mul_ok (m := 200) (n := 200) (by decide +kernel) (by decide +kernel) (by decide))
  have x2 : bin .mul (.int 1000000000000000000000000000000000000000000000000000000000000000000000000000000000000000000000000000000000000000000000000) (.int 1000000000000000000000000000000000000000000000000000000000000) = some (.int 1000000000000000000000000000000000000000000000000000000000000000000000000000000000000000000000000000000000000000000000000000000000000000000000000000000000000000000000000000000000000) := bn_mul (mul_ok (m := 400) (n := 200) (by decide +kernel) (by decide +kernel) (by decide))
  have x3 : bin .mul (.int 1000000000000000000000000000000000000000000000000000000000000000000000000000000000000000000000000000000000000000000000000000000000000000000000000000000000000000000000000000000000000) (.int 1000000000000000000000000000000000000000000000000000000000000) = some (.int 1000000000000000000000000000000000000000000000000000000000000000000000000000000000000000000000000000000000000000000000000000000000000000000000000000000000000000000000000000000000000000000000000000000000000000000000000000000000000000000000000) := bn_mul (mul_ok (m := 600) (n := 200) (by decide +kernel) (by decide +kernel) (by decide))
  by_cases h : 1000000000000000000 ≤ c
  · have hp : (0 : Int) < 1000000000000000000000000000000000000000000000000000000000000000000000000000000000000000000000000000000000000000000000000000000000000000000000000000000000000000000000000000000000000000000000000000000000000000000000000000000000000000000000000 := by decide +kernel
    refine ⟨(c - 1000000000000000000) % 1000000000000000000000000000000000000000000000000000000000000000000000000000000000000000000000000000000000000000000000000000000000000000000000000000000000000000000000000000000000000000000000000000000000000000000000000000000000000000000000000, ?_, Int.emod_nonneg _ (Int.ne_of_gt hp), Int.lt_trans (Int.emod_lt_of_pos _ hp) (by decide +kernel)⟩
    simp only [getS_0, getS_s, ev_var, rdS_val, rdS_own, ev_cst, of_some, of_some', ev_bin, kBin_ok, kBin_ok', ev_cmp, kCmp_ok, kCmp_ok', kCmpR_some, ev_chn, kChn_ok, kChn_ok', kChn2_some, ev_and, kAnd_ok, ev_or, kOr_ok, ev_not, kNot_ok, ev_neg, kNeg_ok, ev_ite, kIteE_ok, es_nil, es_cons, kEs_ok, kEs_ok', ev_tup, ev_lst, kTup_ok, kLst_ok, ev_prim, kPrim_ok, ev_mix, kMix_ok, kMix_ok', kMix2_ok, as_nil, as_val, kAs_ok, kAs_ok', as_own, kOwn_ok, kOwn_ok', kOwn2_ok, as_tmp, kTmp_ok, ev_call, kCall_val, kCall_own, kV_ok, kV_exc, kCallR_ok, ev_callk, kCk_ok, kCk_ok', ev_comp, it_val, it_rng1, it_rng2, kI_ok, kI1_ok, kI2_ok, kI2_ok', ex_skip, ex_brk, ex_cnt, ex_seq, kSeq_nx, kSeq_rt, kSeq_bk, kSeq_ct, kSeq_exc, ex_asg, kAsg_ok, srof, put_eq, kPut_t, free_non, free_val, free_own, bind_name, bind_tup, bind_lst, all_nil, all_cons, kAll_some, ex_new, kNew_ok, ex_app, kApp_ok, kApp_ok', kApp2_ok, ex_put, kSto_ok, kSto1_ok, kSto2_ok, kSto3_0, ex_exp, kExp_ok, ex_ret, kRet_ok, ex_ite, kIte_ok, ex_for, kFor_ok, ex_whl, fin_nx, fin_rt, bn_add, bn_sub, bn_cat, bn_rep2, cp_lt, cp_le, cp_gt, cp_ge, cp_eq, cp_is, cp_nis, cp_ne, kNe_some, av_val, av_tmp, av_own, avO_own, pm_eq, pg_nil, pg_inl, pg_inr, pd_nil, pd_inl, pd_inr, gd_0, gd_s, nw_nil, nw_val, nw_tmp, nw_own, no_nil, no_val, no_tmp, no_own, lt_nil, lt_inl, lt_inr, lentK_t, lentK_f, io_own, io_val, io_tmp, io_none, bk_nil, bk_cons, b1_none, b1_some, backO_own, at_0, at_1, at_2, at_3, at_4, pr_idx_t, pr_idx_l, pr_idx_f, pr_len_t, pr_len_l, pr_len_f, pr_int, pr_int_t, pr_int_f, pr_abs, pr_min, pr_max, dr_ok, eq_int, eq_bl, List.cons_append, List.nil_append, List.append_nil, List.append_assoc, List.length_cons, List.length_nil, List.set_cons_zero, List.set_cons_succ, List.take_succ_cons, List.take_zero, List.take_nil, List.replicate_succ, List.replicate_zero, List.map_cons, List.map_nil, List.getElem?_cons_zero, List.getElem?_cons_succ, is0_non, is0_bl, is0_int, is0_str, is0_tup, is0_lst, is1_non, is1_bl, is1_int, is1_str, is1_tup, is1_lst, is2_non, is2_bl, is2_int, is2_str, is2_tup, is2_lst, is3_non, is3_bl, is3_int, is3_str, is3_tup, is3_lst, is4_non, is4_bl, is4_int, is4_str, is4_tup, is4_lst, ev_make, kMake_ok, kMk_ok, pr_fld0, pr_fld1, pr_fld2, pr_isc, pr_drop1, yes_eq, co_nil, co_cons, kCo1_ok, kCo2_ok, kCo3_ok, kCo4_ok, ev_comp2, kC2_ok, kC2e_ok, ns_non, clr_eq', kClr_t, iv_non, iv_val, cl_nil, cl_cons, kCl_b, kCl2_ok, kCl3_some, kComp_ok2, kCm_ok, pr_int_b, it_rng3, kI3_ok, kI3_ok', cp_in, cp_nin, isn_non, isn_tup, forL_nil, forL_cons, kFl_ok, kFb_nx, kFb_ct, kFb_bk, kFb_rt, sq_t, sq_l, kWhl_ok, kWb_nx, kWb_ct, kWb_bk, kWb_rt, lineN, cond_true, cond_false, Bool.cond_decide, Bool.not_true, Bool.not_false, Bool.and_true, Bool.true_and, Bool.and_false, Bool.false_and, Nat.zero_add, beq_self_eq_true, decide_true, decide_false, if_true, if_false, Bool.true_eq_false, Bool.false_eq_true, reduceIte, Nat.reduceAdd, Nat.reduceSub, Nat.reduceMul, Nat.reduceLeDiff, Nat.reduceBEq, Nat.reduceEqDiff, Int.reduceToNat, Int.reduceNeg, Nat.reduceLT, Nat.sub_self, u_cCellR, w18, w60, x1, x2, x3, bn_mod hp, h]
  · obtain ⟨fo', t', e3, h3, h4⟩ := cell_loop (F := F) (k := k) hM (.val (.frz (ns.map .int))) j c hj0 hj1 24 0 0 .non (by omega) (by omega) (by decide) rfl
    have e4 : rng ((0 : Nat) : Int) 24 = rng 0 24 := rfl
    rw [e4] at e3
    have ro : rngOk 24 = true := rfl
    refine ⟨fo', ?_, h3, by simpa using h4⟩
    simp only [getS_0, getS_s, ev_var, rdS_val, rdS_own, ev_cst, of_some, of_some', ev_bin, kBin_ok, kBin_ok', ev_cmp, kCmp_ok, kCmp_ok', kCmpR_some, ev_chn, kChn_ok, kChn_ok', kChn2_some, ev_and, kAnd_ok, ev_or, kOr_ok, ev_not, kNot_ok, ev_neg, kNeg_ok, ev_ite, kIteE_ok, es_nil, es_cons, kEs_ok, kEs_ok', ev_tup, ev_lst, kTup_ok, kLst_ok, ev_prim, kPrim_ok, ev_mix, kMix_ok, kMix_ok', kMix2_ok, as_nil, as_val, kAs_ok, kAs_ok', as_own, kOwn_ok, kOwn_ok', kOwn2_ok, as_tmp, kTmp_ok, ev_call, kCall_val, kCall_own, kV_ok, kV_exc, kCallR_ok, ev_callk, kCk_ok, kCk_ok', ev_comp, it_val, it_rng1, it_rng2, kI_ok, kI1_ok, kI2_ok, kI2_ok', ex_skip, ex_brk, ex_cnt, ex_seq, kSeq_nx, kSeq_rt, kSeq_bk, kSeq_ct, kSeq_exc, ex_asg, kAsg_ok, srof, put_eq, kPut_t, free_non, free_val, free_own, bind_name, bind_tup, bind_lst, all_nil, all_cons, kAll_some, ex_new, kNew_ok, ex_app, kApp_ok, kApp_ok', kApp2_ok, ex_put, kSto_ok, kSto1_ok, kSto2_ok, kSto3_0, ex_exp, kExp_ok, ex_ret, kRet_ok, ex_ite, kIte_ok, ex_for, kFor_ok, ex_whl, fin_nx, fin_rt, bn_add, bn_sub, bn_cat, bn_rep2, cp_lt, cp_le, cp_gt, cp_ge, cp_eq, cp_is, cp_nis, cp_ne, kNe_some, av_val, av_tmp, av_own, avO_own, pm_eq, pg_nil, pg_inl, pg_inr, pd_nil, pd_inl, pd_inr, gd_0, gd_s, nw_nil, nw_val, nw_tmp, nw_own, no_nil, no_val, no_tmp, no_own, lt_nil, lt_inl, lt_inr, lentK_t, lentK_f, io_own, io_val, io_tmp, io_none, bk_nil, bk_cons, b1_none, b1_some, backO_own, at_0, at_1, at_2, at_3, at_4, pr_idx_t, pr_idx_l, pr_idx_f, pr_len_t, pr_len_l, pr_len_f, pr_int, pr_int_t, pr_int_f, pr_abs, pr_min, pr_max, dr_ok, eq_int, eq_bl, List.cons_append, List.nil_append, List.append_nil, List.append_assoc, List.length_cons, List.length_nil, List.set_cons_zero, List.set_cons_succ, List.take_succ_cons, List.take_zero, List.take_nil, List.replicate_succ, List.replicate_zero, List.map_cons, List.map_nil, List.getElem?_cons_zero, List.getElem?_cons_succ, is0_non, is0_bl, is0_int, is0_str, is0_tup, is0_lst, is1_non, is1_bl, is1_int, is1_str, is1_tup, is1_lst, is2_non, is2_bl, is2_int, is2_str, is2_tup, is2_lst, is3_non, is3_bl, is3_int, is3_str, is3_tup, is3_lst, is4_non, is4_bl, is4_int, is4_str, is4_tup, is4_lst, ev_make, kMake_ok, kMk_ok, pr_fld0, pr_fld1, pr_fld2, pr_isc, pr_drop1, yes_eq, co_nil, co_cons, kCo1_ok, kCo2_ok, kCo3_ok, kCo4_ok, ev_comp2, kC2_ok, kC2e_ok, ns_non, clr_eq', kClr_t, iv_non, iv_val, cl_nil, cl_cons, kCl_b, kCl2_ok, kCl3_some, kComp_ok2, kCm_ok, pr_int_b, it_rng3, kI3_ok, kI3_ok', cp_in, cp_nin, isn_non, isn_tup, forL_nil, forL_cons, kFl_ok, kFb_nx, kFb_ct, kFb_bk, kFb_rt, sq_t, sq_l, kWhl_ok, kWb_nx, kWb_ct, kWb_bk, kWb_rt, lineN, cond_true, cond_false, Bool.cond_decide, Bool.not_true, Bool.not_false, Bool.and_true, Bool.true_and, Bool.and_false, Bool.false_and, Nat.zero_add, beq_self_eq_true, decide_true, decide_false, if_true, if_false, Bool.true_eq_false, Bool.false_eq_true, reduceIte, Nat.reduceAdd, Nat.reduceSub, Nat.reduceMul, Nat.reduceLeDiff, Nat.reduceBEq, Nat.reduceEqDiff, Int.reduceToNat, Int.reduceNeg, Nat.reduceLT, Nat.sub_self, u_cCellR, w18, h, u_cCellF, kI1_ok ro, e3]
/-! ### the odd part -/
def cOddL : St := (.seq (.asg (.name 0) (.bin .fdv (.var 0) (.cst (.int (2))))) (.seq (.asg (.name 1) (.bin .add (.var 1) (.cst (.int (1))))) .skip))
theorem u_cOddL {C : Cx} {r : List S} : exS C cOddL r = exS C (.seq (.asg (.name 0) (.bin .fdv (.var 0) (.cst (.int (2))))) (.seq (.asg (.name 1) (.bin .add (.var 1) (.cst (.int (1))))) .skip)) r := byRfl rfl
def cOddC : E := (.cmp .eq (.bin .mod (.var 0) (.cst (.int (2)))) (.cst (.int (0))))
theorem u_cOddC {C : Cx} {r : List S} : evE C cOddC r = evE C (.cmp .eq (.bin .mod (.var 0) (.cst (.int (2)))) (.cst (.int (0)))) r := byRfl rfl
def cOdd : St := (.seq (.ite (.cmp .eq (.var 0) (.cst (.int (0)))) (.seq (.ret (.tup (.cons (.cst (.int (0))) (.cons (.cst (.int (0))) .nil)))) .skip) .skip) (.seq (.whl cOddC cOddL) (.seq (.ret (.tup (.cons (.var 0) (.cons (.var 1) .nil)))) .skip)))
theorem u_cOdd {C : Cx} {r : List S} : exS C cOdd r = exS C (.seq (.ite (.cmp .eq (.var 0) (.cst (.int (0)))) (.seq (.ret (.tup (.cons (.cst (.int (0))) (.cons (.cst (.int (0))) .nil)))) .skip) .skip) (.seq (.whl cOddC cOddL) (.seq (.ret (.tup (.cons (.var 0) (.cons (.var 1) .nil)))) .skip))) r := byRfl rfl
theorem odd_loop {C : Cx} : ∀ (b n : Nat) (m e : Int), m ≠ 0 → m.natAbs < 2 ^ b → b < n → whl (evE C cOddC) (exS C cOddL) n [.val (.int m), .val (.int e)] = .nx [.val (.int (NM m)), .val (.int (NE m e))]
  | 0, n, m, e, h0, h1, h2 => by simp at h1; omega
  | b + 1, 0, m, e, h0, h1, h2 => by omega
  | b + 1, n + 1, m, e, h0, h1, h2 => by
    rw [whl_s]
    have hn : ∀ x, Builtin.divisionGoesByPylong x 2 = false := fun x => no_py (by decide +kernel)
    by_cases h : m % 2 = 0
    · obtain ⟨g1, g2, g3⟩ := nm_div (j := 1) h0 (by simpa using h)
      rw [Int.pow_one] at g1 g2 g3
      have ih := odd_loop (C := C) b n (m / 2) (e + 1) g1 (by have := Nat.pow_succ (n := 2) (m := b); omega) (by omega)
      rw [g2, show NE (m / 2) (e + 1) = NE m e from g3 e] at ih
      simp only [getS_0, getS_s, ev_var, rdS_val, rdS_own, ev_cst, of_some, of_some', ev_bin, kBin_ok, kBin_ok', ev_cmp, kCmp_ok, kCmp_ok', kCmpR_some, ev_chn, kChn_ok, kChn_ok', kChn2_some, ev_and, kAnd_ok, ev_or, kOr_ok, ev_not, kNot_ok, ev_neg, kNeg_ok, ev_ite, kIteE_ok, es_nil, es_cons, kEs_ok, kEs_ok', ev_tup, ev_lst, kTup_ok, kLst_ok, ev_prim, kPrim_ok, ev_mix, kMix_ok, kMix_ok', kMix2_ok, as_nil, as_val, kAs_ok, kAs_ok', as_own, kOwn_ok, kOwn_ok', kOwn2_ok, as_tmp, kTmp_ok, ev_call, kCall_val, kCall_own, kV_ok, kV_exc, kCallR_ok, ev_callk, kCk_ok, kCk_ok', ev_comp, it_val, it_rng1, it_rng2, kI_ok, kI1_ok, kI2_ok, kI2_ok', ex_skip, ex_brk, ex_cnt, ex_seq, kSeq_nx, kSeq_rt, kSeq_bk, kSeq_ct, kSeq_exc, ex_asg, kAsg_ok, srof, put_eq, kPut_t, free_non, free_val, free_own, bind_name, bind_tup, bind_lst, all_nil, all_cons, kAll_some, ex_new, kNew_ok, ex_app, kApp_ok, kApp_ok', kApp2_ok, ex_put, kSto_ok, kSto1_ok, kSto2_ok, kSto3_0, ex_exp, kExp_ok, ex_ret, kRet_ok, ex_ite, kIte_ok, ex_for, kFor_ok, ex_whl, fin_nx, fin_rt, bn_add, bn_sub, bn_cat, bn_rep2, cp_lt, cp_le, cp_gt, cp_ge, cp_eq, cp_is, cp_nis, cp_ne, kNe_some, av_val, av_tmp, av_own, avO_own, pm_eq, pg_nil, pg_inl, pg_inr, pd_nil, pd_inl, pd_inr, gd_0, gd_s, nw_nil, nw_val, nw_tmp, nw_own, no_nil, no_val, no_tmp, no_own, lt_nil, lt_inl, lt_inr, lentK_t, lentK_f, io_own, io_val, io_tmp, io_none, bk_nil, bk_cons, b1_none, b1_some, backO_own, at_0, at_1, at_2, at_3, at_4, pr_idx_t, pr_idx_l, pr_idx_f, pr_len_t, pr_len_l, pr_len_f, pr_int, pr_int_t, pr_int_f, pr_abs, pr_min, pr_max, dr_ok, eq_int, eq_bl, List.cons_append, List.nil_append, List.append_nil, List.append_assoc, List.length_cons, List.length_nil, List.set_cons_zero, List.set_cons_succ, List.take_succ_cons, List.take_zero, List.take_nil, List.replicate_succ, List.replicate_zero, List.map_cons, List.map_nil, List.getElem?_cons_zero, List.getElem?_cons_succ, is0_non, is0_bl, is0_int, is0_str, is0_tup, is0_lst, is1_non, is1_bl, is1_int, is1_str, is1_tup, is1_lst, is2_non, is2_bl, is2_int, is2_str, is2_tup, is2_lst, is3_non, is3_bl, is3_int, is3_str, is3_tup, is3_lst, is4_non, is4_bl, is4_int, is4_str, is4_tup, is4_lst, ev_make, kMake_ok, kMk_ok, pr_fld0, pr_fld1, pr_fld2, pr_isc, pr_drop1, yes_eq, co_nil, co_cons, kCo1_ok, kCo2_ok, kCo3_ok, kCo4_ok, ev_comp2, kC2_ok, kC2e_ok, ns_non, clr_eq', kClr_t, iv_non, iv_val, cl_nil, cl_cons, kCl_b, kCl2_ok, kCl3_some, kComp_ok2, kCm_ok, pr_int_b, it_rng3, kI3_ok, kI3_ok', cp_in, cp_nin, isn_non, isn_tup, forL_nil, forL_cons, kFl_ok, kFb_nx, kFb_ct, kFb_bk, kFb_rt, sq_t, sq_l, kWhl_ok, kWb_nx, kWb_ct, kWb_bk, kWb_rt, lineN, cond_true, cond_false, Bool.cond_decide, Bool.not_true, Bool.not_false, Bool.and_true, Bool.true_and, Bool.and_false, Bool.false_and, Nat.zero_add, beq_self_eq_true, decide_true, decide_false, if_true, if_false, Bool.true_eq_false, Bool.false_eq_true, reduceIte, Nat.reduceAdd, Nat.reduceSub, Nat.reduceMul, Nat.reduceLeDiff, Nat.reduceBEq, Nat.reduceEqDiff, Int.reduceToNat, Int.reduceNeg, Nat.reduceLT, Nat.sub_self, u_cOddC, u_cOddL, bn_mod, Int.reduceLT, bn_fdv, hn, h, ih]
    · obtain ⟨g1, g2⟩ := nm_odd (m := m) (by omega)
      have hb : (m % 2 == 0) = false := by simpa using h
      simp only [getS_0, getS_s, ev_var, rdS_val, rdS_own, ev_cst, of_some, of_some', ev_bin, kBin_ok, kBin_ok', ev_cmp, kCmp_ok, kCmp_ok', kCmpR_some, ev_chn, kChn_ok, kChn_ok', kChn2_some, ev_and, kAnd_ok, ev_or, kOr_ok, ev_not, kNot_ok, ev_neg, kNeg_ok, ev_ite, kIteE_ok, es_nil, es_cons, kEs_ok, kEs_ok', ev_tup, ev_lst, kTup_ok, kLst_ok, ev_prim, kPrim_ok, ev_mix, kMix_ok, kMix_ok', kMix2_ok, as_nil, as_val, kAs_ok, kAs_ok', as_own, kOwn_ok, kOwn_ok', kOwn2_ok, as_tmp, kTmp_ok, ev_call, kCall_val, kCall_own, kV_ok, kV_exc, kCallR_ok, ev_callk, kCk_ok, kCk_ok', ev_comp, it_val, it_rng1, it_rng2, kI_ok, kI1_ok, kI2_ok, kI2_ok', ex_skip, ex_brk, ex_cnt, ex_seq, kSeq_nx, kSeq_rt, kSeq_bk, kSeq_ct, kSeq_exc, ex_asg, kAsg_ok, srof, put_eq, kPut_t, free_non, free_val, free_own, bind_name, bind_tup, bind_lst, all_nil, all_cons, kAll_some, ex_new, kNew_ok, ex_app, kApp_ok, kApp_ok', kApp2_ok, ex_put, kSto_ok, kSto1_ok, kSto2_ok, kSto3_0, ex_exp, kExp_ok, ex_ret, kRet_ok, ex_ite, kIte_ok, ex_for, kFor_ok, ex_whl, fin_nx, fin_rt, bn_add, bn_sub, bn_cat, bn_rep2, cp_lt, cp_le, cp_gt, cp_ge, cp_eq, cp_is, cp_nis, cp_ne, kNe_some, av_val, av_tmp, av_own, avO_own, pm_eq, pg_nil, pg_inl, pg_inr, pd_nil, pd_inl, pd_inr, gd_0, gd_s, nw_nil, nw_val, nw_tmp, nw_own, no_nil, no_val, no_tmp, no_own, lt_nil, lt_inl, lt_inr, lentK_t, lentK_f, io_own, io_val, io_tmp, io_none, bk_nil, bk_cons, b1_none, b1_some, backO_own, at_0, at_1, at_2, at_3, at_4, pr_idx_t, pr_idx_l, pr_idx_f, pr_len_t, pr_len_l, pr_len_f, pr_int, pr_int_t, pr_int_f, pr_abs, pr_min, pr_max, dr_ok, eq_int, eq_bl, List.cons_append, List.nil_append, List.append_nil, List.append_assoc, List.length_cons, List.length_nil, List.set_cons_zero, List.set_cons_succ, List.take_succ_cons, List.take_zero, List.take_nil, List.replicate_succ, List.replicate_zero, List.map_cons, List.map_nil, List.getElem?_cons_zero, List.getElem?_cons_succ, is0_non, is0_bl, is0_int, is0_str, is0_tup, is0_lst, is1_non, is1_bl, is1_int, is1_str, is1_tup, is1_lst, is2_non, is2_bl, is2_int, is2_str, is2_tup, is2_lst, is3_non, is3_bl, is3_int, is3_str, is3_tup, is3_lst, is4_non, is4_bl, is4_int, is4_str, is4_tup, is4_lst, ev_make, kMake_ok, kMk_ok, pr_fld0, pr_fld1, pr_fld2, pr_isc, pr_drop1, yes_eq, co_nil, co_cons, kCo1_ok, kCo2_ok, kCo3_ok, kCo4_ok, ev_comp2, kC2_ok, kC2e_ok, ns_non, clr_eq', kClr_t, iv_non, iv_val, cl_nil, cl_cons, kCl_b, kCl2_ok, kCl3_some, kComp_ok2, kCm_ok, pr_int_b, it_rng3, kI3_ok, kI3_ok', cp_in, cp_nin, isn_non, isn_tup, forL_nil, forL_cons, kFl_ok, kFb_nx, kFb_ct, kFb_bk, kFb_rt, sq_t, sq_l, kWhl_ok, kWb_nx, kWb_ct, kWb_bk, kWb_rt, lineN, cond_true, cond_false, Bool.cond_decide, Bool.not_true, Bool.not_false, Bool.and_true, Bool.true_and, Bool.and_false, Bool.false_and, Nat.zero_add, beq_self_eq_true, decide_true, decide_false, if_true, if_false, Bool.true_eq_false, Bool.false_eq_true, reduceIte, Nat.reduceAdd, Nat.reduceSub, Nat.reduceMul, Nat.reduceLeDiff, Nat.reduceBEq, Nat.reduceEqDiff, Int.reduceToNat, Int.reduceNeg, Nat.reduceLT, Nat.sub_self, u_cOddC, bn_mod, Int.reduceLT, hb, g1, g2]
theorem sp_odd (hT : T f = some ⟨2, 2, cOdd⟩) (hF : 6000 ≤ F) {m e : Int} (hb : m.natAbs < 2 ^ 5000) : dropR (run T F (k + 1) f [.val (.int m), .val (.int e)]) = .ok (.tup [.int (NM m), .int (NE m e)]) [] := by
  rw [rnT hT]
  by_cases h : m = 0
  · subst h
    simp only [getS_0, getS_s, ev_var, rdS_val, rdS_own, ev_cst, of_some, of_some', ev_bin, kBin_ok, kBin_ok', ev_cmp, kCmp_ok, kCmp_ok', kCmpR_some, ev_chn, kChn_ok, kChn_ok', kChn2_some, ev_and, kAnd_ok, ev_or, kOr_ok, ev_not, kNot_ok, ev_neg, kNeg_ok, ev_ite, kIteE_ok, es_nil, es_cons, kEs_ok, kEs_ok', ev_tup, ev_lst, kTup_ok, kLst_ok, ev_prim, kPrim_ok, ev_mix, kMix_ok, kMix_ok', kMix2_ok, as_nil, as_val, kAs_ok, kAs_ok', as_own, kOwn_ok, kOwn_ok', kOwn2_ok, as_tmp, kTmp_ok, ev_call, kCall_val, kCall_own, kV_ok, kV_exc, kCallR_ok, ev_callk, kCk_ok, kCk_ok', ev_comp, it_val, it_rng1, it_rng2, kI_ok, kI1_ok, kI2_ok, kI2_ok', ex_skip, ex_brk, ex_cnt, ex_seq, kSeq_nx, kSeq_rt, kSeq_bk, kSeq_ct, kSeq_exc, ex_asg, kAsg_ok, srof, put_eq, kPut_t, free_non, free_val, free_own, bind_name, bind_tup, bind_lst, all_nil, all_cons, kAll_some, ex_new, kNew_ok, ex_app, kApp_ok, kApp_ok', kApp2_ok, ex_put, kSto_ok, kSto1_ok, kSto2_ok, kSto3_0, ex_exp, kExp_ok, ex_ret, kRet_ok, ex_ite, kIte_ok, ex_for, kFor_ok, ex_whl, fin_nx, fin_rt, bn_add, bn_sub, bn_cat, bn_rep2, cp_lt, cp_le, cp_gt, cp_ge, cp_eq, cp_is, cp_nis, cp_ne, kNe_some, av_val, av_tmp, av_own, avO_own, pm_eq, pg_nil, pg_inl, pg_inr, pd_nil, pd_inl, pd_inr, gd_0, gd_s, nw_nil, nw_val, nw_tmp, nw_own, no_nil, no_val, no_tmp, no_own, lt_nil, lt_inl, lt_inr, lentK_t, lentK_f, io_own, io_val, io_tmp, io_none, bk_nil, bk_cons, b1_none, b1_some, backO_own, at_0, at_1, at_2, at_3, at_4, pr_idx_t, pr_idx_l, pr_idx_f, pr_len_t, pr_len_l, pr_len_f, pr_int, pr_int_t, pr_int_f, pr_abs, pr_min, pr_max, dr_ok, eq_int, eq_bl, List.cons_append, List.nil_append, List.append_nil, List.append_assoc, List.length_cons, List.length_nil, List.set_cons_zero, List.set_cons_succ, List.take_succ_cons, List.take_zero, List.take_nil, List.replicate_succ, List.replicate_zero, List.map_cons, List.map_nil, List.getElem?_cons_zero, List.getElem?_cons_succ, is0_non, is0_bl, is0_int, is0_str, is0_tup, is0_lst, is1_non, is1_bl, is1_int, is1_str, is1_tup, is1_lst, is2_non, is2_bl, is2_int, is2_str, is2_tup, is2_lst, is3_non, is3_bl, is3_int, is3_str, is3_tup, is3_lst, is4_non, is4_bl, is4_int, is4_str, is4_tup, is4_lst, ev_make, kMake_ok, kMk_ok, pr_fld0, pr_fld1, pr_fld2, pr_isc, pr_drop1, yes_eq, co_nil, co_cons, kCo1_ok, kCo2_ok, kCo3_ok, kCo4_ok, ev_comp2, kC2_ok, kC2e_ok, ns_non, clr_eq', kClr_t, iv_non, iv_val, cl_nil, cl_cons, kCl_b, kCl2_ok, kCl3_some, kComp_ok2, kCm_ok, pr_int_b, it_rng3, kI3_ok, kI3_ok', cp_in, cp_nin, isn_non, isn_tup, forL_nil, forL_cons, kFl_ok, kFb_nx, kFb_ct, kFb_bk, kFb_rt, sq_t, sq_l, kWhl_ok, kWb_nx, kWb_ct, kWb_bk, kWb_rt, lineN, cond_true, cond_false, Bool.cond_decide, Bool.not_true, Bool.not_false, Bool.and_true, Bool.true_and, Bool.and_false, Bool.false_and, Nat.zero_add, beq_self_eq_true, decide_true, decide_false, if_true, if_false, Bool.true_eq_false, Bool.false_eq_true, reduceIte, Nat.reduceAdd, Nat.reduceSub, Nat.reduceMul, Nat.reduceLeDiff, Nat.reduceBEq, Nat.reduceEqDiff, Int.reduceToNat, Int.reduceNeg, Nat.reduceLT, Nat.sub_self, u_cOdd, nm0, ne0]
  · have h2 : (m == 0) = false := by simpa using h
    have ih := odd_loop (C := ⟨run T F k, F⟩) 5000 F m e h hb (by omega)
    simp only [getS_0, getS_s, ev_var, rdS_val, rdS_own, ev_cst, of_some, of_some', ev_bin, kBin_ok, kBin_ok', ev_cmp, kCmp_ok, kCmp_ok', kCmpR_some, ev_chn, kChn_ok, kChn_ok', kChn2_some, ev_and, kAnd_ok, ev_or, kOr_ok, ev_not, kNot_ok, ev_neg, kNeg_ok, ev_ite, kIteE_ok, es_nil, es_cons, kEs_ok, kEs_ok', ev_tup, ev_lst, kTup_ok, kLst_ok, ev_prim, kPrim_ok, ev_mix, kMix_ok, kMix_ok', kMix2_ok, as_nil, as_val, kAs_ok, kAs_ok', as_own, kOwn_ok, kOwn_ok', kOwn2_ok, as_tmp, kTmp_ok, ev_call, kCall_val, kCall_own, kV_ok, kV_exc, kCallR_ok, ev_callk, kCk_ok, kCk_ok', ev_comp, it_val, it_rng1, it_rng2, kI_ok, kI1_ok, kI2_ok, kI2_ok', ex_skip, ex_brk, ex_cnt, ex_seq, kSeq_nx, kSeq_rt, kSeq_bk, kSeq_ct, kSeq_exc, ex_asg, kAsg_ok, srof, put_eq, kPut_t, free_non, free_val, free_own, bind_name, bind_tup, bind_lst, all_nil, all_cons, kAll_some, ex_new, kNew_ok, ex_app, kApp_ok, kApp_ok', kApp2_ok, ex_put, kSto_ok, kSto1_ok, kSto2_ok, kSto3_0, ex_exp, kExp_ok, ex_ret, kRet_ok, ex_ite, kIte_ok, ex_for, kFor_ok, ex_whl, fin_nx, fin_rt, bn_add, bn_sub, bn_cat, bn_rep2, cp_lt, cp_le, cp_gt, cp_ge, cp_eq, cp_is, cp_nis, cp_ne, kNe_some, av_val, av_tmp, av_own, avO_own, pm_eq, pg_nil, pg_inl, pg_inr, pd_nil, pd_inl, pd_inr, gd_0, gd_s, nw_nil, nw_val, nw_tmp, nw_own, no_nil, no_val, no_tmp, no_own, lt_nil, lt_inl, lt_inr, lentK_t, lentK_f, io_own, io_val, io_tmp, io_none, bk_nil, bk_cons, b1_none, b1_some, backO_own, at_0, at_1, at_2, at_3, at_4, pr_idx_t, pr_idx_l, pr_idx_f, pr_len_t, pr_len_l, pr_len_f, pr_int, pr_int_t, pr_int_f, pr_abs, pr_min, pr_max, dr_ok, eq_int, eq_bl, List.cons_append, List.nil_append, List.append_nil, List.append_assoc, List.length_cons, List.length_nil, List.set_cons_zero, List.set_cons_succ, List.take_succ_cons, List.take_zero, List.take_nil, List.replicate_succ, List.replicate_zero, List.map_cons, List.map_nil, List.getElem?_cons_zero, List.getElem?_cons_succ, is0_non, is0_bl, is0_int, is0_str, is0_tup, is0_lst, is1_non, is1_bl, is1_int, is1_str, is1_tup, is1_lst, is2_non, is2_bl, is2_int, is2_str, is2_tup, is2_lst, is3_non, is3_bl, is3_int, is3_str, is3_tup, is3_lst, is4_non, is4_bl, is4_int, is4_str, is4_tup, is4_lst, ev_make, kMake_ok, kMk_ok, pr_fld0, pr_fld1, pr_fld2, pr_isc, pr_drop1, yes_eq, co_nil, co_cons, kCo1_ok, kCo2_ok, kCo3_ok, kCo4_ok, ev_comp2, kC2_ok, kC2e_ok, ns_non, clr_eq', kClr_t, iv_non, iv_val, cl_nil, cl_cons, kCl_b, kCl2_ok, kCl3_some, kComp_ok2, kCm_ok, pr_int_b, it_rng3, kI3_ok, kI3_ok', cp_in, cp_nin, isn_non, isn_tup, forL_nil, forL_cons, kFl_ok, kFb_nx, kFb_ct, kFb_bk, kFb_rt, sq_t, sq_l, kWhl_ok, kWb_nx, kWb_ct, kWb_bk, kWb_rt, lineN, cond_true, cond_false, Bool.cond_decide, Bool.not_true, Bool.not_false, Bool.and_true, Bool.true_and, Bool.and_false, Bool.false_and, Nat.zero_add, beq_self_eq_true, decide_true, decide_false, if_true, if_false, Bool.true_eq_false, Bool.false_eq_true, reduceIte, Nat.reduceAdd, Nat.reduceSub, Nat.reduceMul, Nat.reduceLeDiff, Nat.reduceBEq, Nat.reduceEqDiff, Int.reduceToNat, Int.reduceNeg, Nat.reduceLT, Nat.sub_self, u_cOdd, h2, ih]
/-! ### dot: by sixty-four, thirty-two, .. -/
def cDotL0 : St := (.seq (.asg (.name 0) (.bin .shr (.var 0) (.var 2))) (.seq (.asg (.name 1) (.bin .add (.var 1) (.var 2))) .skip))
theorem u_cDotL0 {C : Cx} {r : List S} : exS C cDotL0 r = exS C (.seq (.asg (.name 0) (.bin .shr (.var 0) (.var 2))) (.seq (.asg (.name 1) (.bin .add (.var 1) (.var 2))) .skip)) r := byRfl rfl
def cDotC0 : E := (.cmp .eq (.bin .mod (.var 0) (.bin .shl (.cst (.int (1))) (.var 2))) (.cst (.int (0))))
theorem u_cDotC0 {C : Cx} {r : List S} : evE C cDotC0 r = evE C (.cmp .eq (.bin .mod (.var 0) (.bin .shl (.cst (.int (1))) (.var 2))) (.cst (.int (0)))) r := byRfl rfl
def cDotL : St := (.seq (.whl cDotC0 cDotL0) (.seq (.asg (.name 2) (.bin .fdv (.var 2) (.cst (.int (2))))) .skip))
theorem u_cDotL {C : Cx} {r : List S} : exS C cDotL r = exS C (.seq (.whl cDotC0 cDotL0) (.seq (.asg (.name 2) (.bin .fdv (.var 2) (.cst (.int (2))))) .skip)) r := byRfl rfl
def cDotC : E := (.cmp .gt (.var 2) (.cst (.int (0))))
theorem u_cDotC {C : Cx} {r : List S} : evE C cDotC r = evE C (.cmp .gt (.var 2) (.cst (.int (0)))) r := byRfl rfl
def cDot : St := (.seq (.ite (.cmp .eq (.var 0) (.cst (.int (0)))) (.seq (.ret (.cst (.tup [(.int (0)), (.int (0))]))) .skip) .skip) (.seq (.asg (.name 2) (.cst (.int (64)))) (.seq (.whl cDotC cDotL) (.seq (.ret (.tup (.cons (.var 0) (.cons (.var 1) .nil)))) .skip))))
theorem u_cDot {C : Cx} {r : List S} : exS C cDot r = exS C (.seq (.ite (.cmp .eq (.var 0) (.cst (.int (0)))) (.seq (.ret (.cst (.tup [(.int (0)), (.int (0))]))) .skip) .skip) (.seq (.asg (.name 2) (.cst (.int (64)))) (.seq (.whl cDotC cDotL) (.seq (.ret (.tup (.cons (.var 0) (.cons (.var 1) .nil)))) .skip)))) r := byRfl rfl
theorem dot_in {C : Cx} (y : Nat) (hy0 : 1 ≤ y) (hy : y ≤ 64) : ∀ (b n : Nat) (m e : Int), m ≠ 0 → m.natAbs < 2 ^ b → b < n →
    ∃ m' e' : Int, whl (evE C cDotC0) (exS C cDotL0) n [.val (.int m), .val (.int e), .val (.int y)] = .nx [.val (.int m'), .val (.int e'), .val (.int y)] ∧ m' ≠ 0 ∧ m'.natAbs < 2 ^ b ∧ NM m' = NM m ∧ NE m' e' = NE m e ∧ m' % 2 ^ y ≠ 0
  | 0, n, m, e, h0, h1, h2 => by simp at h1; omega
  | b + 1, 0, m, e, h0, h1, h2 => by omega
  | b + 1, n + 1, m, e, h0, h1, h2 => by
    rw [whl_s]
    have hp : (0 : Int) < 2 ^ y := pow2_pos y
    have s1 : bin .shl (.int 1) (.int y) = some (.int (2 ^ y)) := by
      rw [bn_shl (shl_k (m := 1) (by decide) (by omega) (by omega))]
      simp
    have s2 : ∀ m : Int, bin .shr (.int m) (.int y) = some (.int (m / 2 ^ y)) := fun m => by
      rw [bn_shr (by omega)]
      simp
    by_cases h : m % 2 ^ y = 0
    · obtain ⟨g1, g2, g3⟩ := nm_div h0 h
      have hlt : (m / 2 ^ y).natAbs < 2 ^ b := by
        have a1 : m / 2 ^ y * 2 ^ y = m := Int.ediv_mul_cancel (Int.dvd_of_emod_eq_zero h)
        have a2 := congrArg Int.natAbs a1
        rw [Int.natAbs_mul, Int.natAbs_pow] at a2
        have a3 : 2 ^ 1 ≤ 2 ^ y := Nat.pow_le_pow_right (by decide) hy0
        have a4 : (m / 2 ^ y).natAbs * 2 ^ 1 ≤ (m / 2 ^ y).natAbs * 2 ^ y := Nat.mul_le_mul_left _ a3
        have a5 : (m / 2 ^ y).natAbs * 2 ^ y = m.natAbs := a2
        have := Nat.pow_succ (n := 2) (m := b)
        omega
      obtain ⟨m', e', ih, i0, i1, i2, i3, i4⟩ := dot_in (C := C) y hy0 hy b n (m / 2 ^ y) (e + y) g1 hlt (by omega)
      refine ⟨m', e', ?_, i0, Nat.lt_of_lt_of_le i1 (Nat.pow_le_pow_right (by decide) (by omega)), i2.trans g2, i3.trans (g3 e), i4⟩
      simp only [getS_0, getS_s, ev_var, rdS_val, rdS_own, ev_cst, of_some, of_some', ev_bin, kBin_ok, kBin_ok', ev_cmp, kCmp_ok, kCmp_ok', kCmpR_some, ev_chn, kChn_ok, kChn_ok', kChn2_some, ev_and, kAnd_ok, ev_or, kOr_ok, ev_not, kNot_ok, ev_neg, kNeg_ok, ev_ite, kIteE_ok, es_nil, es_cons, kEs_ok, kEs_ok', ev_tup, ev_lst, kTup_ok, kLst_ok, ev_prim, kPrim_ok, ev_mix, kMix_ok, kMix_ok', kMix2_ok, as_nil, as_val, kAs_ok, kAs_ok', as_own, kOwn_ok, kOwn_ok', kOwn2_ok, as_tmp, kTmp_ok, ev_call, kCall_val, kCall_own, kV_ok, kV_exc, kCallR_ok, ev_callk, kCk_ok, kCk_ok', ev_comp, it_val, it_rng1, it_rng2, kI_ok, kI1_ok, kI2_ok, kI2_ok', ex_skip, ex_brk, ex_cnt, ex_seq, kSeq_nx, kSeq_rt, kSeq_bk, kSeq_ct, kSeq_exc, ex_asg, kAsg_ok, srof, put_eq, kPut_t, free_non, free_val, free_own, bind_name, bind_tup, bind_lst, all_nil, all_cons, kAll_some, ex_new, kNew_ok, ex_app, kApp_ok, kApp_ok', kApp2_ok, ex_put, kSto_ok, kSto1_ok, kSto2_ok, kSto3_0, ex_exp, kExp_ok, ex_ret, kRet_ok, ex_ite, kIte_ok, ex_for, kFor_ok, ex_whl, fin_nx, fin_rt, bn_add, bn_sub, bn_cat, bn_rep2, cp_lt, cp_le, cp_gt, cp_ge, cp_eq, cp_is, cp_nis, cp_ne, kNe_some, av_val, av_tmp, av_own, avO_own, pm_eq, pg_nil, pg_inl, pg_inr, pd_nil, pd_inl, pd_inr, gd_0, gd_s, nw_nil, nw_val, nw_tmp, nw_own, no_nil, no_val, no_tmp, no_own, lt_nil, lt_inl, lt_inr, lentK_t, lentK_f, io_own, io_val, io_tmp, io_none, bk_nil, bk_cons, b1_none, b1_some, backO_own, at_0, at_1, at_2, at_3, at_4, pr_idx_t, pr_idx_l, pr_idx_f, pr_len_t, pr_len_l, pr_len_f, pr_int, pr_int_t, pr_int_f, pr_abs, pr_min, pr_max, dr_ok, eq_int, eq_bl, List.cons_append, List.nil_append, List.append_nil, List.append_assoc, List.length_cons, List.length_nil, List.set_cons_zero, List.set_cons_succ, List.take_succ_cons, List.take_zero, List.take_nil, List.replicate_succ, List.replicate_zero, List.map_cons, List.map_nil, List.getElem?_cons_zero, List.getElem?_cons_succ, is0_non, is0_bl, is0_int, is0_str, is0_tup, is0_lst, is1_non, is1_bl, is1_int, is1_str, is1_tup, is1_lst, is2_non, is2_bl, is2_int, is2_str, is2_tup, is2_lst, is3_non, is3_bl, is3_int, is3_str, is3_tup, is3_lst, is4_non, is4_bl, is4_int, is4_str, is4_tup, is4_lst, ev_make, kMake_ok, kMk_ok, pr_fld0, pr_fld1, pr_fld2, pr_isc, pr_drop1, yes_eq, co_nil, co_cons, kCo1_ok, kCo2_ok, kCo3_ok, kCo4_ok, ev_comp2, kC2_ok, kC2e_ok, ns_non, clr_eq', kClr_t, iv_non, iv_val, cl_nil, cl_cons, kCl_b, kCl2_ok, kCl3_some, kComp_ok2, kCm_ok, pr_int_b, it_rng3, kI3_ok, kI3_ok', cp_in, cp_nin, isn_non, isn_tup, forL_nil, forL_cons, kFl_ok, kFb_nx, kFb_ct, kFb_bk, kFb_rt, sq_t, sq_l, kWhl_ok, kWb_nx, kWb_ct, kWb_bk, kWb_rt, lineN, cond_true, cond_false, Bool.cond_decide, Bool.not_true, Bool.not_false, Bool.and_true, Bool.true_and, Bool.and_false, Bool.false_and, Nat.zero_add, beq_self_eq_true, decide_true, decide_false, if_true, if_false, Bool.true_eq_false, Bool.false_eq_true, reduceIte, Nat.reduceAdd, Nat.reduceSub, Nat.reduceMul, Nat.reduceLeDiff, Nat.reduceBEq, Nat.reduceEqDiff, Int.reduceToNat, Int.reduceNeg, Nat.reduceLT, Nat.sub_self, u_cDotC0, u_cDotL0, s1, s2, bn_mod hp, h, ih]
    · have hb : (m % 2 ^ y == 0) = false := by simpa using h
      refine ⟨m, e, ?_, h0, h1, rfl, rfl, h⟩
      simp only [getS_0, getS_s, ev_var, rdS_val, rdS_own, ev_cst, of_some, of_some', ev_bin, kBin_ok, kBin_ok', ev_cmp, kCmp_ok, kCmp_ok', kCmpR_some, ev_chn, kChn_ok, kChn_ok', kChn2_some, ev_and, kAnd_ok, ev_or, kOr_ok, ev_not, kNot_ok, ev_neg, kNeg_ok, ev_ite, kIteE_ok, es_nil, es_cons, kEs_ok, kEs_ok', ev_tup, ev_lst, kTup_ok, kLst_ok, ev_prim, kPrim_ok, ev_mix, kMix_ok, kMix_ok', kMix2_ok, as_nil, as_val, kAs_ok, kAs_ok', as_own, kOwn_ok, kOwn_ok', kOwn2_ok, as_tmp, kTmp_ok, ev_call, kCall_val, kCall_own, kV_ok, kV_exc, kCallR_ok, ev_callk, kCk_ok, kCk_ok', ev_comp, it_val, it_rng1, it_rng2, kI_ok, kI1_ok, kI2_ok, kI2_ok', ex_skip, ex_brk, ex_cnt, ex_seq, kSeq_nx, kSeq_rt, kSeq_bk, kSeq_ct, kSeq_exc, ex_asg, kAsg_ok, srof, put_eq, kPut_t, free_non, free_val, free_own, bind_name, bind_tup, bind_lst, all_nil, all_cons, kAll_some, ex_new, kNew_ok, ex_app, kApp_ok, kApp_ok', kApp2_ok, ex_put, kSto_ok, kSto1_ok, kSto2_ok, kSto3_0, ex_exp, kExp_ok, ex_ret, kRet_ok, ex_ite, kIte_ok, ex_for, kFor_ok, ex_whl, fin_nx, fin_rt, bn_add, bn_sub, bn_cat, bn_rep2, cp_lt, cp_le, cp_gt, cp_ge, cp_eq, cp_is, cp_nis, cp_ne, kNe_some, av_val, av_tmp, av_own, avO_own, pm_eq, pg_nil, pg_inl, pg_inr, pd_nil, pd_inl, pd_inr, gd_0, gd_s, nw_nil, nw_val, nw_tmp, nw_own, no_nil, no_val, no_tmp, no_own, lt_nil, lt_inl, lt_inr, lentK_t, lentK_f, io_own, io_val, io_tmp, io_none, bk_nil, bk_cons, b1_none, b1_some, backO_own, at_0, at_1, at_2, at_3, at_4, pr_idx_t, pr_idx_l, pr_idx_f, pr_len_t, pr_len_l, pr_len_f, pr_int, pr_int_t, pr_int_f, pr_abs, pr_min, pr_max, dr_ok, eq_int, eq_bl, List.cons_append, List.nil_append, List.append_nil, List.append_assoc, List.length_cons, List.length_nil, List.set_cons_zero, List.set_cons_succ, List.take_succ_cons, List.take_zero, List.take_nil, List.replicate_succ, List.replicate_zero, List.map_cons, List.map_nil, List.getElem?_cons_zero, List.getElem?_cons_succ, is0_non, is0_bl, is0_int, is0_str, is0_tup, is0_lst, is1_non, is1_bl, is1_int, is1_str, is1_tup, is1_lst, is2_non, is2_bl, is2_int, is2_str, is2_tup, is2_lst, is3_non, is3_bl, is3_int, is3_str, is3_tup, is3_lst, is4_non, is4_bl, is4_int, is4_str, is4_tup, is4_lst, ev_make, kMake_ok, kMk_ok, pr_fld0, pr_fld1, pr_fld2, pr_isc, pr_drop1, yes_eq, co_nil, co_cons, kCo1_ok, kCo2_ok, kCo3_ok, kCo4_ok, ev_comp2, kC2_ok, kC2e_ok, ns_non, clr_eq', kClr_t, iv_non, iv_val, cl_nil, cl_cons, kCl_b, kCl2_ok, kCl3_some, kComp_ok2, kCm_ok, pr_int_b, it_rng3, kI3_ok, kI3_ok', cp_in, cp_nin, isn_non, isn_tup, forL_nil, forL_cons, kFl_ok, kFb_nx, kFb_ct, kFb_bk, kFb_rt, sq_t, sq_l, kWhl_ok, kWb_nx, kWb_ct, kWb_bk, kWb_rt, lineN, cond_true, cond_false, Bool.cond_decide, Bool.not_true, Bool.not_false, Bool.and_true, Bool.true_and, Bool.and_false, Bool.false_and, Nat.zero_add, beq_self_eq_true, decide_true, decide_false, if_true, if_false, Bool.true_eq_false, Bool.false_eq_true, reduceIte, Nat.reduceAdd, Nat.reduceSub, Nat.reduceMul, Nat.reduceLeDiff, Nat.reduceBEq, Nat.reduceEqDiff, Int.reduceToNat, Int.reduceNeg, Nat.reduceLT, Nat.sub_self, u_cDotC0, s1, bn_mod hp, hb]
theorem dot_out {r : Nat → List S → Res D} (hF : 6000 ≤ F) : ∀ (j n : Nat) (m e : Int), j ≤ 6 → m ≠ 0 → m.natAbs < 2 ^ 5000 → j + 1 < n →
    whl (evE ⟨r, F⟩ cDotC) (exS ⟨r, F⟩ cDotL) n [.val (.int m), .val (.int e), .val (.int ((2 ^ j : Nat) : Int))] = .nx [.val (.int (NM m)), .val (.int (NE m e)), .val (.int 0)]
  | _, 0, m, e, _, _, _, h2 => by omega
  | 0, n + 2, m, e, hj, h0, h1, h2 => by
    rw [whl_s]
    obtain ⟨m', e', ih, i0, i1, i2, i3, i4⟩ := dot_in (C := ⟨r, F⟩) 1 (by decide) (by decide) 5000 F m e h0 h1 (by omega)
    rw [Int.pow_one] at i4
    obtain ⟨o1, o2⟩ := nm_odd (m := m') (by omega)
    rw [o1] at i2
    rw [o2] at i3
    have hn : ∀ x, Builtin.divisionGoesByPylong x 2 = false := fun x => no_py (by decide +kernel)
    have ih1 : whl (evE ⟨r, F⟩ cDotC0) (exS ⟨r, F⟩ cDotL0) F [.val (.int m), .val (.int e), .val (.int 1)] = .nx [.val (.int m'), .val (.int e'), .val (.int 1)] := ih
    have e0 : ((2 ^ 0 : Nat) : Int) = 1 := rfl
    rw [e0]
    have z : (1 : Int) / 2 = 0 := rfl
    simp only [getS_0, getS_s, ev_var, rdS_val, rdS_own, ev_cst, of_some, of_some', ev_bin, kBin_ok, kBin_ok', ev_cmp, kCmp_ok, kCmp_ok', kCmpR_some, ev_chn, kChn_ok, kChn_ok', kChn2_some, ev_and, kAnd_ok, ev_or, kOr_ok, ev_not, kNot_ok, ev_neg, kNeg_ok, ev_ite, kIteE_ok, es_nil, es_cons, kEs_ok, kEs_ok', ev_tup, ev_lst, kTup_ok, kLst_ok, ev_prim, kPrim_ok, ev_mix, kMix_ok, kMix_ok', kMix2_ok, as_nil, as_val, kAs_ok, kAs_ok', as_own, kOwn_ok, kOwn_ok', kOwn2_ok, as_tmp, kTmp_ok, ev_call, kCall_val, kCall_own, kV_ok, kV_exc, kCallR_ok, ev_callk, kCk_ok, kCk_ok', ev_comp, it_val, it_rng1, it_rng2, kI_ok, kI1_ok, kI2_ok, kI2_ok', ex_skip, ex_brk, ex_cnt, ex_seq, kSeq_nx, kSeq_rt, kSeq_bk, kSeq_ct, kSeq_exc, ex_asg, kAsg_ok, srof, put_eq, kPut_t, free_non, free_val, free_own, bind_name, bind_tup, bind_lst, all_nil, all_cons, kAll_some, ex_new, kNew_ok, ex_app, kApp_ok, kApp_ok', kApp2_ok, ex_put, kSto_ok, kSto1_ok, kSto2_ok, kSto3_0, ex_exp, kExp_ok, ex_ret, kRet_ok, ex_ite, kIte_ok, ex_for, kFor_ok, ex_whl, fin_nx, fin_rt, bn_add, bn_sub, bn_cat, bn_rep2, cp_lt, cp_le, cp_gt, cp_ge, cp_eq, cp_is, cp_nis, cp_ne, kNe_some, av_val, av_tmp, av_own, avO_own, pm_eq, pg_nil, pg_inl, pg_inr, pd_nil, pd_inl, pd_inr, gd_0, gd_s, nw_nil, nw_val, nw_tmp, nw_own, no_nil, no_val, no_tmp, no_own, lt_nil, lt_inl, lt_inr, lentK_t, lentK_f, io_own, io_val, io_tmp, io_none, bk_nil, bk_cons, b1_none, b1_some, backO_own, at_0, at_1, at_2, at_3, at_4, pr_idx_t, pr_idx_l, pr_idx_f, pr_len_t, pr_len_l, pr_len_f, pr_int, pr_int_t, pr_int_f, pr_abs, pr_min, pr_max, dr_ok, eq_int, eq_bl, List.cons_append, List.nil_append, List.append_nil, List.append_assoc, List.length_cons, List.length_nil, List.set_cons_zero, List.set_cons_succ, List.take_succ_cons, List.take_zero, List.take_nil, List.replicate_succ, List.replicate_zero, List.map_cons, List.map_nil, List.getElem?_cons_zero, List.getElem?_cons_succ, is0_non, is0_bl, is0_int, is0_str, is0_tup, is0_lst, is1_non, is1_bl, is1_int, is1_str, is1_tup, is1_lst, is2_non, is2_bl, is2_int, is2_str, is2_tup, is2_lst, is3_non, is3_bl, is3_int, is3_str, is3_tup, is3_lst, is4_non, is4_bl, is4_int, is4_str, is4_tup, is4_lst, ev_make, kMake_ok, kMk_ok, pr_fld0, pr_fld1, pr_fld2, pr_isc, pr_drop1, yes_eq, co_nil, co_cons, kCo1_ok, kCo2_ok, kCo3_ok, kCo4_ok, ev_comp2, kC2_ok, kC2e_ok, ns_non, clr_eq', kClr_t, iv_non, iv_val, cl_nil, cl_cons, kCl_b, kCl2_ok, kCl3_some, kComp_ok2, kCm_ok, pr_int_b, it_rng3, kI3_ok, kI3_ok', cp_in, cp_nin, isn_non, isn_tup, forL_nil, forL_cons, kFl_ok, kFb_nx, kFb_ct, kFb_bk, kFb_rt, sq_t, sq_l, kWhl_ok, kWb_nx, kWb_ct, kWb_bk, kWb_rt, lineN, cond_true, cond_false, Bool.cond_decide, Bool.not_true, Bool.not_false, Bool.and_true, Bool.true_and, Bool.and_false, Bool.false_and, Nat.zero_add, beq_self_eq_true, decide_true, decide_false, if_true, if_false, Bool.true_eq_false, Bool.false_eq_true, reduceIte, Nat.reduceAdd, Nat.reduceSub, Nat.reduceMul, Nat.reduceLeDiff, Nat.reduceBEq, Nat.reduceEqDiff, Int.reduceToNat, Int.reduceNeg, Nat.reduceLT, Nat.sub_self, u_cDotC, u_cDotL, ih1, bn_fdv, hn, z, whl_s, i2, i3, Int.reduceLT]
  | 0, 1, m, e, hj, h0, h1, h2 => by omega
  | j + 1, n + 1, m, e, hj, h0, h1, h2 => by
    rw [whl_s]
    have hy : 2 ^ (j + 1) ≤ 64 := Nat.pow_le_pow_right (n := 2) (j := 6) (by decide) hj
    have hy0 : 1 ≤ 2 ^ (j + 1) := Nat.one_le_two_pow
    obtain ⟨m', e', ih, i0, i1, i2, i3, i4⟩ := dot_in (C := ⟨r, F⟩) (2 ^ (j + 1)) hy0 hy 5000 F m e h0 h1 (by omega)
    have hn : ∀ x, Builtin.divisionGoesByPylong x 2 = false := fun x => no_py (by decide +kernel)
    have z : ((2 ^ (j + 1) : Nat) : Int) / 2 = ((2 ^ j : Nat) : Int) := by
      have := Nat.pow_succ (n := 2) (m := j)
      omega
    have ih2 := dot_out (r := r) hF j n m' e' (by omega) i0 i1 (by omega)
    rw [i2, i3] at ih2
    have hp : (0 : Int) < ((2 ^ (j + 1) : Nat) : Int) := by omega
    generalize hY : ((2 ^ (j + 1) : Nat) : Int) = Y at *
    generalize hZ : ((2 ^ j : Nat) : Int) = Z at *
    simp only [getS_0, getS_s, ev_var, rdS_val, rdS_own, ev_cst, of_some, of_some', ev_bin, kBin_ok, kBin_ok', ev_cmp, kCmp_ok, kCmp_ok', kCmpR_some, ev_chn, kChn_ok, kChn_ok', kChn2_some, ev_and, kAnd_ok, ev_or, kOr_ok, ev_not, kNot_ok, ev_neg, kNeg_ok, ev_ite, kIteE_ok, es_nil, es_cons, kEs_ok, kEs_ok', ev_tup, ev_lst, kTup_ok, kLst_ok, ev_prim, kPrim_ok, ev_mix, kMix_ok, kMix_ok', kMix2_ok, as_nil, as_val, kAs_ok, kAs_ok', as_own, kOwn_ok, kOwn_ok', kOwn2_ok, as_tmp, kTmp_ok, ev_call, kCall_val, kCall_own, kV_ok, kV_exc, kCallR_ok, ev_callk, kCk_ok, kCk_ok', ev_comp, it_val, it_rng1, it_rng2, kI_ok, kI1_ok, kI2_ok, kI2_ok', ex_skip, ex_brk, ex_cnt, ex_seq, kSeq_nx, kSeq_rt, kSeq_bk, kSeq_ct, kSeq_exc, ex_asg, kAsg_ok, srof, put_eq, kPut_t, free_non, free_val, free_own, bind_name, bind_tup, bind_lst, all_nil, all_cons, kAll_some, ex_new, kNew_ok, ex_app, kApp_ok, kApp_ok', kApp2_ok, ex_put, kSto_ok, kSto1_ok, kSto2_ok, kSto3_0, ex_exp, kExp_ok, ex_ret, kRet_ok, ex_ite, kIte_ok, ex_for, kFor_ok, ex_whl, fin_nx, fin_rt, bn_add, bn_sub, bn_cat, bn_rep2, cp_lt, cp_le, cp_gt, cp_ge, cp_eq, cp_is, cp_nis, cp_ne, kNe_some, av_val, av_tmp, av_own, avO_own, pm_eq, pg_nil, pg_inl, pg_inr, pd_nil, pd_inl, pd_inr, gd_0, gd_s, nw_nil, nw_val, nw_tmp, nw_own, no_nil, no_val, no_tmp, no_own, lt_nil, lt_inl, lt_inr, lentK_t, lentK_f, io_own, io_val, io_tmp, io_none, bk_nil, bk_cons, b1_none, b1_some, backO_own, at_0, at_1, at_2, at_3, at_4, pr_idx_t, pr_idx_l, pr_idx_f, pr_len_t, pr_len_l, pr_len_f, pr_int, pr_int_t, pr_int_f, pr_abs, pr_min, pr_max, dr_ok, eq_int, eq_bl, List.cons_append, List.nil_append, List.append_nil, List.append_assoc, List.length_cons, List.length_nil, List.set_cons_zero, List.set_cons_succ, List.take_succ_cons, List.take_zero, List.take_nil, List.replicate_succ, List.replicate_zero, List.map_cons, List.map_nil, List.getElem?_cons_zero, List.getElem?_cons_succ, is0_non, is0_bl, is0_int, is0_str, is0_tup, is0_lst, is1_non, is1_bl, is1_int, is1_str, is1_tup, is1_lst, is2_non, is2_bl, is2_int, is2_str, is2_tup, is2_lst, is3_non, is3_bl, is3_int, is3_str, is3_tup, is3_lst, is4_non, is4_bl, is4_int, is4_str, is4_tup, is4_lst, ev_make, kMake_ok, kMk_ok, pr_fld0, pr_fld1, pr_fld2, pr_isc, pr_drop1, yes_eq, co_nil, co_cons, kCo1_ok, kCo2_ok, kCo3_ok, kCo4_ok, ev_comp2, kC2_ok, kC2e_ok, ns_non, clr_eq', kClr_t, iv_non, iv_val, cl_nil, cl_cons, kCl_b, kCl2_ok, kCl3_some, kComp_ok2, kCm_ok, pr_int_b, it_rng3, kI3_ok, kI3_ok', cp_in, cp_nin, isn_non, isn_tup, forL_nil, forL_cons, kFl_ok, kFb_nx, kFb_ct, kFb_bk, kFb_rt, sq_t, sq_l, kWhl_ok, kWb_nx, kWb_ct, kWb_bk, kWb_rt, lineN, cond_true, cond_false, Bool.cond_decide, Bool.not_true, Bool.not_false, Bool.and_true, Bool.true_and, Bool.and_false, Bool.false_and, Nat.zero_add, beq_self_eq_true, decide_true, decide_false, if_true, if_false, Bool.true_eq_false, Bool.false_eq_true, reduceIte, Nat.reduceAdd, Nat.reduceSub, Nat.reduceMul, Nat.reduceLeDiff, Nat.reduceBEq, Nat.reduceEqDiff, Int.reduceToNat, Int.reduceNeg, Nat.reduceLT, Nat.sub_self, u_cDotC, u_cDotL, hp, ih, bn_fdv, Int.reduceLT, hn, z, ih2]
theorem sp_dot (hT : T f = some ⟨2, 3, cDot⟩) (hF : 6000 ≤ F) {m e : Int} (hb : m.natAbs < 2 ^ 5000) : dropR (run T F (k + 1) f [.val (.int m), .val (.int e)]) = .ok (.tup [.int (NM m), .int (NE m e)]) [] := by
  rw [rnT hT]
  by_cases h : m = 0
  · subst h
    simp only [getS_0, getS_s, ev_var, rdS_val, rdS_own, ev_cst, of_some, of_some', ev_bin, kBin_ok, kBin_ok', ev_cmp, kCmp_ok, kCmp_ok', kCmpR_some, ev_chn, kChn_ok, kChn_ok', kChn2_some, ev_and, kAnd_ok, ev_or, kOr_ok, ev_not, kNot_ok, ev_neg, kNeg_ok, ev_ite, kIteE_ok, es_nil, es_cons, kEs_ok, kEs_ok', ev_tup, ev_lst, kTup_ok, kLst_ok, ev_prim, kPrim_ok, ev_mix, kMix_ok, kMix_ok', kMix2_ok, as_nil, as_val, kAs_ok, kAs_ok', as_own, kOwn_ok, kOwn_ok', kOwn2_ok, as_tmp, kTmp_ok, ev_call, kCall_val, kCall_own, kV_ok, kV_exc, kCallR_ok, ev_callk, kCk_ok, kCk_ok', ev_comp, it_val, it_rng1, it_rng2, kI_ok, kI1_ok, kI2_ok, kI2_ok', ex_skip, ex_brk, ex_cnt, ex_seq, kSeq_nx, kSeq_rt, kSeq_bk, kSeq_ct, kSeq_exc, ex_asg, kAsg_ok, srof, put_eq, kPut_t, free_non, free_val, free_own, bind_name, bind_tup, bind_lst, all_nil, all_cons, kAll_some, ex_new, kNew_ok, ex_app, kApp_ok, kApp_ok', kApp2_ok, ex_put, kSto_ok, kSto1_ok, kSto2_ok, kSto3_0, ex_exp, kExp_ok, ex_ret, kRet_ok, ex_ite, kIte_ok, ex_for, kFor_ok, ex_whl, fin_nx, fin_rt, bn_add, bn_sub, bn_cat, bn_rep2, cp_lt, cp_le, cp_gt, cp_ge, cp_eq, cp_is, cp_nis, cp_ne, kNe_some, av_val, av_tmp, av_own, avO_own, pm_eq, pg_nil, pg_inl, pg_inr, pd_nil, pd_inl, pd_inr, gd_0, gd_s, nw_nil, nw_val, nw_tmp, nw_own, no_nil, no_val, no_tmp, no_own, lt_nil, lt_inl, lt_inr, lentK_t, lentK_f, io_own, io_val, io_tmp, io_none, bk_nil, bk_cons, b1_none, b1_some, backO_own, at_0, at_1, at_2, at_3, at_4, pr_idx_t, pr_idx_l, pr_idx_f, pr_len_t, pr_len_l, pr_len_f, pr_int, pr_int_t, pr_int_f, pr_abs, pr_min, pr_max, dr_ok, eq_int, eq_bl, List.cons_append, List.nil_append, List.append_nil, List.append_assoc, List.length_cons, List.length_nil, List.set_cons_zero, List.set_cons_succ, List.take_succ_cons, List.take_zero, List.take_nil, List.replicate_succ, List.replicate_zero, List.map_cons, List.map_nil, List.getElem?_cons_zero, List.getElem?_cons_succ, is0_non, is0_bl, is0_int, is0_str, is0_tup, is0_lst, is1_non, is1_bl, is1_int, is1_str, is1_tup, is1_lst, is2_non, is2_bl, is2_int, is2_str, is2_tup, is2_lst, is3_non, is3_bl, is3_int, is3_str, is3_tup, is3_lst, is4_non, is4_bl, is4_int, is4_str, is4_tup, is4_lst, ev_make, kMake_ok, kMk_ok, pr_fld0, pr_fld1, pr_fld2, pr_isc, pr_drop1, yes_eq, co_nil, co_cons, kCo1_ok, kCo2_ok, kCo3_ok, kCo4_ok, ev_comp2, kC2_ok, kC2e_ok, ns_non, clr_eq', kClr_t, iv_non, iv_val, cl_nil, cl_cons, kCl_b, kCl2_ok, kCl3_some, kComp_ok2, kCm_ok, pr_int_b, it_rng3, kI3_ok, kI3_ok', cp_in, cp_nin, isn_non, isn_tup, forL_nil, forL_cons, kFl_ok, kFb_nx, kFb_ct, kFb_bk, kFb_rt, sq_t, sq_l, kWhl_ok, kWb_nx, kWb_ct, kWb_bk, kWb_rt, lineN, cond_true, cond_false, Bool.cond_decide, Bool.not_true, Bool.not_false, Bool.and_true, Bool.true_and, Bool.and_false, Bool.false_and, Nat.zero_add, beq_self_eq_true, decide_true, decide_false, if_true, if_false, Bool.true_eq_false, Bool.false_eq_true, reduceIte, Nat.reduceAdd, Nat.reduceSub, Nat.reduceMul, Nat.reduceLeDiff, Nat.reduceBEq, Nat.reduceEqDiff, Int.reduceToNat, Int.reduceNeg, Nat.reduceLT, Nat.sub_self, u_cDot, nm0, ne0]
  · have h2 : (m == 0) = false := by simpa using h
    have ih := dot_out (r := run T F k) hF 6 F m e (by decide) h hb (by omega)
    have e6 : ((2 ^ 6 : Nat) : Int) = 64 := rfl
    rw [e6] at ih
    simp only [getS_0, getS_s, ev_var, rdS_val, rdS_own, ev_cst, of_some, of_some', ev_bin, kBin_ok, kBin_ok', ev_cmp, kCmp_ok, kCmp_ok', kCmpR_some, ev_chn, kChn_ok, kChn_ok', kChn2_some, ev_and, kAnd_ok, ev_or, kOr_ok, ev_not, kNot_ok, ev_neg, kNeg_ok, ev_ite, kIteE_ok, es_nil, es_cons, kEs_ok, kEs_ok', ev_tup, ev_lst, kTup_ok, kLst_ok, ev_prim, kPrim_ok, ev_mix, kMix_ok, kMix_ok', kMix2_ok, as_nil, as_val, kAs_ok, kAs_ok', as_own, kOwn_ok, kOwn_ok', kOwn2_ok, as_tmp, kTmp_ok, ev_call, kCall_val, kCall_own, kV_ok, kV_exc, kCallR_ok, ev_callk, kCk_ok, kCk_ok', ev_comp, it_val, it_rng1, it_rng2, kI_ok, kI1_ok, kI2_ok, kI2_ok', ex_skip, ex_brk, ex_cnt, ex_seq, kSeq_nx, kSeq_rt, kSeq_bk, kSeq_ct, kSeq_exc, ex_asg, kAsg_ok, srof, put_eq, kPut_t, free_non, free_val, free_own, bind_name, bind_tup, bind_lst, all_nil, all_cons, kAll_some, ex_new, kNew_ok, ex_app, kApp_ok, kApp_ok', kApp2_ok, ex_put, kSto_ok, kSto1_ok, kSto2_ok, kSto3_0, ex_exp, kExp_ok, ex_ret, kRet_ok, ex_ite, kIte_ok, ex_for, kFor_ok, ex_whl, fin_nx, fin_rt, bn_add, bn_sub, bn_cat, bn_rep2, cp_lt, cp_le, cp_gt, cp_ge, cp_eq, cp_is, cp_nis, cp_ne, kNe_some, av_val, av_tmp, av_own, avO_own, pm_eq, pg_nil, pg_inl, pg_inr, pd_nil, pd_inl, pd_inr, gd_0, gd_s, nw_nil, nw_val, nw_tmp, nw_own, no_nil, no_val, no_tmp, no_own, lt_nil, lt_inl, lt_inr, lentK_t, lentK_f, io_own, io_val, io_tmp, io_none, bk_nil, bk_cons, b1_none, b1_some, backO_own, at_0, at_1, at_2, at_3, at_4, pr_idx_t, pr_idx_l, pr_idx_f, pr_len_t, pr_len_l, pr_len_f, pr_int, pr_int_t, pr_int_f, pr_abs, pr_min, pr_max, dr_ok, eq_int, eq_bl, List.cons_append, List.nil_append, List.append_nil, List.append_assoc, List.length_cons, List.length_nil, List.set_cons_zero, List.set_cons_succ, List.take_succ_cons, List.take_zero, List.take_nil, List.replicate_succ, List.replicate_zero, List.map_cons, List.map_nil, List.getElem?_cons_zero, List.getElem?_cons_succ, is0_non, is0_bl, is0_int, is0_str, is0_tup, is0_lst, is1_non, is1_bl, is1_int, is1_str, is1_tup, is1_lst, is2_non, is2_bl, is2_int, is2_str, is2_tup, is2_lst, is3_non, is3_bl, is3_int, is3_str, is3_tup, is3_lst, is4_non, is4_bl, is4_int, is4_str, is4_tup, is4_lst, ev_make, kMake_ok, kMk_ok, pr_fld0, pr_fld1, pr_fld2, pr_isc, pr_drop1, yes_eq, co_nil, co_cons, kCo1_ok, kCo2_ok, kCo3_ok, kCo4_ok, ev_comp2, kC2_ok, kC2e_ok, ns_non, clr_eq', kClr_t, iv_non, iv_val, cl_nil, cl_cons, kCl_b, kCl2_ok, kCl3_some, kComp_ok2, kCm_ok, pr_int_b, it_rng3, kI3_ok, kI3_ok', cp_in, cp_nin, isn_non, isn_tup, forL_nil, forL_cons, kFl_ok, kFb_nx, kFb_ct, kFb_bk, kFb_rt, sq_t, sq_l, kWhl_ok, kWb_nx, kWb_ct, kWb_bk, kWb_rt, lineN, cond_true, cond_false, Bool.cond_decide, Bool.not_true, Bool.not_false, Bool.and_true, Bool.true_and, Bool.and_false, Bool.false_and, Nat.zero_add, beq_self_eq_true, decide_true, decide_false, if_true, if_false, Bool.true_eq_false, Bool.false_eq_true, reduceIte, Nat.reduceAdd, Nat.reduceSub, Nat.reduceMul, Nat.reduceLeDiff, Nat.reduceBEq, Nat.reduceEqDiff, Int.reduceToNat, Int.reduceNeg, Nat.reduceLT, Nat.sub_self, u_cDot, h2, ih]
/-! ### a number off a pile -/
def cNumber (ft fo : Nat) : St := (.seq (.asg (.name 1) (.call ft [.inl 0, .inl 1] (.own 0 (.val (.cst (.int (5))) .nil)))) (.seq (.asg (.name 2) (.prim .idx (.cons (.lst (.cons (.cst (.int (8))) (.cons (.cst (.int (64))) (.cons (.bin .pow (.cst (.int (2))) (.cst (.int (20)))) (.cons (.bin .pow (.cst (.int (2))) (.cst (.int (60)))) (.cons (.bin .shl (.cst (.int (1))) (.cst (.int (200)))) .nil)))))) (.cons (.var 1) .nil)))) (.seq (.asg (.name 3) (.prim .idx (.cons (.lst (.cons (.cst (.int (3))) (.cons (.cst (.int (9))) (.cons (.cst (.int (30))) (.cons (.cst (.int (100))) (.cons (.cst (.int (800))) .nil)))))) (.cons (.var 1) .nil)))) (.seq (.asg (.name 4) (.bin .add (.bin .sub (.call ft [.inl 0, .inl 1] (.own 0 (.val (.bin .mul (.cst (.int (2))) (.var 2)) .nil))) (.var 2)) (.cst (.int (1))))) (.seq (.ret (.call fo [.inl 0, .inl 1] (.val (.var 4) (.val (.bin .sub (.call ft [.inl 0, .inl 1] (.own 0 (.val (.bin .sub (.bin .mul (.cst (.int (2))) (.var 3)) (.bin .mul (.cst (.int (200))) (.prim .int (.cons (.cmp .eq (.var 1) (.cst (.int (4)))) .nil)))) .nil))) (.var 3)) .nil)))) .skip)))))
theorem u_cNumber {ft fo : Nat} {C : Cx} {r : List S} : exS C (cNumber ft fo) r = exS C (.seq (.asg (.name 1) (.call ft [.inl 0, .inl 1] (.own 0 (.val (.cst (.int (5))) .nil)))) (.seq (.asg (.name 2) (.prim .idx (.cons (.lst (.cons (.cst (.int (8))) (.cons (.cst (.int (64))) (.cons (.bin .pow (.cst (.int (2))) (.cst (.int (20)))) (.cons (.bin .pow (.cst (.int (2))) (.cst (.int (60)))) (.cons (.bin .shl (.cst (.int (1))) (.cst (.int (200)))) .nil)))))) (.cons (.var 1) .nil)))) (.seq (.asg (.name 3) (.prim .idx (.cons (.lst (.cons (.cst (.int (3))) (.cons (.cst (.int (9))) (.cons (.cst (.int (30))) (.cons (.cst (.int (100))) (.cons (.cst (.int (800))) .nil)))))) (.cons (.var 1) .nil)))) (.seq (.asg (.name 4) (.bin .add (.bin .sub (.call ft [.inl 0, .inl 1] (.own 0 (.val (.bin .mul (.cst (.int (2))) (.var 2)) .nil))) (.var 2)) (.cst (.int (1))))) (.seq (.ret (.call fo [.inl 0, .inl 1] (.val (.var 4) (.val (.bin .sub (.call ft [.inl 0, .inl 1] (.own 0 (.val (.bin .sub (.bin .mul (.cst (.int (2))) (.var 3)) (.bin .mul (.cst (.int (200))) (.prim .int (.cons (.cmp .eq (.var 1) (.cst (.int (4)))) .nil)))) .nil))) (.var 3)) .nil)))) .skip))))) r := byRfl rfl
theorem ne_bound {m e : Int} {b : Nat} {lo hi : Int} (hm : m.natAbs < 2 ^ b) (h1 : lo ≤ e) (h2 : e ≤ hi) (hl : lo ≤ 0) (hh : 0 ≤ hi) : lo ≤ NE m e ∧ NE m e ≤ hi + b := by
  unfold NE
  by_cases h : m = 0
  · rw [if_pos h]; omega
  · rw [if_neg h]
    have := v2_lt h hm
    omega
theorem nm_bound {m : Int} {b : Nat} (hm : m.natAbs < 2 ^ b) : (NM m).natAbs < 2 ^ b := Nat.lt_of_le_of_lt nm_le hm
theorem sp_number {ft fo : Nat} (hT : T f = some ⟨1, 5, cNumber ft fo⟩) (ht : T ft = some ⟨2, 3, cTake⟩) (ho : T fo = some ⟨2, 2, cOdd⟩) (hF : 6000 ≤ F) {c : Int} (hc : 0 ≤ c) :
    ∃ m e c' : Int, run T F (k + 2) f [.own true [.int c]] = .ok (.tup [.int m, .int e]) [.own true [.int c']] ∧ 0 ≤ c' ∧ c' ≤ c ∧ (NM m = m ∧ ∀ x, NE m x = if m = 0 then 0 else x) ∧ (m = 0 → e = 0) ∧ m.natAbs < 2 ^ 201 ∧ -800 ≤ e ∧ e ≤ 1000 := by
  have w20 : bin .pow (.int 2) (.int 20) = some (.int 1048576) := bn_pow (by decide +kernel)
  have w60 : bin .pow (.int 2) (.int 60) = some (.int 1152921504606846976) := bn_pow (by decide +kernel)
  have w200 : bin .shl (.int 1) (.int 200) = some (.int 1606938044258990275541962092341162602522202993782792835301376) := bn_shl (by decide +kernel)
  have tk : ∀ (x s : Int), 0 < s → s.natAbs < 2 ^ 9000 → run T F (k + 1) ft [.own true [.int x], .val (.int s)] = .ok (.int (x % s)) [.own true [.int (x / s)], .val (.int s)] := fun x s h1 h2 => sp_take ht h1 (no_py h2)
  have fin : ∀ (m e : Int), m.natAbs < 2 ^ 201 → -800 ≤ e → e ≤ 799 → (NM (NM m) = NM m ∧ ∀ x, NE (NM m) x = if NM m = 0 then 0 else x) ∧ (NM m = 0 → NE m e = 0) ∧ (NM m).natAbs < 2 ^ 201 ∧ -800 ≤ NE m e ∧ NE m e ≤ 1000 := fun m e h1 h2 h3 => by
    obtain ⟨g1, g2⟩ := ne_bound h1 h2 h3 (by omega) (by omega)
    refine ⟨⟨(nm_norm m 0).1, fun x => ?_⟩, fun h => ?_, nm_bound h1, g1, by omega⟩
    · by_cases h : m = 0
      · subst h; rfl
      · obtain ⟨o1, o2⟩ := nm_spec h
        rw [(nm_odd o1).2, if_neg (odd_ne o1)]
    · by_cases hm : m = 0
      · subst hm; rfl
      · exact absurd h (odd_ne (nm_spec hm).1)
  rw [rnT hT]
  have hw : c % 5 = 0 ∨ c % 5 = 1 ∨ c % 5 = 2 ∨ c % 5 = 3 ∨ c % 5 = 4 := by omega
  have t5 := tk c 5 (by decide) (by decide +kernel)
  rcases hw with hw | hw | hw | hw | hw
  · rw [hw] at t5
    generalize hc5 : c / 5 = c1 at t5
    have a1 : bin .mul (.int 2) (.int 8) = some (.int 16) := bn_mul (by decide +kernel)
    have a2 : bin .mul (.int 2) (.int 3) = some (.int 6) := bn_mul (by decide +kernel)
    have a3 : bin .mul (.int 200) (.int 0) = some (.int 0) := bn_mul (by decide +kernel)
    have t1 := tk c1 16 (by decide) (by decide +kernel)
    obtain ⟨x1, hx1, x10, x11⟩ : ∃ x1 : Int, c1 % 16 = x1 ∧ 0 ≤ x1 ∧ x1 < 16 := ⟨_, rfl, by omega, by omega⟩
    obtain ⟨c2, hc2, c20, c21⟩ : ∃ c2 : Int, c1 / 16 = c2 ∧ 0 ≤ c2 ∧ c2 ≤ c := ⟨_, rfl, by omega, by omega⟩
    rw [hx1, hc2] at t1
    have t2 := tk c2 6 (by decide) (by decide +kernel)
    obtain ⟨x2, hx2, x20, x21⟩ : ∃ x2 : Int, c2 % 6 = x2 ∧ 0 ≤ x2 ∧ x2 < 6 := ⟨_, rfl, by omega, by omega⟩
    obtain ⟨c3, hc3, c30, c31⟩ : ∃ c3 : Int, c2 / 6 = c3 ∧ 0 ≤ c3 ∧ c3 ≤ c := ⟨_, rfl, by omega, by omega⟩
    rw [hx2, hc3] at t2
    have od : dropR (run T F (k + 1) fo [.val (.int (x1 - 8 + 1)), .val (.int (x2 - 3))]) = _ := sp_odd ho hF (Nat.lt_of_lt_of_le (show (x1 - 8 + 1).natAbs < 2 ^ 201 by omega) (Nat.pow_le_pow_right (by decide) (by decide)))
    refine ⟨NM (x1 - 8 + 1), NE (x1 - 8 + 1) (x2 - 3), c3, ?_, c30, c31, fin _ _ (by omega) (by omega) (by omega)⟩
    have b4 : ((0 : Int) == 4) = false := by decide
    have sb : (6 : Int) - 0 = 6 := by decide
    simp only [getS_0, getS_s, ev_var, rdS_val, rdS_own, ev_cst, of_some, of_some', ev_bin, kBin_ok, kBin_ok', ev_cmp, kCmp_ok, kCmp_ok', kCmpR_some, ev_chn, kChn_ok, kChn_ok', kChn2_some, ev_and, kAnd_ok, ev_or, kOr_ok, ev_not, kNot_ok, ev_neg, kNeg_ok, ev_ite, kIteE_ok, es_nil, es_cons, kEs_ok, kEs_ok', ev_tup, ev_lst, kTup_ok, kLst_ok, ev_prim, kPrim_ok, ev_mix, kMix_ok, kMix_ok', kMix2_ok, as_nil, as_val, kAs_ok, kAs_ok', as_own, kOwn_ok, kOwn_ok', kOwn2_ok, as_tmp, kTmp_ok, ev_call, kCall_val, kCall_own, kV_ok, kV_exc, kCallR_ok, ev_callk, kCk_ok, kCk_ok', ev_comp, it_val, it_rng1, it_rng2, kI_ok, kI1_ok, kI2_ok, kI2_ok', ex_skip, ex_brk, ex_cnt, ex_seq, kSeq_nx, kSeq_rt, kSeq_bk, kSeq_ct, kSeq_exc, ex_asg, kAsg_ok, srof, put_eq, kPut_t, free_non, free_val, free_own, bind_name, bind_tup, bind_lst, all_nil, all_cons, kAll_some, ex_new, kNew_ok, ex_app, kApp_ok, kApp_ok', kApp2_ok, ex_put, kSto_ok, kSto1_ok, kSto2_ok, kSto3_0, ex_exp, kExp_ok, ex_ret, kRet_ok, ex_ite, kIte_ok, ex_for, kFor_ok, ex_whl, fin_nx, fin_rt, bn_add, bn_sub, bn_cat, bn_rep2, cp_lt, cp_le, cp_gt, cp_ge, cp_eq, cp_is, cp_nis, cp_ne, kNe_some, av_val, av_tmp, av_own, avO_own, pm_eq, pg_nil, pg_inl, pg_inr, pd_nil, pd_inl, pd_inr, gd_0, gd_s, nw_nil, nw_val, nw_tmp, nw_own, no_nil, no_val, no_tmp, no_own, lt_nil, lt_inl, lt_inr, lentK_t, lentK_f, io_own, io_val, io_tmp, io_none, bk_nil, bk_cons, b1_none, b1_some, backO_own, at_0, at_1, at_2, at_3, at_4, pr_idx_t, pr_idx_l, pr_idx_f, pr_len_t, pr_len_l, pr_len_f, pr_int, pr_int_t, pr_int_f, pr_abs, pr_min, pr_max, dr_ok, eq_int, eq_bl, List.cons_append, List.nil_append, List.append_nil, List.append_assoc, List.length_cons, List.length_nil, List.set_cons_zero, List.set_cons_succ, List.take_succ_cons, List.take_zero, List.take_nil, List.replicate_succ, List.replicate_zero, List.map_cons, List.map_nil, List.getElem?_cons_zero, List.getElem?_cons_succ, is0_non, is0_bl, is0_int, is0_str, is0_tup, is0_lst, is1_non, is1_bl, is1_int, is1_str, is1_tup, is1_lst, is2_non, is2_bl, is2_int, is2_str, is2_tup, is2_lst, is3_non, is3_bl, is3_int, is3_str, is3_tup, is3_lst, is4_non, is4_bl, is4_int, is4_str, is4_tup, is4_lst, ev_make, kMake_ok, kMk_ok, pr_fld0, pr_fld1, pr_fld2, pr_isc, pr_drop1, yes_eq, co_nil, co_cons, kCo1_ok, kCo2_ok, kCo3_ok, kCo4_ok, ev_comp2, kC2_ok, kC2e_ok, ns_non, clr_eq', kClr_t, iv_non, iv_val, cl_nil, cl_cons, kCl_b, kCl2_ok, kCl3_some, kComp_ok2, kCm_ok, pr_int_b, it_rng3, kI3_ok, kI3_ok', cp_in, cp_nin, isn_non, isn_tup, forL_nil, forL_cons, kFl_ok, kFb_nx, kFb_ct, kFb_bk, kFb_rt, sq_t, sq_l, kWhl_ok, kWb_nx, kWb_ct, kWb_bk, kWb_rt, lineN, cond_true, cond_false, Bool.cond_decide, Bool.not_true, Bool.not_false, Bool.and_true, Bool.true_and, Bool.and_false, Bool.false_and, Nat.zero_add, beq_self_eq_true, decide_true, decide_false, if_true, if_false, Bool.true_eq_false, Bool.false_eq_true, reduceIte, Nat.reduceAdd, Nat.reduceSub, Nat.reduceMul, Nat.reduceLeDiff, Nat.reduceBEq, Nat.reduceEqDiff, Int.reduceToNat, Int.reduceNeg, Nat.reduceLT, Nat.sub_self, u_cNumber, t5, w20, w60, w200, a1, a2, a3, t1, b4, sb, t2, od]
  · rw [hw] at t5
    generalize hc5 : c / 5 = c1 at t5
    have a1 : bin .mul (.int 2) (.int 64) = some (.int 128) := bn_mul (by decide +kernel)
    have a2 : bin .mul (.int 2) (.int 9) = some (.int 18) := bn_mul (by decide +kernel)
    have a3 : bin .mul (.int 200) (.int 0) = some (.int 0) := bn_mul (by decide +kernel)
    have t1 := tk c1 128 (by decide) (by decide +kernel)
    obtain ⟨x1, hx1, x10, x11⟩ : ∃ x1 : Int, c1 % 128 = x1 ∧ 0 ≤ x1 ∧ x1 < 128 := ⟨_, rfl, by omega, by omega⟩
    obtain ⟨c2, hc2, c20, c21⟩ : ∃ c2 : Int, c1 / 128 = c2 ∧ 0 ≤ c2 ∧ c2 ≤ c := ⟨_, rfl, by omega, by omega⟩
    rw [hx1, hc2] at t1
    have t2 := tk c2 18 (by decide) (by decide +kernel)
    obtain ⟨x2, hx2, x20, x21⟩ : ∃ x2 : Int, c2 % 18 = x2 ∧ 0 ≤ x2 ∧ x2 < 18 := ⟨_, rfl, by omega, by omega⟩
    obtain ⟨c3, hc3, c30, c31⟩ : ∃ c3 : Int, c2 / 18 = c3 ∧ 0 ≤ c3 ∧ c3 ≤ c := ⟨_, rfl, by omega, by omega⟩
    rw [hx2, hc3] at t2
    have od : dropR (run T F (k + 1) fo [.val (.int (x1 - 64 + 1)), .val (.int (x2 - 9))]) = _ := sp_odd ho hF (Nat.lt_of_lt_of_le (show (x1 - 64 + 1).natAbs < 2 ^ 201 by omega) (Nat.pow_le_pow_right (by decide) (by decide)))
    refine ⟨NM (x1 - 64 + 1), NE (x1 - 64 + 1) (x2 - 9), c3, ?_, c30, c31, fin _ _ (by omega) (by omega) (by omega)⟩
    have b4 : ((1 : Int) == 4) = false := by decide
    have sb : (18 : Int) - 0 = 18 := by decide
    simp only [getS_0, getS_s, ev_var, rdS_val, rdS_own, ev_cst, of_some, of_some', ev_bin, kBin_ok, kBin_ok', ev_cmp, kCmp_ok, kCmp_ok', kCmpR_some, ev_chn, kChn_ok, kChn_ok', kChn2_some, ev_and, kAnd_ok, ev_or, kOr_ok, ev_not, kNot_ok, ev_neg, kNeg_ok, ev_ite, kIteE_ok, es_nil, es_cons, kEs_ok, kEs_ok', ev_tup, ev_lst, kTup_ok, kLst_ok, ev_prim, kPrim_ok, ev_mix, kMix_ok, kMix_ok', kMix2_ok, as_nil, as_val, kAs_ok, kAs_ok', as_own, kOwn_ok, kOwn_ok', kOwn2_ok, as_tmp, kTmp_ok, ev_call, kCall_val, kCall_own, kV_ok, kV_exc, kCallR_ok, ev_callk, kCk_ok, kCk_ok', ev_comp, it_val, it_rng1, it_rng2, kI_ok, kI1_ok, kI2_ok, kI2_ok', ex_skip, ex_brk, ex_cnt, ex_seq, kSeq_nx, kSeq_rt, kSeq_bk, kSeq_ct, kSeq_exc, ex_asg, kAsg_ok, srof, put_eq, kPut_t, free_non, free_val, free_own, bind_name, bind_tup, bind_lst, all_nil, all_cons, kAll_some, ex_new, kNew_ok, ex_app, kApp_ok, kApp_ok', kApp2_ok, ex_put, kSto_ok, kSto1_ok, kSto2_ok, kSto3_0, ex_exp, kExp_ok, ex_ret, kRet_ok, ex_ite, kIte_ok, ex_for, kFor_ok, ex_whl, fin_nx, fin_rt, bn_add, bn_sub, bn_cat, bn_rep2, cp_lt, cp_le, cp_gt, cp_ge, cp_eq, cp_is, cp_nis, cp_ne, kNe_some, av_val, av_tmp, av_own, avO_own, pm_eq, pg_nil, pg_inl, pg_inr, pd_nil, pd_inl, pd_inr, gd_0, gd_s, nw_nil, nw_val, nw_tmp, nw_own, no_nil, no_val, no_tmp, no_own, lt_nil, lt_inl, lt_inr, lentK_t, lentK_f, io_own, io_val, io_tmp, io_none, bk_nil, bk_cons, b1_none, b1_some, backO_own, at_0, at_1, at_2, at_3, at_4, pr_idx_t, pr_idx_l, pr_idx_f, pr_len_t, pr_len_l, pr_len_f, pr_int, pr_int_t, pr_int_f, pr_abs, pr_min, pr_max, dr_ok, eq_int, eq_bl, List.cons_append, List.nil_append, List.append_nil, List.append_assoc, List.length_cons, List.length_nil, List.set_cons_zero, List.set_cons_succ, List.take_succ_cons, List.take_zero, List.take_nil, List.replicate_succ, List.replicate_zero, List.map_cons, List.map_nil, List.getElem?_cons_zero, List.getElem?_cons_succ, is0_non, is0_bl, is0_int, is0_str, is0_tup, is0_lst, is1_non, is1_bl, is1_int, is1_str, is1_tup, is1_lst, is2_non, is2_bl, is2_int, is2_str, is2_tup, is2_lst, is3_non, is3_bl, is3_int, is3_str, is3_tup, is3_lst, is4_non, is4_bl, is4_int, is4_str, is4_tup, is4_lst, ev_make, kMake_ok, kMk_ok, pr_fld0, pr_fld1, pr_fld2, pr_isc, pr_drop1, yes_eq, co_nil, co_cons, kCo1_ok, kCo2_ok, kCo3_ok, kCo4_ok, ev_comp2, kC2_ok, kC2e_ok, ns_non, clr_eq', kClr_t, iv_non, iv_val, cl_nil, cl_cons, kCl_b, kCl2_ok, kCl3_some, kComp_ok2, kCm_ok, pr_int_b, it_rng3, kI3_ok, kI3_ok', cp_in, cp_nin, isn_non, isn_tup, forL_nil, forL_cons, kFl_ok, kFb_nx, kFb_ct, kFb_bk, kFb_rt, sq_t, sq_l, kWhl_ok, kWb_nx, kWb_ct, kWb_bk, kWb_rt, lineN, cond_true, cond_false, Bool.cond_decide, Bool.not_true, Bool.not_false, Bool.and_true, Bool.true_and, Bool.and_false, Bool.false_and, Nat.zero_add, beq_self_eq_true, decide_true, decide_false, if_true, if_false, Bool.true_eq_false, Bool.false_eq_true, reduceIte, Nat.reduceAdd, Nat.reduceSub, Nat.reduceMul, Nat.reduceLeDiff, Nat.reduceBEq, Nat.reduceEqDiff, Int.reduceToNat, Int.reduceNeg, Nat.reduceLT, Nat.sub_self, u_cNumber, t5, w20, w60, w200, a1, a2, a3, t1, b4, sb, t2, od]
  · rw [hw] at t5
    generalize hc5 : c / 5 = c1 at t5
    have a1 : bin .mul (.int 2) (.int 1048576) = some (.int 2097152) := bn_mul (by decide +kernel)
    have a2 : bin .mul (.int 2) (.int 30) = some (.int 60) := bn_mul (by decide +kernel)
    have a3 : bin .mul (.int 200) (.int 0) = some (.int 0) := bn_mul (by decide +kernel)
    have t1 := tk c1 2097152 (by decide) (by decide +kernel)
    obtain ⟨x1, hx1, x10, x11⟩ : ∃ x1 : Int, c1 % 2097152 = x1 ∧ 0 ≤ x1 ∧ x1 < 2097152 := ⟨_, rfl, by omega, by omega⟩
    obtain ⟨c2, hc2, c20, c21⟩ : ∃ c2 : Int, c1 / 2097152 = c2 ∧ 0 ≤ c2 ∧ c2 ≤ c := ⟨_, rfl, by omega, by omega⟩
    rw [hx1, hc2] at t1
    have t2 := tk c2 60 (by decide) (by decide +kernel)
    obtain ⟨x2, hx2, x20, x21⟩ : ∃ x2 : Int, c2 % 60 = x2 ∧ 0 ≤ x2 ∧ x2 < 60 := ⟨_, rfl, by omega, by omega⟩
    obtain ⟨c3, hc3, c30, c31⟩ : ∃ c3 : Int, c2 / 60 = c3 ∧ 0 ≤ c3 ∧ c3 ≤ c := ⟨_, rfl, by omega, by omega⟩
    rw [hx2, hc3] at t2
    have od : dropR (run T F (k + 1) fo [.val (.int (x1 - 1048576 + 1)), .val (.int (x2 - 30))]) = _ := sp_odd ho hF (Nat.lt_of_lt_of_le (show (x1 - 1048576 + 1).natAbs < 2 ^ 201 by omega) (Nat.pow_le_pow_right (by decide) (by decide)))
    refine ⟨NM (x1 - 1048576 + 1), NE (x1 - 1048576 + 1) (x2 - 30), c3, ?_, c30, c31, fin _ _ (by omega) (by omega) (by omega)⟩
    have b4 : ((2 : Int) == 4) = false := by decide
    have sb : (60 : Int) - 0 = 60 := by decide
    simp only [getS_0, getS_s, ev_var, rdS_val, rdS_own, ev_cst, of_some, of_some', ev_bin, kBin_ok, kBin_ok', ev_cmp, kCmp_ok, kCmp_ok', kCmpR_some, ev_chn, kChn_ok, kChn_ok', kChn2_some, ev_and, kAnd_ok, ev_or, kOr_ok, ev_not, kNot_ok, ev_neg, kNeg_ok, ev_ite, kIteE_ok, es_nil, es_cons, kEs_ok, kEs_ok', ev_tup, ev_lst, kTup_ok, kLst_ok, ev_prim, kPrim_ok, ev_mix, kMix_ok, kMix_ok', kMix2_ok, as_nil, as_val, kAs_ok, kAs_ok', as_own, kOwn_ok, kOwn_ok', kOwn2_ok, as_tmp, kTmp_ok, ev_call, kCall_val, kCall_own, kV_ok, kV_exc, kCallR_ok, ev_callk, kCk_ok, kCk_ok', ev_comp, it_val, it_rng1, it_rng2, kI_ok, kI1_ok, kI2_ok, kI2_ok', ex_skip, ex_brk, ex_cnt, ex_seq, kSeq_nx, kSeq_rt, kSeq_bk, kSeq_ct, kSeq_exc, ex_asg, kAsg_ok, srof, put_eq, kPut_t, free_non, free_val, free_own, bind_name, bind_tup, bind_lst, all_nil, all_cons, kAll_some, ex_new, kNew_ok, ex_app, kApp_ok, kApp_ok', kApp2_ok, ex_put, kSto_ok, kSto1_ok, kSto2_ok, kSto3_0, ex_exp, kExp_ok, ex_ret, kRet_ok, ex_ite, kIte_ok, ex_for, kFor_ok, ex_whl, fin_nx, fin_rt, bn_add, bn_sub, bn_cat, bn_rep2, cp_lt, cp_le, cp_gt, cp_ge, cp_eq, cp_is, cp_nis, cp_ne, kNe_some, av_val, av_tmp, av_own, avO_own, pm_eq, pg_nil, pg_inl, pg_inr, pd_nil, pd_inl, pd_inr, gd_0, gd_s, nw_nil, nw_val, nw_tmp, nw_own, no_nil, no_val, no_tmp, no_own, lt_nil, lt_inl, lt_inr, lentK_t, lentK_f, io_own, io_val, io_tmp, io_none, bk_nil, bk_cons, b1_none, b1_some, backO_own, at_0, at_1, at_2, at_3, at_4, pr_idx_t, pr_idx_l, pr_idx_f, pr_len_t, pr_len_l, pr_len_f, pr_int, pr_int_t, pr_int_f, pr_abs, pr_min, pr_max, dr_ok, eq_int, eq_bl, List.cons_append, List.nil_append, List.append_nil, List.append_assoc, List.length_cons, List.length_nil, List.set_cons_zero, List.set_cons_succ, List.take_succ_cons, List.take_zero, List.take_nil, List.replicate_succ, List.replicate_zero, List.map_cons, List.map_nil, List.getElem?_cons_zero, List.getElem?_cons_succ, is0_non, is0_bl, is0_int, is0_str, is0_tup, is0_lst, is1_non, is1_bl, is1_int, is1_str, is1_tup, is1_lst, is2_non, is2_bl, is2_int, is2_str, is2_tup, is2_lst, is3_non, is3_bl, is3_int, is3_str, is3_tup, is3_lst, is4_non, is4_bl, is4_int, is4_str, is4_tup, is4_lst, ev_make, kMake_ok, kMk_ok, pr_fld0, pr_fld1, pr_fld2, pr_isc, pr_drop1, yes_eq, co_nil, co_cons, kCo1_ok, kCo2_ok, kCo3_ok, kCo4_ok, ev_comp2, kC2_ok, kC2e_ok, ns_non, clr_eq', kClr_t, iv_non, iv_val, cl_nil, cl_cons, kCl_b, kCl2_ok, kCl3_some, kComp_ok2, kCm_ok, pr_int_b, it_rng3, kI3_ok, kI3_ok', cp_in, cp_nin, isn_non, isn_tup, forL_nil, forL_cons, kFl_ok, kFb_nx, kFb_ct, kFb_bk, kFb_rt, sq_t, sq_l, kWhl_ok, kWb_nx, kWb_ct, kWb_bk, kWb_rt, lineN, cond_true, cond_false, Bool.cond_decide, Bool.not_true, Bool.not_false, Bool.and_true, Bool.true_and, Bool.and_false, Bool.false_and, Nat.zero_add, beq_self_eq_true, decide_true, decide_false, if_true, if_false, Bool.true_eq_false, Bool.false_eq_true, reduceIte, Nat.reduceAdd, Nat.reduceSub, Nat.reduceMul, Nat.reduceLeDiff, Nat.reduceBEq, Nat.reduceEqDiff, Int.reduceToNat, Int.reduceNeg, Nat.reduceLT, Nat.sub_self, u_cNumber, t5, w20, w60, w200, a1, a2, a3, t1, b4, sb, t2, od]
  · rw [hw] at t5
    generalize hc5 : c / 5 = c1 at t5
    have a1 : bin .mul (.int 2) (.int 1152921504606846976) = some (.int 2305843009213693952) := bn_mul (by decide +kernel)
    have a2 : bin .mul (.int 2) (.int 100) = some (.int 200) := bn_mul (by decide +kernel)
    have a3 : bin .mul (.int 200) (.int 0) = some (.int 0) := bn_mul (by decide +kernel)
    have t1 := tk c1 2305843009213693952 (by decide) (by decide +kernel)
    obtain ⟨x1, hx1, x10, x11⟩ : ∃ x1 : Int, c1 % 2305843009213693952 = x1 ∧ 0 ≤ x1 ∧ x1 < 2305843009213693952 := ⟨_, rfl, by omega, by omega⟩
    obtain ⟨c2, hc2, c20, c21⟩ : ∃ c2 : Int, c1 / 2305843009213693952 = c2 ∧ 0 ≤ c2 ∧ c2 ≤ c := ⟨_, rfl, by omega, by omega⟩
    rw [hx1, hc2] at t1
    have t2 := tk c2 200 (by decide) (by decide +kernel)
    obtain ⟨x2, hx2, x20, x21⟩ : ∃ x2 : Int, c2 % 200 = x2 ∧ 0 ≤ x2 ∧ x2 < 200 := ⟨_, rfl, by omega, by omega⟩
    obtain ⟨c3, hc3, c30, c31⟩ : ∃ c3 : Int, c2 / 200 = c3 ∧ 0 ≤ c3 ∧ c3 ≤ c := ⟨_, rfl, by omega, by omega⟩
    rw [hx2, hc3] at t2
    have od : dropR (run T F (k + 1) fo [.val (.int (x1 - 1152921504606846976 + 1)), .val (.int (x2 - 100))]) = _ := sp_odd ho hF (Nat.lt_of_lt_of_le (show (x1 - 1152921504606846976 + 1).natAbs < 2 ^ 201 by omega) (Nat.pow_le_pow_right (by decide) (by decide)))
    refine ⟨NM (x1 - 1152921504606846976 + 1), NE (x1 - 1152921504606846976 + 1) (x2 - 100), c3, ?_, c30, c31, fin _ _ (by omega) (by omega) (by omega)⟩
    have b4 : ((3 : Int) == 4) = false := by decide
    have sb : (200 : Int) - 0 = 200 := by decide
    simp only [getS_0, getS_s, ev_var, rdS_val, rdS_own, ev_cst, of_some, of_some', ev_bin, kBin_ok, kBin_ok', ev_cmp, kCmp_ok, kCmp_ok', kCmpR_some, ev_chn, kChn_ok, kChn_ok', kChn2_some, ev_and, kAnd_ok, ev_or, kOr_ok, ev_not, kNot_ok, ev_neg, kNeg_ok, ev_ite, kIteE_ok, es_nil, es_cons, kEs_ok, kEs_ok', ev_tup, ev_lst, kTup_ok, kLst_ok, ev_prim, kPrim_ok, ev_mix, kMix_ok, kMix_ok', kMix2_ok, as_nil, as_val, kAs_ok, kAs_ok', as_own, kOwn_ok, kOwn_ok', kOwn2_ok, as_tmp, kTmp_ok, ev_call, kCall_val, kCall_own, kV_ok, kV_exc, kCallR_ok, ev_callk, kCk_ok, kCk_ok', ev_comp, it_val, it_rng1, it_rng2, kI_ok, kI1_ok, kI2_ok, kI2_ok', ex_skip, ex_brk, ex_cnt, ex_seq, kSeq_nx, kSeq_rt, kSeq_bk, kSeq_ct, kSeq_exc, ex_asg, kAsg_ok, srof, put_eq, kPut_t, free_non, free_val, free_own, bind_name, bind_tup, bind_lst, all_nil, all_cons, kAll_some, ex_new, kNew_ok, ex_app, kApp_ok, kApp_ok', kApp2_ok, ex_put, kSto_ok, kSto1_ok, kSto2_ok, kSto3_0, ex_exp, kExp_ok, ex_ret, kRet_ok, ex_ite, kIte_ok, ex_for, kFor_ok, ex_whl, fin_nx, fin_rt, bn_add, bn_sub, bn_cat, bn_rep2, cp_lt, cp_le, cp_gt, cp_ge, cp_eq, cp_is, cp_nis, cp_ne, kNe_some, av_val, av_tmp, av_own, avO_own, pm_eq, pg_nil, pg_inl, pg_inr, pd_nil, pd_inl, pd_inr, gd_0, gd_s, nw_nil, nw_val, nw_tmp, nw_own, no_nil, no_val, no_tmp, no_own, lt_nil, lt_inl, lt_inr, lentK_t, lentK_f, io_own, io_val, io_tmp, io_none, bk_nil, bk_cons, b1_none, b1_some, backO_own, at_0, at_1, at_2, at_3, at_4, pr_idx_t, pr_idx_l, pr_idx_f, pr_len_t, pr_len_l, pr_len_f, pr_int, pr_int_t, pr_int_f, pr_abs, pr_min, pr_max, dr_ok, eq_int, eq_bl, List.cons_append, List.nil_append, List.append_nil, List.append_assoc, List.length_cons, List.length_nil, List.set_cons_zero, List.set_cons_succ, List.take_succ_cons, List.take_zero, List.take_nil, List.replicate_succ, List.replicate_zero, List.map_cons, List.map_nil, List.getElem?_cons_zero, List.getElem?_cons_succ, is0_non, is0_bl, is0_int, is0_str, is0_tup, is0_lst, is1_non, is1_bl, is1_int, is1_str, is1_tup, is1_lst, is2_non, is2_bl, is2_int, is2_str, is2_tup, is2_lst, is3_non, is3_bl, is3_int, is3_str, is3_tup, is3_lst, is4_non, is4_bl, is4_int, is4_str, is4_tup, is4_lst, ev_make, kMake_ok, kMk_ok, pr_fld0, pr_fld1, pr_fld2, pr_isc, pr_drop1, yes_eq, co_nil, co_cons, kCo1_ok, kCo2_ok, kCo3_ok, kCo4_ok, ev_comp2, kC2_ok, kC2e_ok, ns_non, clr_eq', kClr_t, iv_non, iv_val, cl_nil, cl_cons, kCl_b, kCl2_ok, kCl3_some, kComp_ok2, kCm_ok, pr_int_b, it_rng3, kI3_ok, kI3_ok', cp_in, cp_nin, isn_non, isn_tup, forL_nil, forL_cons, kFl_ok, kFb_nx, kFb_ct, kFb_bk, kFb_rt, sq_t, sq_l, kWhl_ok, kWb_nx, kWb_ct, kWb_bk, kWb_rt, lineN, cond_true, cond_false, Bool.cond_decide, Bool.not_true, Bool.not_false, Bool.and_true, Bool.true_and, Bool.and_false, Bool.false_and, Nat.zero_add, beq_self_eq_true, decide_true, decide_false, if_true, if_false, Bool.true_eq_false, Bool.false_eq_true, reduceIte, Nat.reduceAdd, Nat.reduceSub, Nat.reduceMul, Nat.reduceLeDiff, Nat.reduceBEq, Nat.reduceEqDiff, Int.reduceToNat, Int.reduceNeg, Nat.reduceLT, Nat.sub_self, u_cNumber, t5, w20, w60, w200, a1, a2, a3, t1, b4, sb, t2, od]
  · rw [hw] at t5
    generalize hc5 : c / 5 = c1 at t5
    have a1 : bin .mul (.int 2) (.int 1606938044258990275541962092341162602522202993782792835301376) = some (.int 3213876088517980551083924184682325205044405987565585670602752) := bn_mul (by decide +kernel)
    have a2 : bin .mul (.int 2) (.int 800) = some (.int 1600) := bn_mul (by decide +kernel)
    have a3 : bin .mul (.int 200) (.int 1) = some (.int 200) := bn_mul (by decide +kernel)
    have t1 := tk c1 3213876088517980551083924184682325205044405987565585670602752 (by decide) (by decide +kernel)
    obtain ⟨x1, hx1, x10, x11⟩ : ∃ x1 : Int, c1 % 3213876088517980551083924184682325205044405987565585670602752 = x1 ∧ 0 ≤ x1 ∧ x1 < 3213876088517980551083924184682325205044405987565585670602752 := ⟨_, rfl, by omega, by omega⟩
    obtain ⟨c2, hc2, c20, c21⟩ : ∃ c2 : Int, c1 / 3213876088517980551083924184682325205044405987565585670602752 = c2 ∧ 0 ≤ c2 ∧ c2 ≤ c := ⟨_, rfl, by omega, by omega⟩
    rw [hx1, hc2] at t1
    have t2 := tk c2 1400 (by decide) (by decide +kernel)
    obtain ⟨x2, hx2, x20, x21⟩ : ∃ x2 : Int, c2 % 1400 = x2 ∧ 0 ≤ x2 ∧ x2 < 1400 := ⟨_, rfl, by omega, by omega⟩
    obtain ⟨c3, hc3, c30, c31⟩ : ∃ c3 : Int, c2 / 1400 = c3 ∧ 0 ≤ c3 ∧ c3 ≤ c := ⟨_, rfl, by omega, by omega⟩
    rw [hx2, hc3] at t2
    have od : dropR (run T F (k + 1) fo [.val (.int (x1 - 1606938044258990275541962092341162602522202993782792835301376 + 1)), .val (.int (x2 - 800))]) = _ := sp_odd ho hF (Nat.lt_of_lt_of_le (show (x1 - 1606938044258990275541962092341162602522202993782792835301376 + 1).natAbs < 2 ^ 201 by omega) (Nat.pow_le_pow_right (by decide) (by decide)))
    refine ⟨NM (x1 - 1606938044258990275541962092341162602522202993782792835301376 + 1), NE (x1 - 1606938044258990275541962092341162602522202993782792835301376 + 1) (x2 - 800), c3, ?_, c30, c31, fin _ _ (by omega) (by omega) (by omega)⟩
    have b4 : ((4 : Int) == 4) = true := by decide
    have sb : (1600 : Int) - 200 = 1400 := by decide
    simp only [getS_0, getS_s, ev_var, rdS_val, rdS_own, ev_cst, of_some, of_some', ev_bin, kBin_ok, kBin_ok', ev_cmp, kCmp_ok, kCmp_ok', kCmpR_some, ev_chn, kChn_ok, kChn_ok', kChn2_some, ev_and, kAnd_ok, ev_or, kOr_ok, ev_not, kNot_ok, ev_neg, kNeg_ok, ev_ite, kIteE_ok, es_nil, es_cons, kEs_ok, kEs_ok', ev_tup, ev_lst, kTup_ok, kLst_ok, ev_prim, kPrim_ok, ev_mix, kMix_ok, kMix_ok', kMix2_ok, as_nil, as_val, kAs_ok, kAs_ok', as_own, kOwn_ok, kOwn_ok', kOwn2_ok, as_tmp, kTmp_ok, ev_call, kCall_val, kCall_own, kV_ok, kV_exc, kCallR_ok, ev_callk, kCk_ok, kCk_ok', ev_comp, it_val, it_rng1, it_rng2, kI_ok, kI1_ok, kI2_ok, kI2_ok', ex_skip, ex_brk, ex_cnt, ex_seq, kSeq_nx, kSeq_rt, kSeq_bk, kSeq_ct, kSeq_exc, ex_asg, kAsg_ok, srof, put_eq, kPut_t, free_non, free_val, free_own, bind_name, bind_tup, bind_lst, all_nil, all_cons, kAll_some, ex_new, kNew_ok, ex_app, kApp_ok, kApp_ok', kApp2_ok, ex_put, kSto_ok, kSto1_ok, kSto2_ok, kSto3_0, ex_exp, kExp_ok, ex_ret, kRet_ok, ex_ite, kIte_ok, ex_for, kFor_ok, ex_whl, fin_nx, fin_rt, bn_add, bn_sub, bn_cat, bn_rep2, cp_lt, cp_le, cp_gt, cp_ge, cp_eq, cp_is, cp_nis, cp_ne, kNe_some, av_val, av_tmp, av_own, avO_own, pm_eq, pg_nil, pg_inl, pg_inr, pd_nil, pd_inl, pd_inr, gd_0, gd_s, nw_nil, nw_val, nw_tmp, nw_own, no_nil, no_val, no_tmp, no_own, lt_nil, lt_inl, lt_inr, lentK_t, lentK_f, io_own, io_val, io_tmp, io_none, bk_nil, bk_cons, b1_none, b1_some, backO_own, at_0, at_1, at_2, at_3, at_4, pr_idx_t, pr_idx_l, pr_idx_f, pr_len_t, pr_len_l, pr_len_f, pr_int, pr_int_t, pr_int_f, pr_abs, pr_min, pr_max, dr_ok, eq_int, eq_bl, List.cons_append, List.nil_append, List.append_nil, List.append_assoc, List.length_cons, List.length_nil, List.set_cons_zero, List.set_cons_succ, List.take_succ_cons, List.take_zero, List.take_nil, List.replicate_succ, List.replicate_zero, List.map_cons, List.map_nil, List.getElem?_cons_zero, List.getElem?_cons_succ, is0_non, is0_bl, is0_int, is0_str, is0_tup, is0_lst, is1_non, is1_bl, is1_int, is1_str, is1_tup, is1_lst, is2_non, is2_bl, is2_int, is2_str, is2_tup, is2_lst, is3_non, is3_bl, is3_int, is3_str, is3_tup, is3_lst, is4_non, is4_bl, is4_int, is4_str, is4_tup, is4_lst, ev_make, kMake_ok, kMk_ok, pr_fld0, pr_fld1, pr_fld2, pr_isc, pr_drop1, yes_eq, co_nil, co_cons, kCo1_ok, kCo2_ok, kCo3_ok, kCo4_ok, ev_comp2, kC2_ok, kC2e_ok, ns_non, clr_eq', kClr_t, iv_non, iv_val, cl_nil, cl_cons, kCl_b, kCl2_ok, kCl3_some, kComp_ok2, kCm_ok, pr_int_b, it_rng3, kI3_ok, kI3_ok', cp_in, cp_nin, isn_non, isn_tup, forL_nil, forL_cons, kFl_ok, kFb_nx, kFb_ct, kFb_bk, kFb_rt, sq_t, sq_l, kWhl_ok, kWb_nx, kWb_ct, kWb_bk, kWb_rt, lineN, cond_true, cond_false, Bool.cond_decide, Bool.not_true, Bool.not_false, Bool.and_true, Bool.true_and, Bool.and_false, Bool.false_and, Nat.zero_add, beq_self_eq_true, decide_true, decide_false, if_true, if_false, Bool.true_eq_false, Bool.false_eq_true, reduceIte, Nat.reduceAdd, Nat.reduceSub, Nat.reduceMul, Nat.reduceLeDiff, Nat.reduceBEq, Nat.reduceEqDiff, Int.reduceToNat, Int.reduceNeg, Nat.reduceLT, Nat.sub_self, u_cNumber, t5, w20, w60, w200, a1, a2, a3, t1, b4, sb, t2, od]
/-! ### what is whole, what is a number -/
def plainD : D → Bool
  | .frz _ => false
  | .ins _ _ => false
  | _ => true
def isW : D → Bool
  | .int _ => true
  | _ => false
def cIsWhole : St := (.seq (.ret (.and (.prim (.isa 0) (.cons (.var 0) .nil)) (.not (.prim (.isa 1) (.cons (.var 0) .nil))))) .skip)
theorem u_cIsWhole {C : Cx} {r : List S} : exS C cIsWhole r = exS C (.seq (.ret (.and (.prim (.isa 0) (.cons (.var 0) .nil)) (.not (.prim (.isa 1) (.cons (.var 0) .nil))))) .skip) r := byRfl rfl
theorem sp_whole (hT : T f = some ⟨1, 1, cIsWhole⟩) {d : D} (h : plainD d = true) : dropR (run T F (k + 1) f [.val d]) = .ok (.bl (isW d)) [] := by
  rw [rnT hT]
  cases d with
  | frz l => cases h
  | ins c l => cases h
  | _ => simp only [getS_0, getS_s, ev_var, rdS_val, rdS_own, ev_cst, of_some, of_some', ev_bin, kBin_ok, kBin_ok', ev_cmp, kCmp_ok, kCmp_ok', kCmpR_some, ev_chn, kChn_ok, kChn_ok', kChn2_some, ev_and, kAnd_ok, ev_or, kOr_ok, ev_not, kNot_ok, ev_neg, kNeg_ok, ev_ite, kIteE_ok, es_nil, es_cons, kEs_ok, kEs_ok', ev_tup, ev_lst, kTup_ok, kLst_ok, ev_prim, kPrim_ok, ev_mix, kMix_ok, kMix_ok', kMix2_ok, as_nil, as_val, kAs_ok, kAs_ok', as_own, kOwn_ok, kOwn_ok', kOwn2_ok, as_tmp, kTmp_ok, ev_call, kCall_val, kCall_own, kV_ok, kV_exc, kCallR_ok, ev_callk, kCk_ok, kCk_ok', ev_comp, it_val, it_rng1, it_rng2, kI_ok, kI1_ok, kI2_ok, kI2_ok', ex_skip, ex_brk, ex_cnt, ex_seq, kSeq_nx, kSeq_rt, kSeq_bk, kSeq_ct, kSeq_exc, ex_asg, kAsg_ok, srof, put_eq, kPut_t, free_non, free_val, free_own, bind_name, bind_tup, bind_lst, all_nil, all_cons, kAll_some, ex_new, kNew_ok, ex_app, kApp_ok, kApp_ok', kApp2_ok, ex_put, kSto_ok, kSto1_ok, kSto2_ok, kSto3_0, ex_exp, kExp_ok, ex_ret, kRet_ok, ex_ite, kIte_ok, ex_for, kFor_ok, ex_whl, fin_nx, fin_rt, bn_add, bn_sub, bn_cat, bn_rep2, cp_lt, cp_le, cp_gt, cp_ge, cp_eq, cp_is, cp_nis, cp_ne, kNe_some, av_val, av_tmp, av_own, avO_own, pm_eq, pg_nil, pg_inl, pg_inr, pd_nil, pd_inl, pd_inr, gd_0, gd_s, nw_nil, nw_val, nw_tmp, nw_own, no_nil, no_val, no_tmp, no_own, lt_nil, lt_inl, lt_inr, lentK_t, lentK_f, io_own, io_val, io_tmp, io_none, bk_nil, bk_cons, b1_none, b1_some, backO_own, at_0, at_1, at_2, at_3, at_4, pr_idx_t, pr_idx_l, pr_idx_f, pr_len_t, pr_len_l, pr_len_f, pr_int, pr_int_t, pr_int_f, pr_abs, pr_min, pr_max, dr_ok, eq_int, eq_bl, List.cons_append, List.nil_append, List.append_nil, List.append_assoc, List.length_cons, List.length_nil, List.set_cons_zero, List.set_cons_succ, List.take_succ_cons, List.take_zero, List.take_nil, List.replicate_succ, List.replicate_zero, List.map_cons, List.map_nil, List.getElem?_cons_zero, List.getElem?_cons_succ, is0_non, is0_bl, is0_int, is0_str, is0_tup, is0_lst, is1_non, is1_bl, is1_int, is1_str, is1_tup, is1_lst, is2_non, is2_bl, is2_int, is2_str, is2_tup, is2_lst, is3_non, is3_bl, is3_int, is3_str, is3_tup, is3_lst, is4_non, is4_bl, is4_int, is4_str, is4_tup, is4_lst, ev_make, kMake_ok, kMk_ok, pr_fld0, pr_fld1, pr_fld2, pr_isc, pr_drop1, yes_eq, co_nil, co_cons, kCo1_ok, kCo2_ok, kCo3_ok, kCo4_ok, ev_comp2, kC2_ok, kC2e_ok, ns_non, clr_eq', kClr_t, iv_non, iv_val, cl_nil, cl_cons, kCl_b, kCl2_ok, kCl3_some, kComp_ok2, kCm_ok, pr_int_b, it_rng3, kI3_ok, kI3_ok', cp_in, cp_nin, isn_non, isn_tup, forL_nil, forL_cons, kFl_ok, kFb_nx, kFb_ct, kFb_bk, kFb_rt, sq_t, sq_l, kWhl_ok, kWb_nx, kWb_ct, kWb_bk, kWb_rt, lineN, cond_true, cond_false, Bool.cond_decide, Bool.not_true, Bool.not_false, Bool.and_true, Bool.true_and, Bool.and_false, Bool.false_and, Nat.zero_add, beq_self_eq_true, decide_true, decide_false, if_true, if_false, Bool.true_eq_false, Bool.false_eq_true, reduceIte, Nat.reduceAdd, Nat.reduceSub, Nat.reduceMul, Nat.reduceLeDiff, Nat.reduceBEq, Nat.reduceEqDiff, Int.reduceToNat, Int.reduceNeg, Nat.reduceLT, Nat.sub_self, u_cIsWhole, isW]
def isN : D → Bool
  | .tup [.int a, .int b] => (a == 0 && b == 0) || a % 2 == 1
  | _ => false
def okN : D → Bool
  | .tup [a, b] => plainD a && plainD b
  | d => plainD d
def cIsNumber (g : Nat) : St := (.seq (.ite (.or (.not (.prim (.isa 2) (.cons (.var 0) .nil))) (.or (.cmp .ne (.prim .len (.cons (.var 0) .nil)) (.cst (.int (2)))) (.or (.not (.call g [.inl 0] (.val (.prim .idx (.cons (.var 0) (.cons (.cst (.int (0))) .nil))) .nil))) (.not (.call g [.inl 0] (.val (.prim .idx (.cons (.var 0) (.cons (.cst (.int (1))) .nil))) .nil)))))) (.seq (.ret (.cst (.bl false))) .skip) .skip) (.seq (.ret (.or (.cmp .eq (.var 0) (.cst (.tup [(.int (0)), (.int (0))]))) (.cmp .eq (.bin .mod (.prim .idx (.cons (.var 0) (.cons (.cst (.int (0))) .nil))) (.cst (.int (2)))) (.cst (.int (1)))))) .skip))
theorem u_cIsNumber {g : Nat} {C : Cx} {r : List S} : exS C (cIsNumber g) r = exS C (.seq (.ite (.or (.not (.prim (.isa 2) (.cons (.var 0) .nil))) (.or (.cmp .ne (.prim .len (.cons (.var 0) .nil)) (.cst (.int (2)))) (.or (.not (.call g [.inl 0] (.val (.prim .idx (.cons (.var 0) (.cons (.cst (.int (0))) .nil))) .nil))) (.not (.call g [.inl 0] (.val (.prim .idx (.cons (.var 0) (.cons (.cst (.int (1))) .nil))) .nil)))))) (.seq (.ret (.cst (.bl false))) .skip) .skip) (.seq (.ret (.or (.cmp .eq (.var 0) (.cst (.tup [(.int (0)), (.int (0))]))) (.cmp .eq (.bin .mod (.prim .idx (.cons (.var 0) (.cons (.cst (.int (0))) .nil))) (.cst (.int (2)))) (.cst (.int (1)))))) .skip)) r := byRfl rfl
theorem len2 {l : List D} (h : ∀ a b, l ≠ [a, b]) : ((l.length : Int) == 2) = false := by
  rw [beq_eq_false_iff_ne]
  intro e
  match l, h, e with
  | [], _, e => cases e
  | [_], _, e => cases e
  | [a, b], h, _ => exact h a b rfl
  | _ :: _ :: _ :: l, _, e => simp only [List.length_cons] at e; omega
theorem sp_is_number {g : Nat} (hT : T f = some ⟨1, 1, cIsNumber g⟩) (hw : T g = some ⟨1, 1, cIsWhole⟩) {d : D} (h : okN d = true) : dropR (run T F (k + 2) f [.val d]) = .ok (.bl (isN d)) [] := by
  rw [rnT hT]
  have wh : ∀ d, plainD d = true → dropR (run T F (k + 1) g [.val d]) = .ok (.bl (isW d)) [] := fun d h => sp_whole hw h
  cases d with
  | frz l => cases h
  | ins c l => cases h
  | tup l =>
    by_cases h2 : ∀ a b, l ≠ [a, b]
    · have e := len2 h2
      have e2 : isN (.tup l) = false := by
        unfold isN
        split
        · rename_i q; cases q; exact absurd rfl (h2 _ _)
        · rfl
      simp only [getS_0, getS_s, ev_var, rdS_val, rdS_own, ev_cst, of_some, of_some', ev_bin, kBin_ok, kBin_ok', ev_cmp, kCmp_ok, kCmp_ok', kCmpR_some, ev_chn, kChn_ok, kChn_ok', kChn2_some, ev_and, kAnd_ok, ev_or, kOr_ok, ev_not, kNot_ok, ev_neg, kNeg_ok, ev_ite, kIteE_ok, es_nil, es_cons, kEs_ok, kEs_ok', ev_tup, ev_lst, kTup_ok, kLst_ok, ev_prim, kPrim_ok, ev_mix, kMix_ok, kMix_ok', kMix2_ok, as_nil, as_val, kAs_ok, kAs_ok', as_own, kOwn_ok, kOwn_ok', kOwn2_ok, as_tmp, kTmp_ok, ev_call, kCall_val, kCall_own, kV_ok, kV_exc, kCallR_ok, ev_callk, kCk_ok, kCk_ok', ev_comp, it_val, it_rng1, it_rng2, kI_ok, kI1_ok, kI2_ok, kI2_ok', ex_skip, ex_brk, ex_cnt, ex_seq, kSeq_nx, kSeq_rt, kSeq_bk, kSeq_ct, kSeq_exc, ex_asg, kAsg_ok, srof, put_eq, kPut_t, free_non, free_val, free_own, bind_name, bind_tup, bind_lst, all_nil, all_cons, kAll_some, ex_new, kNew_ok, ex_app, kApp_ok, kApp_ok', kApp2_ok, ex_put, kSto_ok, kSto1_ok, kSto2_ok, kSto3_0, ex_exp, kExp_ok, ex_ret, kRet_ok, ex_ite, kIte_ok, ex_for, kFor_ok, ex_whl, fin_nx, fin_rt, bn_add, bn_sub, bn_cat, bn_rep2, cp_lt, cp_le, cp_gt, cp_ge, cp_eq, cp_is, cp_nis, cp_ne, kNe_some, av_val, av_tmp, av_own, avO_own, pm_eq, pg_nil, pg_inl, pg_inr, pd_nil, pd_inl, pd_inr, gd_0, gd_s, nw_nil, nw_val, nw_tmp, nw_own, no_nil, no_val, no_tmp, no_own, lt_nil, lt_inl, lt_inr, lentK_t, lentK_f, io_own, io_val, io_tmp, io_none, bk_nil, bk_cons, b1_none, b1_some, backO_own, at_0, at_1, at_2, at_3, at_4, pr_idx_t, pr_idx_l, pr_idx_f, pr_len_t, pr_len_l, pr_len_f, pr_int, pr_int_t, pr_int_f, pr_abs, pr_min, pr_max, dr_ok, eq_int, eq_bl, List.cons_append, List.nil_append, List.append_nil, List.append_assoc, List.length_cons, List.length_nil, List.set_cons_zero, List.set_cons_succ, List.take_succ_cons, List.take_zero, List.take_nil, List.replicate_succ, List.replicate_zero, List.map_cons, List.map_nil, List.getElem?_cons_zero, List.getElem?_cons_succ, is0_non, is0_bl, is0_int, is0_str, is0_tup, is0_lst, is1_non, is1_bl, is1_int, is1_str, is1_tup, is1_lst, is2_non, is2_bl, is2_int, is2_str, is2_tup, is2_lst, is3_non, is3_bl, is3_int, is3_str, is3_tup, is3_lst, is4_non, is4_bl, is4_int, is4_str, is4_tup, is4_lst, ev_make, kMake_ok, kMk_ok, pr_fld0, pr_fld1, pr_fld2, pr_isc, pr_drop1, yes_eq, co_nil, co_cons, kCo1_ok, kCo2_ok, kCo3_ok, kCo4_ok, ev_comp2, kC2_ok, kC2e_ok, ns_non, clr_eq', kClr_t, iv_non, iv_val, cl_nil, cl_cons, kCl_b, kCl2_ok, kCl3_some, kComp_ok2, kCm_ok, pr_int_b, it_rng3, kI3_ok, kI3_ok', cp_in, cp_nin, isn_non, isn_tup, forL_nil, forL_cons, kFl_ok, kFb_nx, kFb_ct, kFb_bk, kFb_rt, sq_t, sq_l, kWhl_ok, kWb_nx, kWb_ct, kWb_bk, kWb_rt, lineN, cond_true, cond_false, Bool.cond_decide, Bool.not_true, Bool.not_false, Bool.and_true, Bool.true_and, Bool.and_false, Bool.false_and, Nat.zero_add, beq_self_eq_true, decide_true, decide_false, if_true, if_false, Bool.true_eq_false, Bool.false_eq_true, reduceIte, Nat.reduceAdd, Nat.reduceSub, Nat.reduceMul, Nat.reduceLeDiff, Nat.reduceBEq, Nat.reduceEqDiff, Int.reduceToNat, Int.reduceNeg, Nat.reduceLT, Nat.sub_self, u_cIsNumber, e, e2]
    · have ⟨a, b, hl⟩ : ∃ a b, l = [a, b] := Classical.byContradiction fun z => h2 fun a b q => z ⟨a, b, q⟩
      subst hl
      have hp : plainD a = true ∧ plainD b = true := by
        have := h
        unfold okN at this
        rwa [Bool.and_eq_true] at this
      have w1 := wh a hp.1
      have w2 := wh b hp.2
      have two : ((0 + 1 + 1 : Nat) : Int) = 2 := rfl
      cases a with
      | int x =>
        cases b with
        | int y =>
          have im : bin .mod (.int x) (.int 2) = some (.int (x % 2)) := bn_mod (by decide)
          by_cases e : (x == 0 && y == 0) = true
          · simp only [getS_0, getS_s, ev_var, rdS_val, rdS_own, ev_cst, of_some, of_some', ev_bin, kBin_ok, kBin_ok', ev_cmp, kCmp_ok, kCmp_ok', kCmpR_some, ev_chn, kChn_ok, kChn_ok', kChn2_some, ev_and, kAnd_ok, ev_or, kOr_ok, ev_not, kNot_ok, ev_neg, kNeg_ok, ev_ite, kIteE_ok, es_nil, es_cons, kEs_ok, kEs_ok', ev_tup, ev_lst, kTup_ok, kLst_ok, ev_prim, kPrim_ok, ev_mix, kMix_ok, kMix_ok', kMix2_ok, as_nil, as_val, kAs_ok, kAs_ok', as_own, kOwn_ok, kOwn_ok', kOwn2_ok, as_tmp, kTmp_ok, ev_call, kCall_val, kCall_own, kV_ok, kV_exc, kCallR_ok, ev_callk, kCk_ok, kCk_ok', ev_comp, it_val, it_rng1, it_rng2, kI_ok, kI1_ok, kI2_ok, kI2_ok', ex_skip, ex_brk, ex_cnt, ex_seq, kSeq_nx, kSeq_rt, kSeq_bk, kSeq_ct, kSeq_exc, ex_asg, kAsg_ok, srof, put_eq, kPut_t, free_non, free_val, free_own, bind_name, bind_tup, bind_lst, all_nil, all_cons, kAll_some, ex_new, kNew_ok, ex_app, kApp_ok, kApp_ok', kApp2_ok, ex_put, kSto_ok, kSto1_ok, kSto2_ok, kSto3_0, ex_exp, kExp_ok, ex_ret, kRet_ok, ex_ite, kIte_ok, ex_for, kFor_ok, ex_whl, fin_nx, fin_rt, bn_add, bn_sub, bn_cat, bn_rep2, cp_lt, cp_le, cp_gt, cp_ge, cp_eq, cp_is, cp_nis, cp_ne, kNe_some, av_val, av_tmp, av_own, avO_own, pm_eq, pg_nil, pg_inl, pg_inr, pd_nil, pd_inl, pd_inr, gd_0, gd_s, nw_nil, nw_val, nw_tmp, nw_own, no_nil, no_val, no_tmp, no_own, lt_nil, lt_inl, lt_inr, lentK_t, lentK_f, io_own, io_val, io_tmp, io_none, bk_nil, bk_cons, b1_none, b1_some, backO_own, at_0, at_1, at_2, at_3, at_4, pr_idx_t, pr_idx_l, pr_idx_f, pr_len_t, pr_len_l, pr_len_f, pr_int, pr_int_t, pr_int_f, pr_abs, pr_min, pr_max, dr_ok, eq_int, eq_bl, List.cons_append, List.nil_append, List.append_nil, List.append_assoc, List.length_cons, List.length_nil, List.set_cons_zero, List.set_cons_succ, List.take_succ_cons, List.take_zero, List.take_nil, List.replicate_succ, List.replicate_zero, List.map_cons, List.map_nil, List.getElem?_cons_zero, List.getElem?_cons_succ, is0_non, is0_bl, is0_int, is0_str, is0_tup, is0_lst, is1_non, is1_bl, is1_int, is1_str, is1_tup, is1_lst, is2_non, is2_bl, is2_int, is2_str, is2_tup, is2_lst, is3_non, is3_bl, is3_int, is3_str, is3_tup, is3_lst, is4_non, is4_bl, is4_int, is4_str, is4_tup, is4_lst, ev_make, kMake_ok, kMk_ok, pr_fld0, pr_fld1, pr_fld2, pr_isc, pr_drop1, yes_eq, co_nil, co_cons, kCo1_ok, kCo2_ok, kCo3_ok, kCo4_ok, ev_comp2, kC2_ok, kC2e_ok, ns_non, clr_eq', kClr_t, iv_non, iv_val, cl_nil, cl_cons, kCl_b, kCl2_ok, kCl3_some, kComp_ok2, kCm_ok, pr_int_b, it_rng3, kI3_ok, kI3_ok', cp_in, cp_nin, isn_non, isn_tup, forL_nil, forL_cons, kFl_ok, kFb_nx, kFb_ct, kFb_bk, kFb_rt, sq_t, sq_l, kWhl_ok, kWb_nx, kWb_ct, kWb_bk, kWb_rt, lineN, cond_true, cond_false, Bool.cond_decide, Bool.not_true, Bool.not_false, Bool.and_true, Bool.true_and, Bool.and_false, Bool.false_and, Nat.zero_add, beq_self_eq_true, decide_true, decide_false, if_true, if_false, Bool.true_eq_false, Bool.false_eq_true, reduceIte, Nat.reduceAdd, Nat.reduceSub, Nat.reduceMul, Nat.reduceLeDiff, Nat.reduceBEq, Nat.reduceEqDiff, Int.reduceToNat, Int.reduceNeg, Nat.reduceLT, Nat.sub_self, u_cIsNumber, w1, w2, isW, im, eq_pair, e, isN, two, Bool.true_or]
          · have e' : (x == 0 && y == 0) = false := by simpa using e
            simp only [getS_0, getS_s, ev_var, rdS_val, rdS_own, ev_cst, of_some, of_some', ev_bin, kBin_ok, kBin_ok', ev_cmp, kCmp_ok, kCmp_ok', kCmpR_some, ev_chn, kChn_ok, kChn_ok', kChn2_some, ev_and, kAnd_ok, ev_or, kOr_ok, ev_not, kNot_ok, ev_neg, kNeg_ok, ev_ite, kIteE_ok, es_nil, es_cons, kEs_ok, kEs_ok', ev_tup, ev_lst, kTup_ok, kLst_ok, ev_prim, kPrim_ok, ev_mix, kMix_ok, kMix_ok', kMix2_ok, as_nil, as_val, kAs_ok, kAs_ok', as_own, kOwn_ok, kOwn_ok', kOwn2_ok, as_tmp, kTmp_ok, ev_call, kCall_val, kCall_own, kV_ok, kV_exc, kCallR_ok, ev_callk, kCk_ok, kCk_ok', ev_comp, it_val, it_rng1, it_rng2, kI_ok, kI1_ok, kI2_ok, kI2_ok', ex_skip, ex_brk, ex_cnt, ex_seq, kSeq_nx, kSeq_rt, kSeq_bk, kSeq_ct, kSeq_exc, ex_asg, kAsg_ok, srof, put_eq, kPut_t, free_non, free_val, free_own, bind_name, bind_tup, bind_lst, all_nil, all_cons, kAll_some, ex_new, kNew_ok, ex_app, kApp_ok, kApp_ok', kApp2_ok, ex_put, kSto_ok, kSto1_ok, kSto2_ok, kSto3_0, ex_exp, kExp_ok, ex_ret, kRet_ok, ex_ite, kIte_ok, ex_for, kFor_ok, ex_whl, fin_nx, fin_rt, bn_add, bn_sub, bn_cat, bn_rep2, cp_lt, cp_le, cp_gt, cp_ge, cp_eq, cp_is, cp_nis, cp_ne, kNe_some, av_val, av_tmp, av_own, avO_own, pm_eq, pg_nil, pg_inl, pg_inr, pd_nil, pd_inl, pd_inr, gd_0, gd_s, nw_nil, nw_val, nw_tmp, nw_own, no_nil, no_val, no_tmp, no_own, lt_nil, lt_inl, lt_inr, lentK_t, lentK_f, io_own, io_val, io_tmp, io_none, bk_nil, bk_cons, b1_none, b1_some, backO_own, at_0, at_1, at_2, at_3, at_4, pr_idx_t, pr_idx_l, pr_idx_f, pr_len_t, pr_len_l, pr_len_f, pr_int, pr_int_t, pr_int_f, pr_abs, pr_min, pr_max, dr_ok, eq_int, eq_bl, List.cons_append, List.nil_append, List.append_nil, List.append_assoc, List.length_cons, List.length_nil, List.set_cons_zero, List.set_cons_succ, List.take_succ_cons, List.take_zero, List.take_nil, List.replicate_succ, List.replicate_zero, List.map_cons, List.map_nil, List.getElem?_cons_zero, List.getElem?_cons_succ, is0_non, is0_bl, is0_int, is0_str, is0_tup, is0_lst, is1_non, is1_bl, is1_int, is1_str, is1_tup, is1_lst, is2_non, is2_bl, is2_int, is2_str, is2_tup, is2_lst, is3_non, is3_bl, is3_int, is3_str, is3_tup, is3_lst, is4_non, is4_bl, is4_int, is4_str, is4_tup, is4_lst, ev_make, kMake_ok, kMk_ok, pr_fld0, pr_fld1, pr_fld2, pr_isc, pr_drop1, yes_eq, co_nil, co_cons, kCo1_ok, kCo2_ok, kCo3_ok, kCo4_ok, ev_comp2, kC2_ok, kC2e_ok, ns_non, clr_eq', kClr_t, iv_non, iv_val, cl_nil, cl_cons, kCl_b, kCl2_ok, kCl3_some, kComp_ok2, kCm_ok, pr_int_b, it_rng3, kI3_ok, kI3_ok', cp_in, cp_nin, isn_non, isn_tup, forL_nil, forL_cons, kFl_ok, kFb_nx, kFb_ct, kFb_bk, kFb_rt, sq_t, sq_l, kWhl_ok, kWb_nx, kWb_ct, kWb_bk, kWb_rt, lineN, cond_true, cond_false, Bool.cond_decide, Bool.not_true, Bool.not_false, Bool.and_true, Bool.true_and, Bool.and_false, Bool.false_and, Nat.zero_add, beq_self_eq_true, decide_true, decide_false, if_true, if_false, Bool.true_eq_false, Bool.false_eq_true, reduceIte, Nat.reduceAdd, Nat.reduceSub, Nat.reduceMul, Nat.reduceLeDiff, Nat.reduceBEq, Nat.reduceEqDiff, Int.reduceToNat, Int.reduceNeg, Nat.reduceLT, Nat.sub_self, u_cIsNumber, w1, w2, isW, im, eq_pair, e', isN, two, Bool.false_or]
        | _ => simp only [getS_0, getS_s, ev_var, rdS_val, rdS_own, ev_cst, of_some, of_some', ev_bin, kBin_ok, kBin_ok', ev_cmp, kCmp_ok, kCmp_ok', kCmpR_some, ev_chn, kChn_ok, kChn_ok', kChn2_some, ev_and, kAnd_ok, ev_or, kOr_ok, ev_not, kNot_ok, ev_neg, kNeg_ok, ev_ite, kIteE_ok, es_nil, es_cons, kEs_ok, kEs_ok', ev_tup, ev_lst, kTup_ok, kLst_ok, ev_prim, kPrim_ok, ev_mix, kMix_ok, kMix_ok', kMix2_ok, as_nil, as_val, kAs_ok, kAs_ok', as_own, kOwn_ok, kOwn_ok', kOwn2_ok, as_tmp, kTmp_ok, ev_call, kCall_val, kCall_own, kV_ok, kV_exc, kCallR_ok, ev_callk, kCk_ok, kCk_ok', ev_comp, it_val, it_rng1, it_rng2, kI_ok, kI1_ok, kI2_ok, kI2_ok', ex_skip, ex_brk, ex_cnt, ex_seq, kSeq_nx, kSeq_rt, kSeq_bk, kSeq_ct, kSeq_exc, ex_asg, kAsg_ok, srof, put_eq, kPut_t, free_non, free_val, free_own, bind_name, bind_tup, bind_lst, all_nil, all_cons, kAll_some, ex_new, kNew_ok, ex_app, kApp_ok, kApp_ok', kApp2_ok, ex_put, kSto_ok, kSto1_ok, kSto2_ok, kSto3_0, ex_exp, kExp_ok, ex_ret, kRet_ok, ex_ite, kIte_ok, ex_for, kFor_ok, ex_whl, fin_nx, fin_rt, bn_add, bn_sub, bn_cat, bn_rep2, cp_lt, cp_le, cp_gt, cp_ge, cp_eq, cp_is, cp_nis, cp_ne, kNe_some, av_val, av_tmp, av_own, avO_own, pm_eq, pg_nil, pg_inl, pg_inr, pd_nil, pd_inl, pd_inr, gd_0, gd_s, nw_nil, nw_val, nw_tmp, nw_own, no_nil, no_val, no_tmp, no_own, lt_nil, lt_inl, lt_inr, lentK_t, lentK_f, io_own, io_val, io_tmp, io_none, bk_nil, bk_cons, b1_none, b1_some, backO_own, at_0, at_1, at_2, at_3, at_4, pr_idx_t, pr_idx_l, pr_idx_f, pr_len_t, pr_len_l, pr_len_f, pr_int, pr_int_t, pr_int_f, pr_abs, pr_min, pr_max, dr_ok, eq_int, eq_bl, List.cons_append, List.nil_append, List.append_nil, List.append_assoc, List.length_cons, List.length_nil, List.set_cons_zero, List.set_cons_succ, List.take_succ_cons, List.take_zero, List.take_nil, List.replicate_succ, List.replicate_zero, List.map_cons, List.map_nil, List.getElem?_cons_zero, List.getElem?_cons_succ, is0_non, is0_bl, is0_int, is0_str, is0_tup, is0_lst, is1_non, is1_bl, is1_int, is1_str, is1_tup, is1_lst, is2_non, is2_bl, is2_int, is2_str, is2_tup, is2_lst, is3_non, is3_bl, is3_int, is3_str, is3_tup, is3_lst, is4_non, is4_bl, is4_int, is4_str, is4_tup, is4_lst, ev_make, kMake_ok, kMk_ok, pr_fld0, pr_fld1, pr_fld2, pr_isc, pr_drop1, yes_eq, co_nil, co_cons, kCo1_ok, kCo2_ok, kCo3_ok, kCo4_ok, ev_comp2, kC2_ok, kC2e_ok, ns_non, clr_eq', kClr_t, iv_non, iv_val, cl_nil, cl_cons, kCl_b, kCl2_ok, kCl3_some, kComp_ok2, kCm_ok, pr_int_b, it_rng3, kI3_ok, kI3_ok', cp_in, cp_nin, isn_non, isn_tup, forL_nil, forL_cons, kFl_ok, kFb_nx, kFb_ct, kFb_bk, kFb_rt, sq_t, sq_l, kWhl_ok, kWb_nx, kWb_ct, kWb_bk, kWb_rt, lineN, cond_true, cond_false, Bool.cond_decide, Bool.not_true, Bool.not_false, Bool.and_true, Bool.true_and, Bool.and_false, Bool.false_and, Nat.zero_add, beq_self_eq_true, decide_true, decide_false, if_true, if_false, Bool.true_eq_false, Bool.false_eq_true, reduceIte, Nat.reduceAdd, Nat.reduceSub, Nat.reduceMul, Nat.reduceLeDiff, Nat.reduceBEq, Nat.reduceEqDiff, Int.reduceToNat, Int.reduceNeg, Nat.reduceLT, Nat.sub_self, u_cIsNumber, w1, w2, isW, isN, two]
      | _ => simp only [getS_0, getS_s, ev_var, rdS_val, rdS_own, ev_cst, of_some, of_some', ev_bin, kBin_ok, kBin_ok', ev_cmp, kCmp_ok, kCmp_ok', kCmpR_some, ev_chn, kChn_ok, kChn_ok', kChn2_some, ev_and, kAnd_ok, ev_or, kOr_ok, ev_not, kNot_ok, ev_neg, kNeg_ok, ev_ite, kIteE_ok, es_nil, es_cons, kEs_ok, kEs_ok', ev_tup, ev_lst, kTup_ok, kLst_ok, ev_prim, kPrim_ok, ev_mix, kMix_ok, kMix_ok', kMix2_ok, as_nil, as_val, kAs_ok, kAs_ok', as_own, kOwn_ok, kOwn_ok', kOwn2_ok, as_tmp, kTmp_ok, ev_call, kCall_val, kCall_own, kV_ok, kV_exc, kCallR_ok, ev_callk, kCk_ok, kCk_ok', ev_comp, it_val, it_rng1, it_rng2, kI_ok, kI1_ok, kI2_ok, kI2_ok', ex_skip, ex_brk, ex_cnt, ex_seq, kSeq_nx, kSeq_rt, kSeq_bk, kSeq_ct, kSeq_exc, ex_asg, kAsg_ok, srof, put_eq, kPut_t, free_non, free_val, free_own, bind_name, bind_tup, bind_lst, all_nil, all_cons, kAll_some, ex_new, kNew_ok, ex_app, kApp_ok, kApp_ok', kApp2_ok, ex_put, kSto_ok, kSto1_ok, kSto2_ok, kSto3_0, ex_exp, kExp_ok, ex_ret, kRet_ok, ex_ite, kIte_ok, ex_for, kFor_ok, ex_whl, fin_nx, fin_rt, bn_add, bn_sub, bn_cat, bn_rep2, cp_lt, cp_le, cp_gt, cp_ge, cp_eq, cp_is, cp_nis, cp_ne, kNe_some, av_val, av_tmp, av_own, avO_own, pm_eq, pg_nil, pg_inl, pg_inr, pd_nil, pd_inl, pd_inr, gd_0, gd_s, nw_nil, nw_val, nw_tmp, nw_own, no_nil, no_val, no_tmp, no_own, lt_nil, lt_inl, lt_inr, lentK_t, lentK_f, io_own, io_val, io_tmp, io_none, bk_nil, bk_cons, b1_none, b1_some, backO_own, at_0, at_1, at_2, at_3, at_4, pr_idx_t, pr_idx_l, pr_idx_f, pr_len_t, pr_len_l, pr_len_f, pr_int, pr_int_t, pr_int_f, pr_abs, pr_min, pr_max, dr_ok, eq_int, eq_bl, List.cons_append, List.nil_append, List.append_nil, List.append_assoc, List.length_cons, List.length_nil, List.set_cons_zero, List.set_cons_succ, List.take_succ_cons, List.take_zero, List.take_nil, List.replicate_succ, List.replicate_zero, List.map_cons, List.map_nil, List.getElem?_cons_zero, List.getElem?_cons_succ, is0_non, is0_bl, is0_int, is0_str, is0_tup, is0_lst, is1_non, is1_bl, is1_int, is1_str, is1_tup, is1_lst, is2_non, is2_bl, is2_int, is2_str, is2_tup, is2_lst, is3_non, is3_bl, is3_int, is3_str, is3_tup, is3_lst, is4_non, is4_bl, is4_int, is4_str, is4_tup, is4_lst, ev_make, kMake_ok, kMk_ok, pr_fld0, pr_fld1, pr_fld2, pr_isc, pr_drop1, yes_eq, co_nil, co_cons, kCo1_ok, kCo2_ok, kCo3_ok, kCo4_ok, ev_comp2, kC2_ok, kC2e_ok, ns_non, clr_eq', kClr_t, iv_non, iv_val, cl_nil, cl_cons, kCl_b, kCl2_ok, kCl3_some, kComp_ok2, kCm_ok, pr_int_b, it_rng3, kI3_ok, kI3_ok', cp_in, cp_nin, isn_non, isn_tup, forL_nil, forL_cons, kFl_ok, kFb_nx, kFb_ct, kFb_bk, kFb_rt, sq_t, sq_l, kWhl_ok, kWb_nx, kWb_ct, kWb_bk, kWb_rt, lineN, cond_true, cond_false, Bool.cond_decide, Bool.not_true, Bool.not_false, Bool.and_true, Bool.true_and, Bool.and_false, Bool.false_and, Nat.zero_add, beq_self_eq_true, decide_true, decide_false, if_true, if_false, Bool.true_eq_false, Bool.false_eq_true, reduceIte, Nat.reduceAdd, Nat.reduceSub, Nat.reduceMul, Nat.reduceLeDiff, Nat.reduceBEq, Nat.reduceEqDiff, Int.reduceToNat, Int.reduceNeg, Nat.reduceLT, Nat.sub_self, u_cIsNumber, w1, w2, isW, isN, two]
  | _ => simp only [getS_0, getS_s, ev_var, rdS_val, rdS_own, ev_cst, of_some, of_some', ev_bin, kBin_ok, kBin_ok', ev_cmp, kCmp_ok, kCmp_ok', kCmpR_some, ev_chn, kChn_ok, kChn_ok', kChn2_some, ev_and, kAnd_ok, ev_or, kOr_ok, ev_not, kNot_ok, ev_neg, kNeg_ok, ev_ite, kIteE_ok, es_nil, es_cons, kEs_ok, kEs_ok', ev_tup, ev_lst, kTup_ok, kLst_ok, ev_prim, kPrim_ok, ev_mix, kMix_ok, kMix_ok', kMix2_ok, as_nil, as_val, kAs_ok, kAs_ok', as_own, kOwn_ok, kOwn_ok', kOwn2_ok, as_tmp, kTmp_ok, ev_call, kCall_val, kCall_own, kV_ok, kV_exc, kCallR_ok, ev_callk, kCk_ok, kCk_ok', ev_comp, it_val, it_rng1, it_rng2, kI_ok, kI1_ok, kI2_ok, kI2_ok', ex_skip, ex_brk, ex_cnt, ex_seq, kSeq_nx, kSeq_rt, kSeq_bk, kSeq_ct, kSeq_exc, ex_asg, kAsg_ok, srof, put_eq, kPut_t, free_non, free_val, free_own, bind_name, bind_tup, bind_lst, all_nil, all_cons, kAll_some, ex_new, kNew_ok, ex_app, kApp_ok, kApp_ok', kApp2_ok, ex_put, kSto_ok, kSto1_ok, kSto2_ok, kSto3_0, ex_exp, kExp_ok, ex_ret, kRet_ok, ex_ite, kIte_ok, ex_for, kFor_ok, ex_whl, fin_nx, fin_rt, bn_add, bn_sub, bn_cat, bn_rep2, cp_lt, cp_le, cp_gt, cp_ge, cp_eq, cp_is, cp_nis, cp_ne, kNe_some, av_val, av_tmp, av_own, avO_own, pm_eq, pg_nil, pg_inl, pg_inr, pd_nil, pd_inl, pd_inr, gd_0, gd_s, nw_nil, nw_val, nw_tmp, nw_own, no_nil, no_val, no_tmp, no_own, lt_nil, lt_inl, lt_inr, lentK_t, lentK_f, io_own, io_val, io_tmp, io_none, bk_nil, bk_cons, b1_none, b1_some, backO_own, at_0, at_1, at_2, at_3, at_4, pr_idx_t, pr_idx_l, pr_idx_f, pr_len_t, pr_len_l, pr_len_f, pr_int, pr_int_t, pr_int_f, pr_abs, pr_min, pr_max, dr_ok, eq_int, eq_bl, List.cons_append, List.nil_append, List.append_nil, List.append_assoc, List.length_cons, List.length_nil, List.set_cons_zero, List.set_cons_succ, List.take_succ_cons, List.take_zero, List.take_nil, List.replicate_succ, List.replicate_zero, List.map_cons, List.map_nil, List.getElem?_cons_zero, List.getElem?_cons_succ, is0_non, is0_bl, is0_int, is0_str, is0_tup, is0_lst, is1_non, is1_bl, is1_int, is1_str, is1_tup, is1_lst, is2_non, is2_bl, is2_int, is2_str, is2_tup, is2_lst, is3_non, is3_bl, is3_int, is3_str, is3_tup, is3_lst, is4_non, is4_bl, is4_int, is4_str, is4_tup, is4_lst, ev_make, kMake_ok, kMk_ok, pr_fld0, pr_fld1, pr_fld2, pr_isc, pr_drop1, yes_eq, co_nil, co_cons, kCo1_ok, kCo2_ok, kCo3_ok, kCo4_ok, ev_comp2, kC2_ok, kC2e_ok, ns_non, clr_eq', kClr_t, iv_non, iv_val, cl_nil, cl_cons, kCl_b, kCl2_ok, kCl3_some, kComp_ok2, kCm_ok, pr_int_b, it_rng3, kI3_ok, kI3_ok', cp_in, cp_nin, isn_non, isn_tup, forL_nil, forL_cons, kFl_ok, kFb_nx, kFb_ct, kFb_bk, kFb_rt, sq_t, sq_l, kWhl_ok, kWb_nx, kWb_ct, kWb_bk, kWb_rt, lineN, cond_true, cond_false, Bool.cond_decide, Bool.not_true, Bool.not_false, Bool.and_true, Bool.true_and, Bool.and_false, Bool.false_and, Nat.zero_add, beq_self_eq_true, decide_true, decide_false, if_true, if_false, Bool.true_eq_false, Bool.false_eq_true, reduceIte, Nat.reduceAdd, Nat.reduceSub, Nat.reduceMul, Nat.reduceLeDiff, Nat.reduceBEq, Nat.reduceEqDiff, Int.reduceToNat, Int.reduceNeg, Nat.reduceLT, Nat.sub_self, u_cIsNumber, isN]
/-! ### number_of -/
def cNumberOf (g h : Nat) : St := (.seq (.ite (.or (.not (.call g [.inl 0] (.val (.var 0) .nil))) (.not (.call g [.inl 0] (.val (.var 1) .nil)))) (.seq .never .skip) .skip) (.seq (.ret (.call h [.inl 0, .inl 1] (.val (.var 0) (.val (.var 1) .nil)))) .skip))
theorem u_cNumberOf {g h : Nat} {C : Cx} {r : List S} : exS C (cNumberOf g h) r = exS C (.seq (.ite (.or (.not (.call g [.inl 0] (.val (.var 0) .nil))) (.not (.call g [.inl 0] (.val (.var 1) .nil)))) (.seq .never .skip) .skip) (.seq (.ret (.call h [.inl 0, .inl 1] (.val (.var 0) (.val (.var 1) .nil)))) .skip)) r := byRfl rfl
theorem sp_number_of {g h : Nat} (hT : T f = some ⟨2, 2, cNumberOf g h⟩) (hw : T g = some ⟨1, 1, cIsWhole⟩) (hd : T h = some ⟨2, 3, cDot⟩) (hF : 6000 ≤ F) {m e : Int} (hb : m.natAbs < 2 ^ 5000) : dropR (run T F (k + 2) f [.val (.int m), .val (.int e)]) = .ok (.tup [.int (NM m), .int (NE m e)]) [] := by
  rw [rnT hT]
  have w1 : dropR (run T F (k + 1) g [.val (.int m)]) = .ok (.bl true) [] := sp_whole hw rfl
  have w2 : dropR (run T F (k + 1) g [.val (.int e)]) = .ok (.bl true) [] := sp_whole hw rfl
  have dd : dropR (run T F (k + 1) h [.val (.int m), .val (.int e)]) = .ok (.tup [.int (NM m), .int (NE m e)]) [] := sp_dot hd hF hb
  simp only [getS_0, getS_s, ev_var, rdS_val, rdS_own, ev_cst, of_some, of_some', ev_bin, kBin_ok, kBin_ok', ev_cmp, kCmp_ok, kCmp_ok', kCmpR_some, ev_chn, kChn_ok, kChn_ok', kChn2_some, ev_and, kAnd_ok, ev_or, kOr_ok, ev_not, kNot_ok, ev_neg, kNeg_ok, ev_ite, kIteE_ok, es_nil, es_cons, kEs_ok, kEs_ok', ev_tup, ev_lst, kTup_ok, kLst_ok, ev_prim, kPrim_ok, ev_mix, kMix_ok, kMix_ok', kMix2_ok, as_nil, as_val, kAs_ok, kAs_ok', as_own, kOwn_ok, kOwn_ok', kOwn2_ok, as_tmp, kTmp_ok, ev_call, kCall_val, kCall_own, kV_ok, kV_exc, kCallR_ok, ev_callk, kCk_ok, kCk_ok', ev_comp, it_val, it_rng1, it_rng2, kI_ok, kI1_ok, kI2_ok, kI2_ok', ex_skip, ex_brk, ex_cnt, ex_seq, kSeq_nx, kSeq_rt, kSeq_bk, kSeq_ct, kSeq_exc, ex_asg, kAsg_ok, srof, put_eq, kPut_t, free_non, free_val, free_own, bind_name, bind_tup, bind_lst, all_nil, all_cons, kAll_some, ex_new, kNew_ok, ex_app, kApp_ok, kApp_ok', kApp2_ok, ex_put, kSto_ok, kSto1_ok, kSto2_ok, kSto3_0, ex_exp, kExp_ok, ex_ret, kRet_ok, ex_ite, kIte_ok, ex_for, kFor_ok, ex_whl, fin_nx, fin_rt, bn_add, bn_sub, bn_cat, bn_rep2, cp_lt, cp_le, cp_gt, cp_ge, cp_eq, cp_is, cp_nis, cp_ne, kNe_some, av_val, av_tmp, av_own, avO_own, pm_eq, pg_nil, pg_inl, pg_inr, pd_nil, pd_inl, pd_inr, gd_0, gd_s, nw_nil, nw_val, nw_tmp, nw_own, no_nil, no_val, no_tmp, no_own, lt_nil, lt_inl, lt_inr, lentK_t, lentK_f, io_own, io_val, io_tmp, io_none, bk_nil, bk_cons, b1_none, b1_some, backO_own, at_0, at_1, at_2, at_3, at_4, pr_idx_t, pr_idx_l, pr_idx_f, pr_len_t, pr_len_l, pr_len_f, pr_int, pr_int_t, pr_int_f, pr_abs, pr_min, pr_max, dr_ok, eq_int, eq_bl, List.cons_append, List.nil_append, List.append_nil, List.append_assoc, List.length_cons, List.length_nil, List.set_cons_zero, List.set_cons_succ, List.take_succ_cons, List.take_zero, List.take_nil, List.replicate_succ, List.replicate_zero, List.map_cons, List.map_nil, List.getElem?_cons_zero, List.getElem?_cons_succ, is0_non, is0_bl, is0_int, is0_str, is0_tup, is0_lst, is1_non, is1_bl, is1_int, is1_str, is1_tup, is1_lst, is2_non, is2_bl, is2_int, is2_str, is2_tup, is2_lst, is3_non, is3_bl, is3_int, is3_str, is3_tup, is3_lst, is4_non, is4_bl, is4_int, is4_str, is4_tup, is4_lst, ev_make, kMake_ok, kMk_ok, pr_fld0, pr_fld1, pr_fld2, pr_isc, pr_drop1, yes_eq, co_nil, co_cons, kCo1_ok, kCo2_ok, kCo3_ok, kCo4_ok, ev_comp2, kC2_ok, kC2e_ok, ns_non, clr_eq', kClr_t, iv_non, iv_val, cl_nil, cl_cons, kCl_b, kCl2_ok, kCl3_some, kComp_ok2, kCm_ok, pr_int_b, it_rng3, kI3_ok, kI3_ok', cp_in, cp_nin, isn_non, isn_tup, forL_nil, forL_cons, kFl_ok, kFb_nx, kFb_ct, kFb_bk, kFb_rt, sq_t, sq_l, kWhl_ok, kWb_nx, kWb_ct, kWb_bk, kWb_rt, lineN, cond_true, cond_false, Bool.cond_decide, Bool.not_true, Bool.not_false, Bool.and_true, Bool.true_and, Bool.and_false, Bool.false_and, Nat.zero_add, beq_self_eq_true, decide_true, decide_false, if_true, if_false, Bool.true_eq_false, Bool.false_eq_true, reduceIte, Nat.reduceAdd, Nat.reduceSub, Nat.reduceMul, Nat.reduceLeDiff, Nat.reduceBEq, Nat.reduceEqDiff, Int.reduceToNat, Int.reduceNeg, Nat.reduceLT, Nat.sub_self, u_cNumberOf, w1, w2, dd]
end Rf

set_option Elab.async false
set_option linter.all false
set_option maxRecDepth 100000
set_option maxHeartbeats 1000000
/-! RfLib2: sums, products, orders. -/
namespace Rf
open PySem
variable {T : Nat → Option Fd} {F : Nat} {k f : Nat}
def mn (a b : Int) : Int := if b < a then b else a
theorem mn_comm (a b : Int) : mn a b = mn b a := by unfold mn; split <;> split <;> omega
theorem mn_le1 (a b : Int) : mn a b ≤ a := by unfold mn; split <;> omega
theorem mn_le2 (a b : Int) : mn a b ≤ b := by unfold mn; split <;> omega
theorem mn_ge {a b c : Int} (h1 : c ≤ a) (h2 : c ≤ b) : c ≤ mn a b := by unfold mn; split <;> omega
theorem pr_mn {i j : Int} : prim .min2 [.int i, .int j] = some (.int (mn i j)) := rfl
def AT (m p e : Int) : Int := m * 2 ^ (p - e).toNat
theorem at_bound {m p e : Int} {b d : Nat} (hm : m.natAbs < 2 ^ b) (h1 : p - e ≤ d) : (AT m p e).natAbs < 2 ^ (b + d) := by
  unfold AT
  rw [Int.natAbs_mul, Int.natAbs_pow, Nat.pow_add]
  have p2 : (2 : Int).natAbs ^ (p - e).toNat ≤ 2 ^ d := Nat.pow_le_pow_right (by decide) (by omega)
  have p3 : 0 < 2 ^ d := Nat.two_pow_pos d
  exact Nat.lt_of_le_of_lt (Nat.mul_le_mul_left _ p2) (Nat.mul_lt_mul_of_pos_right hm p3)
def cAt : St := (.seq (.ret (.bin .shl (.prim .idx (.cons (.var 0) (.cons (.cst (.int (0))) .nil))) (.bin .sub (.prim .idx (.cons (.var 0) (.cons (.cst (.int (1))) .nil))) (.var 1)))) .skip)
theorem u_cAt {C : Cx} {r : List S} : exS C cAt r = exS C (.seq (.ret (.bin .shl (.prim .idx (.cons (.var 0) (.cons (.cst (.int (0))) .nil))) (.bin .sub (.prim .idx (.cons (.var 0) (.cons (.cst (.int (1))) .nil))) (.var 1)))) .skip) r := byRfl rfl
theorem sp_at (hT : T f = some ⟨2, 2, cAt⟩) {m p e : Int} {b : Nat} (hm : m.natAbs < 2 ^ b) (he : e ≤ p) (hs : (b : Int) + (p - e) ≤ 134217728) : dropR (run T F (k + 1) f [.val (.tup [.int m, .int p]), .val (.int e)]) = .ok (.int (AT m p e)) [] := by
  have s : bin .shl (.int m) (.int (p - e)) = some (.int (AT m p e)) := bn_shl (shl_k hm (by omega) hs)
  rw [rnT hT]
  simp only [getS_0, getS_s, ev_var, rdS_val, rdS_own, ev_cst, of_some, of_some', ev_bin, kBin_ok, kBin_ok', ev_cmp, kCmp_ok, kCmp_ok', kCmpR_some, ev_chn, kChn_ok, kChn_ok', kChn2_some, ev_and, kAnd_ok, ev_or, kOr_ok, ev_not, kNot_ok, ev_neg, kNeg_ok, ev_ite, kIteE_ok, es_nil, es_cons, kEs_ok, kEs_ok', ev_tup, ev_lst, kTup_ok, kLst_ok, ev_prim, kPrim_ok, ev_mix, kMix_ok, kMix_ok', kMix2_ok, as_nil, as_val, kAs_ok, kAs_ok', as_own, kOwn_ok, kOwn_ok', kOwn2_ok, as_tmp, kTmp_ok, ev_call, kCall_val, kCall_own, kV_ok, kV_exc, kCallR_ok, ev_callk, kCk_ok, kCk_ok', ev_comp, it_val, it_rng1, it_rng2, kI_ok, kI1_ok, kI2_ok, kI2_ok', ex_skip, ex_brk, ex_cnt, ex_seq, kSeq_nx, kSeq_rt, kSeq_bk, kSeq_ct, kSeq_exc, ex_asg, kAsg_ok, srof, put_eq, kPut_t, free_non, free_val, free_own, bind_name, bind_tup, bind_lst, all_nil, all_cons, kAll_some, ex_new, kNew_ok, ex_app, kApp_ok, kApp_ok', kApp2_ok, ex_put, kSto_ok, kSto1_ok, kSto2_ok, kSto3_0, ex_exp, kExp_ok, ex_ret, kRet_ok, ex_ite, kIte_ok, ex_for, kFor_ok, ex_whl, fin_nx, fin_rt, bn_add, bn_sub, bn_cat, bn_rep2, cp_lt, cp_le, cp_gt, cp_ge, cp_eq, cp_is, cp_nis, cp_ne, kNe_some, av_val, av_tmp, av_own, avO_own, pm_eq, pg_nil, pg_inl, pg_inr, pd_nil, pd_inl, pd_inr, gd_0, gd_s, nw_nil, nw_val, nw_tmp, nw_own, no_nil, no_val, no_tmp, no_own, lt_nil, lt_inl, lt_inr, lentK_t, lentK_f, io_own, io_val, io_tmp, io_none, bk_nil, bk_cons, b1_none, b1_some, backO_own, at_0, at_1, at_2, at_3, at_4, pr_idx_t, pr_idx_l, pr_idx_f, pr_len_t, pr_len_l, pr_len_f, pr_int, pr_int_t, pr_int_f, pr_abs, pr_min, pr_max, dr_ok, eq_int, eq_bl, List.cons_append, List.nil_append, List.append_nil, List.append_assoc, List.length_cons, List.length_nil, List.set_cons_zero, List.set_cons_succ, List.take_succ_cons, List.take_zero, List.take_nil, List.replicate_succ, List.replicate_zero, List.map_cons, List.map_nil, List.getElem?_cons_zero, List.getElem?_cons_succ, is0_non, is0_bl, is0_int, is0_str, is0_tup, is0_lst, is1_non, is1_bl, is1_int, is1_str, is1_tup, is1_lst, is2_non, is2_bl, is2_int, is2_str, is2_tup, is2_lst, is3_non, is3_bl, is3_int, is3_str, is3_tup, is3_lst, is4_non, is4_bl, is4_int, is4_str, is4_tup, is4_lst, ev_make, kMake_ok, kMk_ok, pr_fld0, pr_fld1, pr_fld2, pr_isc, pr_drop1, yes_eq, co_nil, co_cons, kCo1_ok, kCo2_ok, kCo3_ok, kCo4_ok, ev_comp2, kC2_ok, kC2e_ok, ns_non, clr_eq', kClr_t, iv_non, iv_val, cl_nil, cl_cons, kCl_b, kCl2_ok, kCl3_some, kComp_ok2, kCm_ok, pr_int_b, it_rng3, kI3_ok, kI3_ok', cp_in, cp_nin, isn_non, isn_tup, forL_nil, forL_cons, kFl_ok, kFb_nx, kFb_ct, kFb_bk, kFb_rt, sq_t, sq_l, kWhl_ok, kWb_nx, kWb_ct, kWb_bk, kWb_rt, lineN, cond_true, cond_false, Bool.cond_decide, Bool.not_true, Bool.not_false, Bool.and_true, Bool.true_and, Bool.and_false, Bool.false_and, Nat.zero_add, beq_self_eq_true, decide_true, decide_false, if_true, if_false, Bool.true_eq_false, Bool.false_eq_true, reduceIte, Nat.reduceAdd, Nat.reduceSub, Nat.reduceMul, Nat.reduceLeDiff, Nat.reduceBEq, Nat.reduceEqDiff, Int.reduceToNat, Int.reduceNeg, Nat.reduceLT, Nat.sub_self, u_cAt, s]
/-- numbers that the laws hand about -/
structure Bn (m p : Int) : Prop where
  m : m.natAbs < 2 ^ 1600
  l : -1600 ≤ p
  g : p ≤ 1600
theorem Bn.neg {m p : Int} (h : Bn m p) : Bn (0 - m) p := ⟨by have := h.m; omega, h.l, h.g⟩
theorem Bn.at {m p e : Int} (h : Bn m p) (he : -1600 ≤ e) : (AT m p e).natAbs < 2 ^ 4800 := at_bound (b := 1600) (d := 3200) h.m (by have := h.g; omega)
def SM (m p n q : Int) : Int := AT m p (mn p q) + AT n q (mn p q)
theorem Bn.sum {m p n q : Int} (h1 : Bn m p) (h2 : Bn n q) : (SM m p n q).natAbs < 2 ^ 4801 := by
  have a := h1.at (mn_ge h1.l h2.l)
  have b := h2.at (mn_ge h1.l h2.l)
  unfold SM
  generalize AT m p (mn p q) = x at *
  generalize AT n q (mn p q) = y at *
  have e : 2 ^ 4801 = 2 ^ 4800 * 2 := Nat.pow_succ (n := 2) (m := 4800)
  rw [e]
  generalize 2 ^ 4800 = Z at *
  omega
theorem lt_big {x : Int} {b c : Nat} (h : x.natAbs < 2 ^ b) (hb : b ≤ c) : x.natAbs < 2 ^ c := Nat.lt_of_lt_of_le h (Nat.pow_le_pow_right (by decide) hb)
/-! ### added, minus, product, compared -/
def cAdded (fat fd : Nat) : St := (.seq (.asg (.name 2) (.prim .min2 (.cons (.prim .idx (.cons (.var 0) (.cons (.cst (.int (1))) .nil))) (.cons (.prim .idx (.cons (.var 1) (.cons (.cst (.int (1))) .nil))) .nil)))) (.seq (.ret (.call fd [.inl 0, .inl 1] (.val (.bin .add (.call fat [.inl 0, .inl 1] (.val (.var 0) (.val (.var 2) .nil))) (.call fat [.inl 0, .inl 1] (.val (.var 1) (.val (.var 2) .nil)))) (.val (.var 2) .nil)))) .skip))
theorem u_cAdded {fat fd : Nat} {C : Cx} {r : List S} : exS C (cAdded fat fd) r = exS C (.seq (.asg (.name 2) (.prim .min2 (.cons (.prim .idx (.cons (.var 0) (.cons (.cst (.int (1))) .nil))) (.cons (.prim .idx (.cons (.var 1) (.cons (.cst (.int (1))) .nil))) .nil)))) (.seq (.ret (.call fd [.inl 0, .inl 1] (.val (.bin .add (.call fat [.inl 0, .inl 1] (.val (.var 0) (.val (.var 2) .nil))) (.call fat [.inl 0, .inl 1] (.val (.var 1) (.val (.var 2) .nil)))) (.val (.var 2) .nil)))) .skip)) r := byRfl rfl
theorem sp_added {fat fd : Nat} (hT : T f = some ⟨2, 3, cAdded fat fd⟩) (ha : T fat = some ⟨2, 2, cAt⟩) (hd : T fd = some ⟨2, 3, cDot⟩) (hF : 6000 ≤ F) {m p n q : Int} (h1 : Bn m p) (h2 : Bn n q) :
    dropR (run T F (k + 2) f [.val (.tup [.int m, .int p]), .val (.tup [.int n, .int q])]) = .ok (.tup [.int (NM (SM m p n q)), .int (NE (SM m p n q) (mn p q))]) [] := by
  have a : dropR (run T F (k + 1) fat [.val (.tup [.int m, .int p]), .val (.int (mn p q))]) = _ := sp_at ha h1.m (mn_le1 _ _) (by have := mn_ge h1.l h2.l; have := h1.g; omega)
  have b : dropR (run T F (k + 1) fat [.val (.tup [.int n, .int q]), .val (.int (mn p q))]) = _ := sp_at ha h2.m (mn_le2 _ _) (by have := mn_ge h1.l h2.l; have := h2.g; omega)
  have c : dropR (run T F (k + 1) fd [.val (.int (AT m p (mn p q) + AT n q (mn p q))), .val (.int (mn p q))]) = .ok (.tup [.int (NM (SM m p n q)), .int (NE (SM m p n q) (mn p q))]) [] := sp_dot hd hF (lt_big (h1.sum h2) (by decide))
  rw [rnT hT]
  simp only [getS_0, getS_s, ev_var, rdS_val, rdS_own, ev_cst, of_some, of_some', ev_bin, kBin_ok, kBin_ok', ev_cmp, kCmp_ok, kCmp_ok', kCmpR_some, ev_chn, kChn_ok, kChn_ok', kChn2_some, ev_and, kAnd_ok, ev_or, kOr_ok, ev_not, kNot_ok, ev_neg, kNeg_ok, ev_ite, kIteE_ok, es_nil, es_cons, kEs_ok, kEs_ok', ev_tup, ev_lst, kTup_ok, kLst_ok, ev_prim, kPrim_ok, ev_mix, kMix_ok, kMix_ok', kMix2_ok, as_nil, as_val, kAs_ok, kAs_ok', as_own, kOwn_ok, kOwn_ok', kOwn2_ok, as_tmp, kTmp_ok, ev_call, kCall_val, kCall_own, kV_ok, kV_exc, kCallR_ok, ev_callk, kCk_ok, kCk_ok', ev_comp, it_val, it_rng1, it_rng2, kI_ok, kI1_ok, kI2_ok, kI2_ok', ex_skip, ex_brk, ex_cnt, ex_seq, kSeq_nx, kSeq_rt, kSeq_bk, kSeq_ct, kSeq_exc, ex_asg, kAsg_ok, srof, put_eq, kPut_t, free_non, free_val, free_own, bind_name, bind_tup, bind_lst, all_nil, all_cons, kAll_some, ex_new, kNew_ok, ex_app, kApp_ok, kApp_ok', kApp2_ok, ex_put, kSto_ok, kSto1_ok, kSto2_ok, kSto3_0, ex_exp, kExp_ok, ex_ret, kRet_ok, ex_ite, kIte_ok, ex_for, kFor_ok, ex_whl, fin_nx, fin_rt, bn_add, bn_sub, bn_cat, bn_rep2, cp_lt, cp_le, cp_gt, cp_ge, cp_eq, cp_is, cp_nis, cp_ne, kNe_some, av_val, av_tmp, av_own, avO_own, pm_eq, pg_nil, pg_inl, pg_inr, pd_nil, pd_inl, pd_inr, gd_0, gd_s, nw_nil, nw_val, nw_tmp, nw_own, no_nil, no_val, no_tmp, no_own, lt_nil, lt_inl, lt_inr, lentK_t, lentK_f, io_own, io_val, io_tmp, io_none, bk_nil, bk_cons, b1_none, b1_some, backO_own, at_0, at_1, at_2, at_3, at_4, pr_idx_t, pr_idx_l, pr_idx_f, pr_len_t, pr_len_l, pr_len_f, pr_int, pr_int_t, pr_int_f, pr_abs, pr_max, dr_ok, eq_int, eq_bl, List.cons_append, List.nil_append, List.append_nil, List.append_assoc, List.length_cons, List.length_nil, List.set_cons_zero, List.set_cons_succ, List.take_succ_cons, List.take_zero, List.take_nil, List.replicate_succ, List.replicate_zero, List.map_cons, List.map_nil, List.getElem?_cons_zero, List.getElem?_cons_succ, is0_non, is0_bl, is0_int, is0_str, is0_tup, is0_lst, is1_non, is1_bl, is1_int, is1_str, is1_tup, is1_lst, is2_non, is2_bl, is2_int, is2_str, is2_tup, is2_lst, is3_non, is3_bl, is3_int, is3_str, is3_tup, is3_lst, is4_non, is4_bl, is4_int, is4_str, is4_tup, is4_lst, ev_make, kMake_ok, kMk_ok, pr_fld0, pr_fld1, pr_fld2, pr_isc, pr_drop1, yes_eq, co_nil, co_cons, kCo1_ok, kCo2_ok, kCo3_ok, kCo4_ok, ev_comp2, kC2_ok, kC2e_ok, ns_non, clr_eq', kClr_t, iv_non, iv_val, cl_nil, cl_cons, kCl_b, kCl2_ok, kCl3_some, kComp_ok2, kCm_ok, pr_int_b, it_rng3, kI3_ok, kI3_ok', cp_in, cp_nin, isn_non, isn_tup, forL_nil, forL_cons, kFl_ok, kFb_nx, kFb_ct, kFb_bk, kFb_rt, sq_t, sq_l, kWhl_ok, kWb_nx, kWb_ct, kWb_bk, kWb_rt, lineN, cond_true, cond_false, Bool.not_true, Bool.not_false, Bool.and_true, Bool.true_and, Bool.and_false, Bool.false_and, Nat.zero_add, beq_self_eq_true, decide_true, decide_false, if_true, if_false, Bool.true_eq_false, Bool.false_eq_true, reduceIte, Nat.reduceAdd, Nat.reduceSub, Nat.reduceMul, Nat.reduceLeDiff, Nat.reduceBEq, Nat.reduceEqDiff, Int.reduceToNat, Int.reduceNeg, Nat.reduceLT, Nat.sub_self, u_cAdded, pr_mn, a, b, c]
def cMinus : St := (.seq (.ret (.tup (.cons (.bin .sub (.cst (.int (0))) (.prim .idx (.cons (.var 0) (.cons (.cst (.int (0))) .nil)))) (.cons (.prim .idx (.cons (.var 0) (.cons (.cst (.int (1))) .nil))) .nil)))) .skip)
theorem u_cMinus {C : Cx} {r : List S} : exS C cMinus r = exS C (.seq (.ret (.tup (.cons (.bin .sub (.cst (.int (0))) (.prim .idx (.cons (.var 0) (.cons (.cst (.int (0))) .nil)))) (.cons (.prim .idx (.cons (.var 0) (.cons (.cst (.int (1))) .nil))) .nil)))) .skip) r := byRfl rfl
theorem sp_minus (hT : T f = some ⟨1, 1, cMinus⟩) {m p : Int} : dropR (run T F (k + 1) f [.val (.tup [.int m, .int p])]) = .ok (.tup [.int (0 - m), .int p]) [] := by
  rw [rnT hT]
  simp only [getS_0, getS_s, ev_var, rdS_val, rdS_own, ev_cst, of_some, of_some', ev_bin, kBin_ok, kBin_ok', ev_cmp, kCmp_ok, kCmp_ok', kCmpR_some, ev_chn, kChn_ok, kChn_ok', kChn2_some, ev_and, kAnd_ok, ev_or, kOr_ok, ev_not, kNot_ok, ev_neg, kNeg_ok, ev_ite, kIteE_ok, es_nil, es_cons, kEs_ok, kEs_ok', ev_tup, ev_lst, kTup_ok, kLst_ok, ev_prim, kPrim_ok, ev_mix, kMix_ok, kMix_ok', kMix2_ok, as_nil, as_val, kAs_ok, kAs_ok', as_own, kOwn_ok, kOwn_ok', kOwn2_ok, as_tmp, kTmp_ok, ev_call, kCall_val, kCall_own, kV_ok, kV_exc, kCallR_ok, ev_callk, kCk_ok, kCk_ok', ev_comp, it_val, it_rng1, it_rng2, kI_ok, kI1_ok, kI2_ok, kI2_ok', ex_skip, ex_brk, ex_cnt, ex_seq, kSeq_nx, kSeq_rt, kSeq_bk, kSeq_ct, kSeq_exc, ex_asg, kAsg_ok, srof, put_eq, kPut_t, free_non, free_val, free_own, bind_name, bind_tup, bind_lst, all_nil, all_cons, kAll_some, ex_new, kNew_ok, ex_app, kApp_ok, kApp_ok', kApp2_ok, ex_put, kSto_ok, kSto1_ok, kSto2_ok, kSto3_0, ex_exp, kExp_ok, ex_ret, kRet_ok, ex_ite, kIte_ok, ex_for, kFor_ok, ex_whl, fin_nx, fin_rt, bn_add, bn_sub, bn_cat, bn_rep2, cp_lt, cp_le, cp_gt, cp_ge, cp_eq, cp_is, cp_nis, cp_ne, kNe_some, av_val, av_tmp, av_own, avO_own, pm_eq, pg_nil, pg_inl, pg_inr, pd_nil, pd_inl, pd_inr, gd_0, gd_s, nw_nil, nw_val, nw_tmp, nw_own, no_nil, no_val, no_tmp, no_own, lt_nil, lt_inl, lt_inr, lentK_t, lentK_f, io_own, io_val, io_tmp, io_none, bk_nil, bk_cons, b1_none, b1_some, backO_own, at_0, at_1, at_2, at_3, at_4, pr_idx_t, pr_idx_l, pr_idx_f, pr_len_t, pr_len_l, pr_len_f, pr_int, pr_int_t, pr_int_f, pr_abs, pr_min, pr_max, dr_ok, eq_int, eq_bl, List.cons_append, List.nil_append, List.append_nil, List.append_assoc, List.length_cons, List.length_nil, List.set_cons_zero, List.set_cons_succ, List.take_succ_cons, List.take_zero, List.take_nil, List.replicate_succ, List.replicate_zero, List.map_cons, List.map_nil, List.getElem?_cons_zero, List.getElem?_cons_succ, is0_non, is0_bl, is0_int, is0_str, is0_tup, is0_lst, is1_non, is1_bl, is1_int, is1_str, is1_tup, is1_lst, is2_non, is2_bl, is2_int, is2_str, is2_tup, is2_lst, is3_non, is3_bl, is3_int, is3_str, is3_tup, is3_lst, is4_non, is4_bl, is4_int, is4_str, is4_tup, is4_lst, ev_make, kMake_ok, kMk_ok, pr_fld0, pr_fld1, pr_fld2, pr_isc, pr_drop1, yes_eq, co_nil, co_cons, kCo1_ok, kCo2_ok, kCo3_ok, kCo4_ok, ev_comp2, kC2_ok, kC2e_ok, ns_non, clr_eq', kClr_t, iv_non, iv_val, cl_nil, cl_cons, kCl_b, kCl2_ok, kCl3_some, kComp_ok2, kCm_ok, pr_int_b, it_rng3, kI3_ok, kI3_ok', cp_in, cp_nin, isn_non, isn_tup, forL_nil, forL_cons, kFl_ok, kFb_nx, kFb_ct, kFb_bk, kFb_rt, sq_t, sq_l, kWhl_ok, kWb_nx, kWb_ct, kWb_bk, kWb_rt, lineN, cond_true, cond_false, Bool.cond_decide, Bool.not_true, Bool.not_false, Bool.and_true, Bool.true_and, Bool.and_false, Bool.false_and, Nat.zero_add, beq_self_eq_true, decide_true, decide_false, if_true, if_false, Bool.true_eq_false, Bool.false_eq_true, reduceIte, Nat.reduceAdd, Nat.reduceSub, Nat.reduceMul, Nat.reduceLeDiff, Nat.reduceBEq, Nat.reduceEqDiff, Int.reduceToNat, Int.reduceNeg, Nat.reduceLT, Nat.sub_self, u_cMinus]
def cProduct (fd : Nat) : St := (.seq (.ret (.call fd [.inl 0, .inl 1] (.val (.bin .mul (.prim .idx (.cons (.var 0) (.cons (.cst (.int (0))) .nil))) (.prim .idx (.cons (.var 1) (.cons (.cst (.int (0))) .nil)))) (.val (.bin .add (.prim .idx (.cons (.var 0) (.cons (.cst (.int (1))) .nil))) (.prim .idx (.cons (.var 1) (.cons (.cst (.int (1))) .nil)))) .nil)))) .skip)
theorem u_cProduct {fd : Nat} {C : Cx} {r : List S} : exS C (cProduct fd) r = exS C (.seq (.ret (.call fd [.inl 0, .inl 1] (.val (.bin .mul (.prim .idx (.cons (.var 0) (.cons (.cst (.int (0))) .nil))) (.prim .idx (.cons (.var 1) (.cons (.cst (.int (0))) .nil)))) (.val (.bin .add (.prim .idx (.cons (.var 0) (.cons (.cst (.int (1))) .nil))) (.prim .idx (.cons (.var 1) (.cons (.cst (.int (1))) .nil)))) .nil)))) .skip) r := byRfl rfl
theorem mul_lt {m n : Int} {a b : Nat} (h1 : m.natAbs < 2 ^ a) (h2 : n.natAbs < 2 ^ b) : (m * n).natAbs < 2 ^ (a + b) := by
  rw [Int.natAbs_mul, Nat.pow_add]
  exact Nat.mul_lt_mul'' h1 h2
theorem sp_product {fd : Nat} (hT : T f = some ⟨2, 2, cProduct fd⟩) (hd : T fd = some ⟨2, 3, cDot⟩) (hF : 6000 ≤ F) {m p n q : Int} {a b : Nat} (h1 : m.natAbs < 2 ^ a) (h2 : n.natAbs < 2 ^ b) (hab : a + b ≤ 5000) :
    dropR (run T F (k + 2) f [.val (.tup [.int m, .int p]), .val (.tup [.int n, .int q])]) = .ok (.tup [.int (NM (m * n)), .int (NE (m * n) (p + q))]) [] := by
  have w : mulOk m n = true := mul_ok h1 h2 (by omega)
  have c : dropR (run T F (k + 1) fd [.val (.int (m * n)), .val (.int (p + q))]) = _ := sp_dot hd hF (lt_big (mul_lt h1 h2) hab)
  rw [rnT hT]
  simp only [getS_0, getS_s, ev_var, rdS_val, rdS_own, ev_cst, of_some, of_some', ev_bin, kBin_ok, kBin_ok', ev_cmp, kCmp_ok, kCmp_ok', kCmpR_some, ev_chn, kChn_ok, kChn_ok', kChn2_some, ev_and, kAnd_ok, ev_or, kOr_ok, ev_not, kNot_ok, ev_neg, kNeg_ok, ev_ite, kIteE_ok, es_nil, es_cons, kEs_ok, kEs_ok', ev_tup, ev_lst, kTup_ok, kLst_ok, ev_prim, kPrim_ok, ev_mix, kMix_ok, kMix_ok', kMix2_ok, as_nil, as_val, kAs_ok, kAs_ok', as_own, kOwn_ok, kOwn_ok', kOwn2_ok, as_tmp, kTmp_ok, ev_call, kCall_val, kCall_own, kV_ok, kV_exc, kCallR_ok, ev_callk, kCk_ok, kCk_ok', ev_comp, it_val, it_rng1, it_rng2, kI_ok, kI1_ok, kI2_ok, kI2_ok', ex_skip, ex_brk, ex_cnt, ex_seq, kSeq_nx, kSeq_rt, kSeq_bk, kSeq_ct, kSeq_exc, ex_asg, kAsg_ok, srof, put_eq, kPut_t, free_non, free_val, free_own, bind_name, bind_tup, bind_lst, all_nil, all_cons, kAll_some, ex_new, kNew_ok, ex_app, kApp_ok, kApp_ok', kApp2_ok, ex_put, kSto_ok, kSto1_ok, kSto2_ok, kSto3_0, ex_exp, kExp_ok, ex_ret, kRet_ok, ex_ite, kIte_ok, ex_for, kFor_ok, ex_whl, fin_nx, fin_rt, bn_add, bn_sub, bn_cat, bn_rep2, cp_lt, cp_le, cp_gt, cp_ge, cp_eq, cp_is, cp_nis, cp_ne, kNe_some, av_val, av_tmp, av_own, avO_own, pm_eq, pg_nil, pg_inl, pg_inr, pd_nil, pd_inl, pd_inr, gd_0, gd_s, nw_nil, nw_val, nw_tmp, nw_own, no_nil, no_val, no_tmp, no_own, lt_nil, lt_inl, lt_inr, lentK_t, lentK_f, io_own, io_val, io_tmp, io_none, bk_nil, bk_cons, b1_none, b1_some, backO_own, at_0, at_1, at_2, at_3, at_4, pr_idx_t, pr_idx_l, pr_idx_f, pr_len_t, pr_len_l, pr_len_f, pr_int, pr_int_t, pr_int_f, pr_abs, pr_min, pr_max, dr_ok, eq_int, eq_bl, List.cons_append, List.nil_append, List.append_nil, List.append_assoc, List.length_cons, List.length_nil, List.set_cons_zero, List.set_cons_succ, List.take_succ_cons, List.take_zero, List.take_nil, List.replicate_succ, List.replicate_zero, List.map_cons, List.map_nil, List.getElem?_cons_zero, List.getElem?_cons_succ, is0_non, is0_bl, is0_int, is0_str, is0_tup, is0_lst, is1_non, is1_bl, is1_int, is1_str, is1_tup, is1_lst, is2_non, is2_bl, is2_int, is2_str, is2_tup, is2_lst, is3_non, is3_bl, is3_int, is3_str, is3_tup, is3_lst, is4_non, is4_bl, is4_int, is4_str, is4_tup, is4_lst, ev_make, kMake_ok, kMk_ok, pr_fld0, pr_fld1, pr_fld2, pr_isc, pr_drop1, yes_eq, co_nil, co_cons, kCo1_ok, kCo2_ok, kCo3_ok, kCo4_ok, ev_comp2, kC2_ok, kC2e_ok, ns_non, clr_eq', kClr_t, iv_non, iv_val, cl_nil, cl_cons, kCl_b, kCl2_ok, kCl3_some, kComp_ok2, kCm_ok, pr_int_b, it_rng3, kI3_ok, kI3_ok', cp_in, cp_nin, isn_non, isn_tup, forL_nil, forL_cons, kFl_ok, kFb_nx, kFb_ct, kFb_bk, kFb_rt, sq_t, sq_l, kWhl_ok, kWb_nx, kWb_ct, kWb_bk, kWb_rt, lineN, cond_true, cond_false, Bool.cond_decide, Bool.not_true, Bool.not_false, Bool.and_true, Bool.true_and, Bool.and_false, Bool.false_and, Nat.zero_add, beq_self_eq_true, decide_true, decide_false, if_true, if_false, Bool.true_eq_false, Bool.false_eq_true, reduceIte, Nat.reduceAdd, Nat.reduceSub, Nat.reduceMul, Nat.reduceLeDiff, Nat.reduceBEq, Nat.reduceEqDiff, Int.reduceToNat, Int.reduceNeg, Nat.reduceLT, Nat.sub_self, u_cProduct, bn_mul, w, c]
def CM (a b : Int) : Int := (bif decide (b < a) then 1 else 0) - (bif decide (a < b) then 1 else 0)
theorem cm_neg (a b : Int) : CM b a = 0 - CM a b := by
  unfold CM
  cases decide (a < b) <;> cases decide (b < a) <;> rfl
def cCompared (fat : Nat) : St := (.seq (.asg (.name 2) (.prim .min2 (.cons (.prim .idx (.cons (.var 0) (.cons (.cst (.int (1))) .nil))) (.cons (.prim .idx (.cons (.var 1) (.cons (.cst (.int (1))) .nil))) .nil)))) (.seq (.asg (.tup [3, 4]) (.tup (.cons (.call fat [.inl 0, .inl 1] (.val (.var 0) (.val (.var 2) .nil))) (.cons (.call fat [.inl 0, .inl 1] (.val (.var 1) (.val (.var 2) .nil))) .nil)))) (.seq (.ret (.bin .sub (.prim .int (.cons (.cmp .gt (.var 3) (.var 4)) .nil)) (.prim .int (.cons (.cmp .lt (.var 3) (.var 4)) .nil)))) .skip)))
theorem u_cCompared {fat : Nat} {C : Cx} {r : List S} : exS C (cCompared fat) r = exS C (.seq (.asg (.name 2) (.prim .min2 (.cons (.prim .idx (.cons (.var 0) (.cons (.cst (.int (1))) .nil))) (.cons (.prim .idx (.cons (.var 1) (.cons (.cst (.int (1))) .nil))) .nil)))) (.seq (.asg (.tup [3, 4]) (.tup (.cons (.call fat [.inl 0, .inl 1] (.val (.var 0) (.val (.var 2) .nil))) (.cons (.call fat [.inl 0, .inl 1] (.val (.var 1) (.val (.var 2) .nil))) .nil)))) (.seq (.ret (.bin .sub (.prim .int (.cons (.cmp .gt (.var 3) (.var 4)) .nil)) (.prim .int (.cons (.cmp .lt (.var 3) (.var 4)) .nil)))) .skip))) r := byRfl rfl
def cLCompared (fat : Nat) : St := (.seq (.asg (.name 2) (.prim .min2 (.cons (.prim .idx (.cons (.var 0) (.cons (.cst (.int (1))) .nil))) (.cons (.prim .idx (.cons (.var 1) (.cons (.cst (.int (1))) .nil))) .nil)))) (.seq (.asg (.name 3) (.call fat [.inl 0, .inl 1] (.val (.var 0) (.val (.var 2) .nil)))) (.seq (.asg (.name 4) (.call fat [.inl 0, .inl 1] (.val (.var 1) (.val (.var 2) .nil)))) (.seq (.ret (.bin .sub (.prim .int (.cons (.cmp .gt (.var 3) (.var 4)) .nil)) (.prim .int (.cons (.cmp .lt (.var 3) (.var 4)) .nil)))) .skip))))
theorem u_cLCompared {fat : Nat} {C : Cx} {r : List S} : exS C (cLCompared fat) r = exS C (.seq (.asg (.name 2) (.prim .min2 (.cons (.prim .idx (.cons (.var 0) (.cons (.cst (.int (1))) .nil))) (.cons (.prim .idx (.cons (.var 1) (.cons (.cst (.int (1))) .nil))) .nil)))) (.seq (.asg (.name 3) (.call fat [.inl 0, .inl 1] (.val (.var 0) (.val (.var 2) .nil)))) (.seq (.asg (.name 4) (.call fat [.inl 0, .inl 1] (.val (.var 1) (.val (.var 2) .nil)))) (.seq (.ret (.bin .sub (.prim .int (.cons (.cmp .gt (.var 3) (.var 4)) .nil)) (.prim .int (.cons (.cmp .lt (.var 3) (.var 4)) .nil)))) .skip)))) r := byRfl rfl
theorem sp_compared {fat : Nat} (hT : T f = some ⟨2, 5, cCompared fat⟩ ∨ T f = some ⟨2, 5, cLCompared fat⟩) (ha : T fat = some ⟨2, 2, cAt⟩) {m p n q : Int} (h1 : Bn m p) (h2 : Bn n q) :
    dropR (run T F (k + 2) f [.val (.tup [.int m, .int p]), .val (.tup [.int n, .int q])]) = .ok (.int (CM (AT m p (mn p q)) (AT n q (mn p q)))) [] := by
  have a : dropR (run T F (k + 1) fat [.val (.tup [.int m, .int p]), .val (.int (mn p q))]) = _ := sp_at ha h1.m (mn_le1 _ _) (by have := mn_ge h1.l h2.l; have := h1.g; omega)
  have b : dropR (run T F (k + 1) fat [.val (.tup [.int n, .int q]), .val (.int (mn p q))]) = _ := sp_at ha h2.m (mn_le2 _ _) (by have := mn_ge h1.l h2.l; have := h2.g; omega)
  generalize AT m p (mn p q) = A at *
  generalize AT n q (mn p q) = B at *
  rcases hT with hT | hT
  · rw [rnT hT]
    simp only [getS_0, getS_s, ev_var, rdS_val, rdS_own, ev_cst, of_some, of_some', ev_bin, kBin_ok, kBin_ok', ev_cmp, kCmp_ok, kCmp_ok', kCmpR_some, ev_chn, kChn_ok, kChn_ok', kChn2_some, ev_and, kAnd_ok, ev_or, kOr_ok, ev_not, kNot_ok, ev_neg, kNeg_ok, ev_ite, kIteE_ok, es_nil, es_cons, kEs_ok, kEs_ok', ev_tup, ev_lst, kTup_ok, kLst_ok, ev_prim, kPrim_ok, ev_mix, kMix_ok, kMix_ok', kMix2_ok, as_nil, as_val, kAs_ok, kAs_ok', as_own, kOwn_ok, kOwn_ok', kOwn2_ok, as_tmp, kTmp_ok, ev_call, kCall_val, kCall_own, kV_ok, kV_exc, kCallR_ok, ev_callk, kCk_ok, kCk_ok', ev_comp, it_val, it_rng1, it_rng2, kI_ok, kI1_ok, kI2_ok, kI2_ok', ex_skip, ex_brk, ex_cnt, ex_seq, kSeq_nx, kSeq_rt, kSeq_bk, kSeq_ct, kSeq_exc, ex_asg, kAsg_ok, srof, put_eq, kPut_t, free_non, free_val, free_own, bind_name, bind_tup, bind_lst, all_nil, all_cons, kAll_some, ex_new, kNew_ok, ex_app, kApp_ok, kApp_ok', kApp2_ok, ex_put, kSto_ok, kSto1_ok, kSto2_ok, kSto3_0, ex_exp, kExp_ok, ex_ret, kRet_ok, ex_ite, kIte_ok, ex_for, kFor_ok, ex_whl, fin_nx, fin_rt, bn_add, bn_sub, bn_cat, bn_rep2, cp_lt, cp_le, cp_gt, cp_ge, cp_eq, cp_is, cp_nis, cp_ne, kNe_some, av_val, av_tmp, av_own, avO_own, pm_eq, pg_nil, pg_inl, pg_inr, pd_nil, pd_inl, pd_inr, gd_0, gd_s, nw_nil, nw_val, nw_tmp, nw_own, no_nil, no_val, no_tmp, no_own, lt_nil, lt_inl, lt_inr, lentK_t, lentK_f, io_own, io_val, io_tmp, io_none, bk_nil, bk_cons, b1_none, b1_some, backO_own, at_0, at_1, at_2, at_3, at_4, pr_idx_t, pr_idx_l, pr_idx_f, pr_len_t, pr_len_l, pr_len_f, pr_int, pr_int_t, pr_int_f, pr_abs, pr_max, dr_ok, eq_int, eq_bl, List.cons_append, List.nil_append, List.append_nil, List.append_assoc, List.length_cons, List.length_nil, List.set_cons_zero, List.set_cons_succ, List.take_succ_cons, List.take_zero, List.take_nil, List.replicate_succ, List.replicate_zero, List.map_cons, List.map_nil, List.getElem?_cons_zero, List.getElem?_cons_succ, is0_non, is0_bl, is0_int, is0_str, is0_tup, is0_lst, is1_non, is1_bl, is1_int, is1_str, is1_tup, is1_lst, is2_non, is2_bl, is2_int, is2_str, is2_tup, is2_lst, is3_non, is3_bl, is3_int, is3_str, is3_tup, is3_lst, is4_non, is4_bl, is4_int, is4_str, is4_tup, is4_lst, ev_make, kMake_ok, kMk_ok, pr_fld0, pr_fld1, pr_fld2, pr_isc, pr_drop1, yes_eq, co_nil, co_cons, kCo1_ok, kCo2_ok, kCo3_ok, kCo4_ok, ev_comp2, kC2_ok, kC2e_ok, ns_non, clr_eq', kClr_t, iv_non, iv_val, cl_nil, cl_cons, kCl_b, kCl2_ok, kCl3_some, kComp_ok2, kCm_ok, pr_int_b, it_rng3, kI3_ok, kI3_ok', cp_in, cp_nin, isn_non, isn_tup, forL_nil, forL_cons, kFl_ok, kFb_nx, kFb_ct, kFb_bk, kFb_rt, sq_t, sq_l, kWhl_ok, kWb_nx, kWb_ct, kWb_bk, kWb_rt, lineN, cond_true, cond_false, Bool.not_true, Bool.not_false, Bool.and_true, Bool.true_and, Bool.and_false, Bool.false_and, Nat.zero_add, beq_self_eq_true, decide_true, decide_false, if_true, if_false, Bool.true_eq_false, Bool.false_eq_true, reduceIte, Nat.reduceAdd, Nat.reduceSub, Nat.reduceMul, Nat.reduceLeDiff, Nat.reduceBEq, Nat.reduceEqDiff, Int.reduceToNat, Int.reduceNeg, Nat.reduceLT, Nat.sub_self, u_cCompared, pr_mn, a, b, CM]
  · rw [rnT hT]
    simp only [getS_0, getS_s, ev_var, rdS_val, rdS_own, ev_cst, of_some, of_some', ev_bin, kBin_ok, kBin_ok', ev_cmp, kCmp_ok, kCmp_ok', kCmpR_some, ev_chn, kChn_ok, kChn_ok', kChn2_some, ev_and, kAnd_ok, ev_or, kOr_ok, ev_not, kNot_ok, ev_neg, kNeg_ok, ev_ite, kIteE_ok, es_nil, es_cons, kEs_ok, kEs_ok', ev_tup, ev_lst, kTup_ok, kLst_ok, ev_prim, kPrim_ok, ev_mix, kMix_ok, kMix_ok', kMix2_ok, as_nil, as_val, kAs_ok, kAs_ok', as_own, kOwn_ok, kOwn_ok', kOwn2_ok, as_tmp, kTmp_ok, ev_call, kCall_val, kCall_own, kV_ok, kV_exc, kCallR_ok, ev_callk, kCk_ok, kCk_ok', ev_comp, it_val, it_rng1, it_rng2, kI_ok, kI1_ok, kI2_ok, kI2_ok', ex_skip, ex_brk, ex_cnt, ex_seq, kSeq_nx, kSeq_rt, kSeq_bk, kSeq_ct, kSeq_exc, ex_asg, kAsg_ok, srof, put_eq, kPut_t, free_non, free_val, free_own, bind_name, bind_tup, bind_lst, all_nil, all_cons, kAll_some, ex_new, kNew_ok, ex_app, kApp_ok, kApp_ok', kApp2_ok, ex_put, kSto_ok, kSto1_ok, kSto2_ok, kSto3_0, ex_exp, kExp_ok, ex_ret, kRet_ok, ex_ite, kIte_ok, ex_for, kFor_ok, ex_whl, fin_nx, fin_rt, bn_add, bn_sub, bn_cat, bn_rep2, cp_lt, cp_le, cp_gt, cp_ge, cp_eq, cp_is, cp_nis, cp_ne, kNe_some, av_val, av_tmp, av_own, avO_own, pm_eq, pg_nil, pg_inl, pg_inr, pd_nil, pd_inl, pd_inr, gd_0, gd_s, nw_nil, nw_val, nw_tmp, nw_own, no_nil, no_val, no_tmp, no_own, lt_nil, lt_inl, lt_inr, lentK_t, lentK_f, io_own, io_val, io_tmp, io_none, bk_nil, bk_cons, b1_none, b1_some, backO_own, at_0, at_1, at_2, at_3, at_4, pr_idx_t, pr_idx_l, pr_idx_f, pr_len_t, pr_len_l, pr_len_f, pr_int, pr_int_t, pr_int_f, pr_abs, pr_max, dr_ok, eq_int, eq_bl, List.cons_append, List.nil_append, List.append_nil, List.append_assoc, List.length_cons, List.length_nil, List.set_cons_zero, List.set_cons_succ, List.take_succ_cons, List.take_zero, List.take_nil, List.replicate_succ, List.replicate_zero, List.map_cons, List.map_nil, List.getElem?_cons_zero, List.getElem?_cons_succ, is0_non, is0_bl, is0_int, is0_str, is0_tup, is0_lst, is1_non, is1_bl, is1_int, is1_str, is1_tup, is1_lst, is2_non, is2_bl, is2_int, is2_str, is2_tup, is2_lst, is3_non, is3_bl, is3_int, is3_str, is3_tup, is3_lst, is4_non, is4_bl, is4_int, is4_str, is4_tup, is4_lst, ev_make, kMake_ok, kMk_ok, pr_fld0, pr_fld1, pr_fld2, pr_isc, pr_drop1, yes_eq, co_nil, co_cons, kCo1_ok, kCo2_ok, kCo3_ok, kCo4_ok, ev_comp2, kC2_ok, kC2e_ok, ns_non, clr_eq', kClr_t, iv_non, iv_val, cl_nil, cl_cons, kCl_b, kCl2_ok, kCl3_some, kComp_ok2, kCm_ok, pr_int_b, it_rng3, kI3_ok, kI3_ok', cp_in, cp_nin, isn_non, isn_tup, forL_nil, forL_cons, kFl_ok, kFb_nx, kFb_ct, kFb_bk, kFb_rt, sq_t, sq_l, kWhl_ok, kWb_nx, kWb_ct, kWb_bk, kWb_rt, lineN, cond_true, cond_false, Bool.not_true, Bool.not_false, Bool.and_true, Bool.true_and, Bool.and_false, Bool.false_and, Nat.zero_add, beq_self_eq_true, decide_true, decide_false, if_true, if_false, Bool.true_eq_false, Bool.false_eq_true, reduceIte, Nat.reduceAdd, Nat.reduceSub, Nat.reduceMul, Nat.reduceLeDiff, Nat.reduceBEq, Nat.reduceEqDiff, Int.reduceToNat, Int.reduceNeg, Nat.reduceLT, Nat.sub_self, u_cLCompared, pr_mn, a, b, CM]
/-! ### the looked-at ones -/
def cLookL (g : Nat) : St := (.seq (.ite (.not (.call g [.inl 0] (.val (.var 1) .nil))) (.seq .never .skip) .skip) .skip)
theorem u_cLookL {g : Nat} {C : Cx} {r : List S} : exS C (cLookL g) r = exS C (.seq (.ite (.not (.call g [.inl 0] (.val (.var 1) .nil))) (.seq .never .skip) .skip) .skip) r := byRfl rfl
def cLook (g : Nat) : St := (.seq (.for (.name 1) (.val (.var 0)) (cLookL g)) .skip)
theorem u_cLook {g : Nat} {C : Cx} {r : List S} : exS C (cLook g) r = exS C (.seq (.for (.name 1) (.val (.var 0)) (cLookL g)) .skip) r := byRfl rfl
theorem okN_pair {m p : Int} : okN (.tup [.int m, .int p]) = true := rfl
theorem sp_look {g w : Nat} (hT : T f = some ⟨1, 2, cLook g⟩) (hg : T g = some ⟨1, 1, cIsNumber w⟩) (hw : T w = some ⟨1, 1, cIsWhole⟩) {x y : D} (ox : okN x = true) (oy : okN y = true) (hx : isN x = true) (hy : isN y = true) :
    dropR (run T F (k + 3) f [.val (.tup [x, y])]) = .ok .non [] := by
  have a : dropR (run T F (k + 2) g [.val x]) = .ok (.bl (isN x)) [] := sp_is_number hg hw ox
  have b : dropR (run T F (k + 2) g [.val y]) = .ok (.bl (isN y)) [] := sp_is_number hg hw oy
  rw [hx] at a
  rw [hy] at b
  rw [rnT hT]
  simp only [getS_0, getS_s, ev_var, rdS_val, rdS_own, ev_cst, of_some, of_some', ev_bin, kBin_ok, kBin_ok', ev_cmp, kCmp_ok, kCmp_ok', kCmpR_some, ev_chn, kChn_ok, kChn_ok', kChn2_some, ev_and, kAnd_ok, ev_or, kOr_ok, ev_not, kNot_ok, ev_neg, kNeg_ok, ev_ite, kIteE_ok, es_nil, es_cons, kEs_ok, kEs_ok', ev_tup, ev_lst, kTup_ok, kLst_ok, ev_prim, kPrim_ok, ev_mix, kMix_ok, kMix_ok', kMix2_ok, as_nil, as_val, kAs_ok, kAs_ok', as_own, kOwn_ok, kOwn_ok', kOwn2_ok, as_tmp, kTmp_ok, ev_call, kCall_val, kCall_own, kV_ok, kV_exc, kCallR_ok, ev_callk, kCk_ok, kCk_ok', ev_comp, it_val, it_rng1, it_rng2, kI_ok, kI1_ok, kI2_ok, kI2_ok', ex_skip, ex_brk, ex_cnt, ex_seq, kSeq_nx, kSeq_rt, kSeq_bk, kSeq_ct, kSeq_exc, ex_asg, kAsg_ok, srof, put_eq, kPut_t, free_non, free_val, free_own, bind_name, bind_tup, bind_lst, all_nil, all_cons, kAll_some, ex_new, kNew_ok, ex_app, kApp_ok, kApp_ok', kApp2_ok, ex_put, kSto_ok, kSto1_ok, kSto2_ok, kSto3_0, ex_exp, kExp_ok, ex_ret, kRet_ok, ex_ite, kIte_ok, ex_for, kFor_ok, ex_whl, fin_nx, fin_rt, bn_add, bn_sub, bn_cat, bn_rep2, cp_lt, cp_le, cp_gt, cp_ge, cp_eq, cp_is, cp_nis, cp_ne, kNe_some, av_val, av_tmp, av_own, avO_own, pm_eq, pg_nil, pg_inl, pg_inr, pd_nil, pd_inl, pd_inr, gd_0, gd_s, nw_nil, nw_val, nw_tmp, nw_own, no_nil, no_val, no_tmp, no_own, lt_nil, lt_inl, lt_inr, lentK_t, lentK_f, io_own, io_val, io_tmp, io_none, bk_nil, bk_cons, b1_none, b1_some, backO_own, at_0, at_1, at_2, at_3, at_4, pr_idx_t, pr_idx_l, pr_idx_f, pr_len_t, pr_len_l, pr_len_f, pr_int, pr_int_t, pr_int_f, pr_abs, pr_min, pr_max, dr_ok, eq_int, eq_bl, List.cons_append, List.nil_append, List.append_nil, List.append_assoc, List.length_cons, List.length_nil, List.set_cons_zero, List.set_cons_succ, List.take_succ_cons, List.take_zero, List.take_nil, List.replicate_succ, List.replicate_zero, List.map_cons, List.map_nil, List.getElem?_cons_zero, List.getElem?_cons_succ, is0_non, is0_bl, is0_int, is0_str, is0_tup, is0_lst, is1_non, is1_bl, is1_int, is1_str, is1_tup, is1_lst, is2_non, is2_bl, is2_int, is2_str, is2_tup, is2_lst, is3_non, is3_bl, is3_int, is3_str, is3_tup, is3_lst, is4_non, is4_bl, is4_int, is4_str, is4_tup, is4_lst, ev_make, kMake_ok, kMk_ok, pr_fld0, pr_fld1, pr_fld2, pr_isc, pr_drop1, yes_eq, co_nil, co_cons, kCo1_ok, kCo2_ok, kCo3_ok, kCo4_ok, ev_comp2, kC2_ok, kC2e_ok, ns_non, clr_eq', kClr_t, iv_non, iv_val, cl_nil, cl_cons, kCl_b, kCl2_ok, kCl3_some, kComp_ok2, kCm_ok, pr_int_b, it_rng3, kI3_ok, kI3_ok', cp_in, cp_nin, isn_non, isn_tup, forL_nil, forL_cons, kFl_ok, kFb_nx, kFb_ct, kFb_bk, kFb_rt, sq_t, sq_l, kWhl_ok, kWb_nx, kWb_ct, kWb_bk, kWb_rt, lineN, cond_true, cond_false, Bool.cond_decide, Bool.not_true, Bool.not_false, Bool.and_true, Bool.true_and, Bool.and_false, Bool.false_and, Nat.zero_add, beq_self_eq_true, decide_true, decide_false, if_true, if_false, Bool.true_eq_false, Bool.false_eq_true, reduceIte, Nat.reduceAdd, Nat.reduceSub, Nat.reduceMul, Nat.reduceLeDiff, Nat.reduceBEq, Nat.reduceEqDiff, Int.reduceToNat, Int.reduceNeg, Nat.reduceLT, Nat.sub_self, u_cLook, u_cLookL, a, b]
def cOp (fl fa : Nat) : St := (.seq (.exp (.callk fl [.inl 0] .nil (.cons (.tup (.cons (.var 0) (.cons (.var 1) .nil))) .nil))) (.seq (.ret (.call fa [.inl 0, .inl 1] (.val (.var 0) (.val (.var 1) .nil)))) .skip))
theorem u_cOp {fl fa : Nat} {C : Cx} {r : List S} : exS C (cOp fl fa) r = exS C (.seq (.exp (.callk fl [.inl 0] .nil (.cons (.tup (.cons (.var 0) (.cons (.var 1) .nil))) .nil))) (.seq (.ret (.call fa [.inl 0, .inl 1] (.val (.var 0) (.val (.var 1) .nil)))) .skip)) r := byRfl rfl
theorem sp_op {fl fa g w : Nat} (hT : T f = some ⟨2, 2, cOp fl fa⟩) (hl : T fl = some ⟨1, 2, cLook g⟩) (hg : T g = some ⟨1, 1, cIsNumber w⟩) (hw : T w = some ⟨1, 1, cIsWhole⟩) {x y d : D} (ox : okN x = true) (oy : okN y = true) (hx : isN x = true) (hy : isN y = true)
    (h : dropR (run T F (k + 3) fa [.val x, .val y]) = .ok d []) : dropR (run T F (k + 4) f [.val x, .val y]) = .ok d [] := by
  have a : dropR (run T F (k + 3) fl [.val (.tup [x, y])]) = .ok .non [] := sp_look hl hg hw ox oy hx hy
  rw [rnT hT]
  simp only [getS_0, getS_s, ev_var, rdS_val, rdS_own, ev_cst, of_some, of_some', ev_bin, kBin_ok, kBin_ok', ev_cmp, kCmp_ok, kCmp_ok', kCmpR_some, ev_chn, kChn_ok, kChn_ok', kChn2_some, ev_and, kAnd_ok, ev_or, kOr_ok, ev_not, kNot_ok, ev_neg, kNeg_ok, ev_ite, kIteE_ok, es_nil, es_cons, kEs_ok, kEs_ok', ev_tup, ev_lst, kTup_ok, kLst_ok, ev_prim, kPrim_ok, ev_mix, kMix_ok, kMix_ok', kMix2_ok, as_nil, as_val, kAs_ok, kAs_ok', as_own, kOwn_ok, kOwn_ok', kOwn2_ok, as_tmp, kTmp_ok, ev_call, kCall_val, kCall_own, kV_ok, kV_exc, kCallR_ok, ev_callk, kCk_ok, kCk_ok', ev_comp, it_val, it_rng1, it_rng2, kI_ok, kI1_ok, kI2_ok, kI2_ok', ex_skip, ex_brk, ex_cnt, ex_seq, kSeq_nx, kSeq_rt, kSeq_bk, kSeq_ct, kSeq_exc, ex_asg, kAsg_ok, srof, put_eq, kPut_t, free_non, free_val, free_own, bind_name, bind_tup, bind_lst, all_nil, all_cons, kAll_some, ex_new, kNew_ok, ex_app, kApp_ok, kApp_ok', kApp2_ok, ex_put, kSto_ok, kSto1_ok, kSto2_ok, kSto3_0, ex_exp, kExp_ok, ex_ret, kRet_ok, ex_ite, kIte_ok, ex_for, kFor_ok, ex_whl, fin_nx, fin_rt, bn_add, bn_sub, bn_cat, bn_rep2, cp_lt, cp_le, cp_gt, cp_ge, cp_eq, cp_is, cp_nis, cp_ne, kNe_some, av_val, av_tmp, av_own, avO_own, pm_eq, pg_nil, pg_inl, pg_inr, pd_nil, pd_inl, pd_inr, gd_0, gd_s, nw_nil, nw_val, nw_tmp, nw_own, no_nil, no_val, no_tmp, no_own, lt_nil, lt_inl, lt_inr, lentK_t, lentK_f, io_own, io_val, io_tmp, io_none, bk_nil, bk_cons, b1_none, b1_some, backO_own, at_0, at_1, at_2, at_3, at_4, pr_idx_t, pr_idx_l, pr_idx_f, pr_len_t, pr_len_l, pr_len_f, pr_int, pr_int_t, pr_int_f, pr_abs, pr_min, pr_max, dr_ok, eq_int, eq_bl, List.cons_append, List.nil_append, List.append_nil, List.append_assoc, List.length_cons, List.length_nil, List.set_cons_zero, List.set_cons_succ, List.take_succ_cons, List.take_zero, List.take_nil, List.replicate_succ, List.replicate_zero, List.map_cons, List.map_nil, List.getElem?_cons_zero, List.getElem?_cons_succ, is0_non, is0_bl, is0_int, is0_str, is0_tup, is0_lst, is1_non, is1_bl, is1_int, is1_str, is1_tup, is1_lst, is2_non, is2_bl, is2_int, is2_str, is2_tup, is2_lst, is3_non, is3_bl, is3_int, is3_str, is3_tup, is3_lst, is4_non, is4_bl, is4_int, is4_str, is4_tup, is4_lst, ev_make, kMake_ok, kMk_ok, pr_fld0, pr_fld1, pr_fld2, pr_isc, pr_drop1, yes_eq, co_nil, co_cons, kCo1_ok, kCo2_ok, kCo3_ok, kCo4_ok, ev_comp2, kC2_ok, kC2e_ok, ns_non, clr_eq', kClr_t, iv_non, iv_val, cl_nil, cl_cons, kCl_b, kCl2_ok, kCl3_some, kComp_ok2, kCm_ok, pr_int_b, it_rng3, kI3_ok, kI3_ok', cp_in, cp_nin, isn_non, isn_tup, forL_nil, forL_cons, kFl_ok, kFb_nx, kFb_ct, kFb_bk, kFb_rt, sq_t, sq_l, kWhl_ok, kWb_nx, kWb_ct, kWb_bk, kWb_rt, lineN, cond_true, cond_false, Bool.cond_decide, Bool.not_true, Bool.not_false, Bool.and_true, Bool.true_and, Bool.and_false, Bool.false_and, Nat.zero_add, beq_self_eq_true, decide_true, decide_false, if_true, if_false, Bool.true_eq_false, Bool.false_eq_true, reduceIte, Nat.reduceAdd, Nat.reduceSub, Nat.reduceMul, Nat.reduceLeDiff, Nat.reduceBEq, Nat.reduceEqDiff, Int.reduceToNat, Int.reduceNeg, Nat.reduceLT, Nat.sub_self, u_cOp, a, h]
def cLess (fl fa fm : Nat) : St := (.seq (.exp (.callk fl [.inl 0] .nil (.cons (.tup (.cons (.var 0) (.cons (.var 1) .nil))) .nil))) (.seq (.ret (.call fa [.inl 0, .inl 1] (.val (.var 0) (.val (.call fm [.inl 0] (.val (.var 1) .nil)) .nil)))) .skip))
theorem u_cLess {fl fa fm : Nat} {C : Cx} {r : List S} : exS C (cLess fl fa fm) r = exS C (.seq (.exp (.callk fl [.inl 0] .nil (.cons (.tup (.cons (.var 0) (.cons (.var 1) .nil))) .nil))) (.seq (.ret (.call fa [.inl 0, .inl 1] (.val (.var 0) (.val (.call fm [.inl 0] (.val (.var 1) .nil)) .nil)))) .skip)) r := byRfl rfl
theorem sp_less {fl fa fm g w fat fd : Nat} (hT : T f = some ⟨2, 2, cLess fl fa fm⟩) (hl : T fl = some ⟨1, 2, cLook g⟩) (hg : T g = some ⟨1, 1, cIsNumber w⟩) (hw : T w = some ⟨1, 1, cIsWhole⟩) (hm : T fm = some ⟨1, 1, cMinus⟩)
    (hA : T fa = some ⟨2, 3, cAdded fat fd⟩) (ha : T fat = some ⟨2, 2, cAt⟩) (hd : T fd = some ⟨2, 3, cDot⟩) (hF : 6000 ≤ F) {m p n q : Int} (h1 : Bn m p) (h2 : Bn n q) (hx : isN (.tup [.int m, .int p]) = true) (hy : isN (.tup [.int n, .int q]) = true) :
    dropR (run T F (k + 4) f [.val (.tup [.int m, .int p]), .val (.tup [.int n, .int q])]) = .ok (.tup [.int (NM (SM m p (0 - n) q)), .int (NE (SM m p (0 - n) q) (mn p q))]) [] := by
  have a : dropR (run T F (k + 3) fl [.val (.tup [.tup [.int m, .int p], .tup [.int n, .int q]])]) = .ok .non [] := sp_look hl hg hw rfl rfl hx hy
  have b : dropR (run T F (k + 3) fm [.val (.tup [.int n, .int q])]) = _ := sp_minus hm
  have c : dropR (run T F (k + 3) fa [.val (.tup [.int m, .int p]), .val (.tup [.int (0 - n), .int q])]) = _ := sp_added (k := k + 1) hA ha hd hF h1 h2.neg
  rw [rnT hT]
  simp only [getS_0, getS_s, ev_var, rdS_val, rdS_own, ev_cst, of_some, of_some', ev_bin, kBin_ok, kBin_ok', ev_cmp, kCmp_ok, kCmp_ok', kCmpR_some, ev_chn, kChn_ok, kChn_ok', kChn2_some, ev_and, kAnd_ok, ev_or, kOr_ok, ev_not, kNot_ok, ev_neg, kNeg_ok, ev_ite, kIteE_ok, es_nil, es_cons, kEs_ok, kEs_ok', ev_tup, ev_lst, kTup_ok, kLst_ok, ev_prim, kPrim_ok, ev_mix, kMix_ok, kMix_ok', kMix2_ok, as_nil, as_val, kAs_ok, kAs_ok', as_own, kOwn_ok, kOwn_ok', kOwn2_ok, as_tmp, kTmp_ok, ev_call, kCall_val, kCall_own, kV_ok, kV_exc, kCallR_ok, ev_callk, kCk_ok, kCk_ok', ev_comp, it_val, it_rng1, it_rng2, kI_ok, kI1_ok, kI2_ok, kI2_ok', ex_skip, ex_brk, ex_cnt, ex_seq, kSeq_nx, kSeq_rt, kSeq_bk, kSeq_ct, kSeq_exc, ex_asg, kAsg_ok, srof, put_eq, kPut_t, free_non, free_val, free_own, bind_name, bind_tup, bind_lst, all_nil, all_cons, kAll_some, ex_new, kNew_ok, ex_app, kApp_ok, kApp_ok', kApp2_ok, ex_put, kSto_ok, kSto1_ok, kSto2_ok, kSto3_0, ex_exp, kExp_ok, ex_ret, kRet_ok, ex_ite, kIte_ok, ex_for, kFor_ok, ex_whl, fin_nx, fin_rt, bn_add, bn_sub, bn_cat, bn_rep2, cp_lt, cp_le, cp_gt, cp_ge, cp_eq, cp_is, cp_nis, cp_ne, kNe_some, av_val, av_tmp, av_own, avO_own, pm_eq, pg_nil, pg_inl, pg_inr, pd_nil, pd_inl, pd_inr, gd_0, gd_s, nw_nil, nw_val, nw_tmp, nw_own, no_nil, no_val, no_tmp, no_own, lt_nil, lt_inl, lt_inr, lentK_t, lentK_f, io_own, io_val, io_tmp, io_none, bk_nil, bk_cons, b1_none, b1_some, backO_own, at_0, at_1, at_2, at_3, at_4, pr_idx_t, pr_idx_l, pr_idx_f, pr_len_t, pr_len_l, pr_len_f, pr_int, pr_int_t, pr_int_f, pr_abs, pr_min, pr_max, dr_ok, eq_int, eq_bl, List.cons_append, List.nil_append, List.append_nil, List.append_assoc, List.length_cons, List.length_nil, List.set_cons_zero, List.set_cons_succ, List.take_succ_cons, List.take_zero, List.take_nil, List.replicate_succ, List.replicate_zero, List.map_cons, List.map_nil, List.getElem?_cons_zero, List.getElem?_cons_succ, is0_non, is0_bl, is0_int, is0_str, is0_tup, is0_lst, is1_non, is1_bl, is1_int, is1_str, is1_tup, is1_lst, is2_non, is2_bl, is2_int, is2_str, is2_tup, is2_lst, is3_non, is3_bl, is3_int, is3_str, is3_tup, is3_lst, is4_non, is4_bl, is4_int, is4_str, is4_tup, is4_lst, ev_make, kMake_ok, kMk_ok, pr_fld0, pr_fld1, pr_fld2, pr_isc, pr_drop1, yes_eq, co_nil, co_cons, kCo1_ok, kCo2_ok, kCo3_ok, kCo4_ok, ev_comp2, kC2_ok, kC2e_ok, ns_non, clr_eq', kClr_t, iv_non, iv_val, cl_nil, cl_cons, kCl_b, kCl2_ok, kCl3_some, kComp_ok2, kCm_ok, pr_int_b, it_rng3, kI3_ok, kI3_ok', cp_in, cp_nin, isn_non, isn_tup, forL_nil, forL_cons, kFl_ok, kFb_nx, kFb_ct, kFb_bk, kFb_rt, sq_t, sq_l, kWhl_ok, kWb_nx, kWb_ct, kWb_bk, kWb_rt, lineN, cond_true, cond_false, Bool.cond_decide, Bool.not_true, Bool.not_false, Bool.and_true, Bool.true_and, Bool.and_false, Bool.false_and, Nat.zero_add, beq_self_eq_true, decide_true, decide_false, if_true, if_false, Bool.true_eq_false, Bool.false_eq_true, reduceIte, Nat.reduceAdd, Nat.reduceSub, Nat.reduceMul, Nat.reduceLeDiff, Nat.reduceBEq, Nat.reduceEqDiff, Int.reduceToNat, Int.reduceNeg, Nat.reduceLT, Nat.sub_self, u_cLess, a, b, c]
/-! ### the law's own sum -/
def SS (m p n q s : Int) : Int := AT m p (mn p q) + s * AT n q (mn p q)
theorem ss_1 (m p n q : Int) : SS m p n q 1 = SM m p n q := by unfold SS SM; rw [Int.one_mul]
theorem at_neg (m p e : Int) : AT (0 - m) p e = -1 * AT m p e := by unfold AT; rw [Int.zero_sub, Int.neg_mul, Int.neg_mul, Int.one_mul]
theorem ss_m (m p n q : Int) : SS m p n q (-1) = SM m p (0 - n) q := by unfold SS SM; rw [at_neg]
def cSum (fat fo : Nat) : St := (.seq (.asg (.name 3) (.prim .min2 (.cons (.prim .idx (.cons (.var 0) (.cons (.cst (.int (1))) .nil))) (.cons (.prim .idx (.cons (.var 1) (.cons (.cst (.int (1))) .nil))) .nil)))) (.seq (.ret (.call fo [.inl 0, .inl 1] (.val (.bin .add (.call fat [.inl 0, .inl 1] (.val (.var 0) (.val (.var 3) .nil))) (.bin .mul (.var 2) (.call fat [.inl 0, .inl 1] (.val (.var 1) (.val (.var 3) .nil))))) (.val (.var 3) .nil)))) .skip))
theorem u_cSum {fat fo : Nat} {C : Cx} {r : List S} : exS C (cSum fat fo) r = exS C (.seq (.asg (.name 3) (.prim .min2 (.cons (.prim .idx (.cons (.var 0) (.cons (.cst (.int (1))) .nil))) (.cons (.prim .idx (.cons (.var 1) (.cons (.cst (.int (1))) .nil))) .nil)))) (.seq (.ret (.call fo [.inl 0, .inl 1] (.val (.bin .add (.call fat [.inl 0, .inl 1] (.val (.var 0) (.val (.var 3) .nil))) (.bin .mul (.var 2) (.call fat [.inl 0, .inl 1] (.val (.var 1) (.val (.var 3) .nil))))) (.val (.var 3) .nil)))) .skip)) r := byRfl rfl
theorem sp_sum {fat fo : Nat} (hT : T f = some ⟨3, 4, cSum fat fo⟩) (ha : T fat = some ⟨2, 2, cAt⟩) (ho : T fo = some ⟨2, 2, cOdd⟩) (hF : 6000 ≤ F) {m p n q s : Int} (h1 : Bn m p) (h2 : Bn n q) (hs : s = 1 ∨ s = -1) :
    dropR (run T F (k + 2) f [.val (.tup [.int m, .int p]), .val (.tup [.int n, .int q]), .val (.int s)]) = .ok (.tup [.int (NM (SS m p n q s)), .int (NE (SS m p n q s) (mn p q))]) [] := by
  have a : dropR (run T F (k + 1) fat [.val (.tup [.int m, .int p]), .val (.int (mn p q))]) = _ := sp_at ha h1.m (mn_le1 _ _) (by have := mn_ge h1.l h2.l; have := h1.g; omega)
  have b : dropR (run T F (k + 1) fat [.val (.tup [.int n, .int q]), .val (.int (mn p q))]) = _ := sp_at ha h2.m (mn_le2 _ _) (by have := mn_ge h1.l h2.l; have := h2.g; omega)
  have bs : (SS m p n q s).natAbs < 2 ^ 4801 := by
    rcases hs with rfl | rfl
    · rw [ss_1]; exact h1.sum h2
    · rw [ss_m]; exact h1.sum h2.neg
  have w : mulOk s (AT n q (mn p q)) = true := mul_ok (m := 2) (n := 4800) (by rcases hs with rfl | rfl <;> decide) (h2.at (mn_ge h1.l h2.l)) (by decide)
  have c : dropR (run T F (k + 1) fo [.val (.int (AT m p (mn p q) + s * AT n q (mn p q))), .val (.int (mn p q))]) = .ok (.tup [.int (NM (SS m p n q s)), .int (NE (SS m p n q s) (mn p q))]) [] := sp_odd ho hF (lt_big bs (by decide))
  rw [rnT hT]
  simp only [getS_0, getS_s, ev_var, rdS_val, rdS_own, ev_cst, of_some, of_some', ev_bin, kBin_ok, kBin_ok', ev_cmp, kCmp_ok, kCmp_ok', kCmpR_some, ev_chn, kChn_ok, kChn_ok', kChn2_some, ev_and, kAnd_ok, ev_or, kOr_ok, ev_not, kNot_ok, ev_neg, kNeg_ok, ev_ite, kIteE_ok, es_nil, es_cons, kEs_ok, kEs_ok', ev_tup, ev_lst, kTup_ok, kLst_ok, ev_prim, kPrim_ok, ev_mix, kMix_ok, kMix_ok', kMix2_ok, as_nil, as_val, kAs_ok, kAs_ok', as_own, kOwn_ok, kOwn_ok', kOwn2_ok, as_tmp, kTmp_ok, ev_call, kCall_val, kCall_own, kV_ok, kV_exc, kCallR_ok, ev_callk, kCk_ok, kCk_ok', ev_comp, it_val, it_rng1, it_rng2, kI_ok, kI1_ok, kI2_ok, kI2_ok', ex_skip, ex_brk, ex_cnt, ex_seq, kSeq_nx, kSeq_rt, kSeq_bk, kSeq_ct, kSeq_exc, ex_asg, kAsg_ok, srof, put_eq, kPut_t, free_non, free_val, free_own, bind_name, bind_tup, bind_lst, all_nil, all_cons, kAll_some, ex_new, kNew_ok, ex_app, kApp_ok, kApp_ok', kApp2_ok, ex_put, kSto_ok, kSto1_ok, kSto2_ok, kSto3_0, ex_exp, kExp_ok, ex_ret, kRet_ok, ex_ite, kIte_ok, ex_for, kFor_ok, ex_whl, fin_nx, fin_rt, bn_add, bn_sub, bn_cat, bn_rep2, cp_lt, cp_le, cp_gt, cp_ge, cp_eq, cp_is, cp_nis, cp_ne, kNe_some, av_val, av_tmp, av_own, avO_own, pm_eq, pg_nil, pg_inl, pg_inr, pd_nil, pd_inl, pd_inr, gd_0, gd_s, nw_nil, nw_val, nw_tmp, nw_own, no_nil, no_val, no_tmp, no_own, lt_nil, lt_inl, lt_inr, lentK_t, lentK_f, io_own, io_val, io_tmp, io_none, bk_nil, bk_cons, b1_none, b1_some, backO_own, at_0, at_1, at_2, at_3, at_4, pr_idx_t, pr_idx_l, pr_idx_f, pr_len_t, pr_len_l, pr_len_f, pr_int, pr_int_t, pr_int_f, pr_abs, pr_max, dr_ok, eq_int, eq_bl, List.cons_append, List.nil_append, List.append_nil, List.append_assoc, List.length_cons, List.length_nil, List.set_cons_zero, List.set_cons_succ, List.take_succ_cons, List.take_zero, List.take_nil, List.replicate_succ, List.replicate_zero, List.map_cons, List.map_nil, List.getElem?_cons_zero, List.getElem?_cons_succ, is0_non, is0_bl, is0_int, is0_str, is0_tup, is0_lst, is1_non, is1_bl, is1_int, is1_str, is1_tup, is1_lst, is2_non, is2_bl, is2_int, is2_str, is2_tup, is2_lst, is3_non, is3_bl, is3_int, is3_str, is3_tup, is3_lst, is4_non, is4_bl, is4_int, is4_str, is4_tup, is4_lst, ev_make, kMake_ok, kMk_ok, pr_fld0, pr_fld1, pr_fld2, pr_isc, pr_drop1, yes_eq, co_nil, co_cons, kCo1_ok, kCo2_ok, kCo3_ok, kCo4_ok, ev_comp2, kC2_ok, kC2e_ok, ns_non, clr_eq', kClr_t, iv_non, iv_val, cl_nil, cl_cons, kCl_b, kCl2_ok, kCl3_some, kComp_ok2, kCm_ok, pr_int_b, it_rng3, kI3_ok, kI3_ok', cp_in, cp_nin, isn_non, isn_tup, forL_nil, forL_cons, kFl_ok, kFb_nx, kFb_ct, kFb_bk, kFb_rt, sq_t, sq_l, kWhl_ok, kWb_nx, kWb_ct, kWb_bk, kWb_rt, lineN, cond_true, cond_false, Bool.not_true, Bool.not_false, Bool.and_true, Bool.true_and, Bool.and_false, Bool.false_and, Nat.zero_add, beq_self_eq_true, decide_true, decide_false, if_true, if_false, Bool.true_eq_false, Bool.false_eq_true, reduceIte, Nat.reduceAdd, Nat.reduceSub, Nat.reduceMul, Nat.reduceLeDiff, Nat.reduceBEq, Nat.reduceEqDiff, Int.reduceToNat, Int.reduceNeg, Nat.reduceLT, Nat.sub_self, u_cSum, pr_mn, a, b, bn_mul, w, c]
theorem isN_nf (m e : Int) : isN (.tup [.int (NM m), .int (NE m e)]) = true := by
  by_cases h : m = 0
  · subst h; rfl
  · have := (nm_spec h).1
    simp [isN, this]
end Rf

set_option Elab.async false
set_option linter.all false
set_option maxRecDepth 100000
set_option maxHeartbeats 1000000
/-! RfLib3: numbers of twos by their worth at a base. -/
namespace Rf
open PySem
variable {T : Nat → Option Fd} {F : Nat} {k f : Nat}
/-- the number V times 2 to the power -B -/
def num (B V : Int) : D := .tup [.int (NM V), .int (NE V (-B))]
theorem num_zero (B : Int) : num B 0 = .tup [.int 0, .int 0] := rfl
theorem isN_num (B V : Int) : isN (num B V) = true := isN_nf _ _
theorem okN_num (B V : Int) : okN (num B V) = true := rfl
theorem nf_scale (S e : Int) (j : Nat) : NM (S * 2 ^ j) = NM S ∧ NE (S * 2 ^ j) e = NE S (e + j) := by
  by_cases h : S = 0
  · subst h; rw [Int.zero_mul]; exact ⟨rfl, rfl⟩
  · obtain ⟨a, b⟩ := nm_shift h j
    exact ⟨a, b e⟩
theorem num_base (B V : Int) (j : Nat) : num (B + j) (V * 2 ^ j) = num B V := by
  unfold num
  obtain ⟨a, b⟩ := nf_scale V (-(B + j)) j
  rw [a, b, show -(B + (j : Int)) + j = -B by omega]
theorem ne_lo {V B : Int} (hB : 0 ≤ B) : -B ≤ NE V (-B) := by
  unfold NE
  split <;> omega
theorem ne_hi {V B : Int} {b : Nat} (hB : 0 ≤ B) (hV : V.natAbs < 2 ^ b) : NE V (-B) ≤ b := by
  unfold NE
  split
  · omega
  · rename_i h
    have := v2_lt h hV
    omega
theorem at_num {V B : Int} (hB : 0 ≤ B) : AT (NM V) (NE V (-B)) (-B) = V := by
  unfold AT
  by_cases h : V = 0
  · subst h; rw [nm0, Int.zero_mul]
  · obtain ⟨_, h2⟩ := nm_spec h
    unfold NE
    rw [if_neg h, show (-B + (v2 V : Int) - -B).toNat = v2 V by omega]
    exact h2.symm
theorem at_split {m p l e : Int} (h1 : l ≤ p) (h2 : e ≤ l) : AT m p e = AT m p l * 2 ^ (l - e).toNat := by
  unfold AT
  rw [Int.mul_assoc, ← Int.pow_add]
  congr 2
  omega
theorem at_le {m p l e : Int} (h1 : l ≤ p) (h2 : e ≤ l) : (AT m p l).natAbs ≤ (AT m p e).natAbs := by
  rw [at_split h1 h2, Int.natAbs_mul, Int.natAbs_pow]
  exact Nat.le_mul_of_pos_right _ (Nat.pow_pos (by decide))
theorem sm_num {m p n q B : Int} (h1 : -B ≤ p) (h2 : -B ≤ q) : SM m p n q * 2 ^ (mn p q - -B).toNat = AT m p (-B) + AT n q (-B) := by
  unfold SM
  rw [Int.add_mul, ← at_split (mn_le1 p q) (mn_ge h1 h2), ← at_split (mn_le2 p q) (mn_ge h1 h2)]
theorem nf_sm {m p n q B : Int} (h1 : -B ≤ p) (h2 : -B ≤ q) : NM (SM m p n q) = NM (AT m p (-B) + AT n q (-B)) ∧ NE (SM m p n q) (mn p q) = NE (AT m p (-B) + AT n q (-B)) (-B) := by
  have h3 : -B ≤ mn p q := mn_ge h1 h2
  obtain ⟨a, b⟩ := nf_scale (SM m p n q) (-B) (mn p q - -B).toNat
  rw [sm_num h1 h2] at a b
  rw [show -B + ((mn p q - -B).toNat : Int) = mn p q by omega] at b
  exact ⟨a.symm, b.symm⟩
theorem sum_bound {m p n q B : Int} {b c : Nat} (h1 : -B ≤ p) (h2 : -B ≤ q) (a1 : (AT m p (-B)).natAbs < 2 ^ b) (a2 : (AT n q (-B)).natAbs < 2 ^ b) (hc : b + 1 ≤ c) : (SM m p n q).natAbs < 2 ^ c := by
  have x1 := Nat.lt_of_le_of_lt (at_le (mn_le1 p q) (mn_ge h1 h2)) a1
  have x2 := Nat.lt_of_le_of_lt (at_le (mn_le2 p q) (mn_ge h1 h2)) a2
  refine lt_big (b := b + 1) ?_ hc
  unfold SM
  rw [Nat.pow_succ]
  generalize 2 ^ b = Z at *
  omega
theorem sp_added' {fat fd : Nat} (hT : T f = some ⟨2, 3, cAdded fat fd⟩) (ha : T fat = some ⟨2, 2, cAt⟩) (hd : T fd = some ⟨2, 3, cDot⟩) (hF : 6000 ≤ F) {m p n q B : Int} {b : Nat} (hB : B ≤ 5000) (hb : b ≤ 4990) (h1 : -B ≤ p) (h2 : -B ≤ q) (g1 : p ≤ 100000) (g2 : q ≤ 100000)
    (m1 : m.natAbs < 2 ^ b) (m2 : n.natAbs < 2 ^ b) (a1 : (AT m p (-B)).natAbs < 2 ^ b) (a2 : (AT n q (-B)).natAbs < 2 ^ b) :
    dropR (run T F (k + 2) f [.val (.tup [.int m, .int p]), .val (.tup [.int n, .int q])]) = .ok (.tup [.int (NM (AT m p (-B) + AT n q (-B))), .int (NE (AT m p (-B) + AT n q (-B)) (-B))]) [] := by
  have lo := mn_ge h1 h2
  have a : dropR (run T F (k + 1) fat [.val (.tup [.int m, .int p]), .val (.int (mn p q))]) = _ := sp_at ha m1 (mn_le1 _ _) (by omega)
  have b : dropR (run T F (k + 1) fat [.val (.tup [.int n, .int q]), .val (.int (mn p q))]) = _ := sp_at ha m2 (mn_le2 _ _) (by omega)
  have c : dropR (run T F (k + 1) fd [.val (.int (AT m p (mn p q) + AT n q (mn p q))), .val (.int (mn p q))]) = .ok (.tup [.int (NM (SM m p n q)), .int (NE (SM m p n q) (mn p q))]) [] := sp_dot hd hF (sum_bound h1 h2 a1 a2 (by omega))
  obtain ⟨e1, e2⟩ := nf_sm (m := m) (n := n) h1 h2
  rw [e1, e2] at c
  rw [rnT hT]
  simp only [getS_0, getS_s, ev_var, rdS_val, rdS_own, ev_cst, of_some, of_some', ev_bin, kBin_ok, kBin_ok', ev_cmp, kCmp_ok, kCmp_ok', kCmpR_some, ev_chn, kChn_ok, kChn_ok', kChn2_some, ev_and, kAnd_ok, ev_or, kOr_ok, ev_not, kNot_ok, ev_neg, kNeg_ok, ev_ite, kIteE_ok, es_nil, es_cons, kEs_ok, kEs_ok', ev_tup, ev_lst, kTup_ok, kLst_ok, ev_prim, kPrim_ok, ev_mix, kMix_ok, kMix_ok', kMix2_ok, as_nil, as_val, kAs_ok, kAs_ok', as_own, kOwn_ok, kOwn_ok', kOwn2_ok, as_tmp, kTmp_ok, ev_call, kCall_val, kCall_own, kV_ok, kV_exc, kCallR_ok, ev_callk, kCk_ok, kCk_ok', ev_comp, it_val, it_rng1, it_rng2, kI_ok, kI1_ok, kI2_ok, kI2_ok', ex_skip, ex_brk, ex_cnt, ex_seq, kSeq_nx, kSeq_rt, kSeq_bk, kSeq_ct, kSeq_exc, ex_asg, kAsg_ok, srof, put_eq, kPut_t, free_non, free_val, free_own, bind_name, bind_tup, bind_lst, all_nil, all_cons, kAll_some, ex_new, kNew_ok, ex_app, kApp_ok, kApp_ok', kApp2_ok, ex_put, kSto_ok, kSto1_ok, kSto2_ok, kSto3_0, ex_exp, kExp_ok, ex_ret, kRet_ok, ex_ite, kIte_ok, ex_for, kFor_ok, ex_whl, fin_nx, fin_rt, bn_add, bn_sub, bn_cat, bn_rep2, cp_lt, cp_le, cp_gt, cp_ge, cp_eq, cp_is, cp_nis, cp_ne, kNe_some, av_val, av_tmp, av_own, avO_own, pm_eq, pg_nil, pg_inl, pg_inr, pd_nil, pd_inl, pd_inr, gd_0, gd_s, nw_nil, nw_val, nw_tmp, nw_own, no_nil, no_val, no_tmp, no_own, lt_nil, lt_inl, lt_inr, lentK_t, lentK_f, io_own, io_val, io_tmp, io_none, bk_nil, bk_cons, b1_none, b1_some, backO_own, at_0, at_1, at_2, at_3, at_4, pr_idx_t, pr_idx_l, pr_idx_f, pr_len_t, pr_len_l, pr_len_f, pr_int, pr_int_t, pr_int_f, pr_abs, pr_max, dr_ok, eq_int, eq_bl, List.cons_append, List.nil_append, List.append_nil, List.append_assoc, List.length_cons, List.length_nil, List.set_cons_zero, List.set_cons_succ, List.take_succ_cons, List.take_zero, List.take_nil, List.replicate_succ, List.replicate_zero, List.map_cons, List.map_nil, List.getElem?_cons_zero, List.getElem?_cons_succ, is0_non, is0_bl, is0_int, is0_str, is0_tup, is0_lst, is1_non, is1_bl, is1_int, is1_str, is1_tup, is1_lst, is2_non, is2_bl, is2_int, is2_str, is2_tup, is2_lst, is3_non, is3_bl, is3_int, is3_str, is3_tup, is3_lst, is4_non, is4_bl, is4_int, is4_str, is4_tup, is4_lst, ev_make, kMake_ok, kMk_ok, pr_fld0, pr_fld1, pr_fld2, pr_isc, pr_drop1, yes_eq, co_nil, co_cons, kCo1_ok, kCo2_ok, kCo3_ok, kCo4_ok, ev_comp2, kC2_ok, kC2e_ok, ns_non, clr_eq', kClr_t, iv_non, iv_val, cl_nil, cl_cons, kCl_b, kCl2_ok, kCl3_some, kComp_ok2, kCm_ok, pr_int_b, it_rng3, kI3_ok, kI3_ok', cp_in, cp_nin, isn_non, isn_tup, forL_nil, forL_cons, kFl_ok, kFb_nx, kFb_ct, kFb_bk, kFb_rt, sq_t, sq_l, kWhl_ok, kWb_nx, kWb_ct, kWb_bk, kWb_rt, lineN, cond_true, cond_false, Bool.not_true, Bool.not_false, Bool.and_true, Bool.true_and, Bool.and_false, Bool.false_and, Nat.zero_add, beq_self_eq_true, decide_true, decide_false, if_true, if_false, Bool.true_eq_false, Bool.false_eq_true, reduceIte, Nat.reduceAdd, Nat.reduceSub, Nat.reduceMul, Nat.reduceLeDiff, Nat.reduceBEq, Nat.reduceEqDiff, Int.reduceToNat, Int.reduceNeg, Nat.reduceLT, Nat.sub_self, u_cAdded, pr_mn, a, b, c]
theorem cm_scale (a b : Int) (j : Nat) : CM (a * 2 ^ j) (b * 2 ^ j) = CM a b := by
  have hp := pow2_pos j
  unfold CM
  have e1 : (b * 2 ^ j < a * 2 ^ j) = (b < a) := propext (Int.mul_lt_mul_right hp)
  have e2 : (a * 2 ^ j < b * 2 ^ j) = (a < b) := propext (Int.mul_lt_mul_right hp)
  simp only [e1, e2]
theorem sp_compared' {fat : Nat} (hT : T f = some ⟨2, 5, cCompared fat⟩ ∨ T f = some ⟨2, 5, cLCompared fat⟩) (ha : T fat = some ⟨2, 2, cAt⟩) {m p n q B : Int} {b : Nat} (hB : B ≤ 5000) (hb : b ≤ 100000) (h1 : -B ≤ p) (h2 : -B ≤ q) (g1 : p ≤ 100000) (g2 : q ≤ 100000)
    (m1 : m.natAbs < 2 ^ b) (m2 : n.natAbs < 2 ^ b) : dropR (run T F (k + 2) f [.val (.tup [.int m, .int p]), .val (.tup [.int n, .int q])]) = .ok (.int (CM (AT m p (-B)) (AT n q (-B)))) [] := by
  have lo := mn_ge h1 h2
  have a : dropR (run T F (k + 1) fat [.val (.tup [.int m, .int p]), .val (.int (mn p q))]) = _ := sp_at ha m1 (mn_le1 _ _) (by omega)
  have b : dropR (run T F (k + 1) fat [.val (.tup [.int n, .int q]), .val (.int (mn p q))]) = _ := sp_at ha m2 (mn_le2 _ _) (by omega)
  have e : CM (AT m p (-B)) (AT n q (-B)) = CM (AT m p (mn p q)) (AT n q (mn p q)) := by
    rw [at_split (mn_le1 p q) lo, at_split (mn_le2 p q) lo, cm_scale]
  rw [e]
  generalize AT m p (mn p q) = A at *
  generalize AT n q (mn p q) = B at *
  rcases hT with hT | hT
  · rw [rnT hT]
    simp only [getS_0, getS_s, ev_var, rdS_val, rdS_own, ev_cst, of_some, of_some', ev_bin, kBin_ok, kBin_ok', ev_cmp, kCmp_ok, kCmp_ok', kCmpR_some, ev_chn, kChn_ok, kChn_ok', kChn2_some, ev_and, kAnd_ok, ev_or, kOr_ok, ev_not, kNot_ok, ev_neg, kNeg_ok, ev_ite, kIteE_ok, es_nil, es_cons, kEs_ok, kEs_ok', ev_tup, ev_lst, kTup_ok, kLst_ok, ev_prim, kPrim_ok, ev_mix, kMix_ok, kMix_ok', kMix2_ok, as_nil, as_val, kAs_ok, kAs_ok', as_own, kOwn_ok, kOwn_ok', kOwn2_ok, as_tmp, kTmp_ok, ev_call, kCall_val, kCall_own, kV_ok, kV_exc, kCallR_ok, ev_callk, kCk_ok, kCk_ok', ev_comp, it_val, it_rng1, it_rng2, kI_ok, kI1_ok, kI2_ok, kI2_ok', ex_skip, ex_brk, ex_cnt, ex_seq, kSeq_nx, kSeq_rt, kSeq_bk, kSeq_ct, kSeq_exc, ex_asg, kAsg_ok, srof, put_eq, kPut_t, free_non, free_val, free_own, bind_name, bind_tup, bind_lst, all_nil, all_cons, kAll_some, ex_new, kNew_ok, ex_app, kApp_ok, kApp_ok', kApp2_ok, ex_put, kSto_ok, kSto1_ok, kSto2_ok, kSto3_0, ex_exp, kExp_ok, ex_ret, kRet_ok, ex_ite, kIte_ok, ex_for, kFor_ok, ex_whl, fin_nx, fin_rt, bn_add, bn_sub, bn_cat, bn_rep2, cp_lt, cp_le, cp_gt, cp_ge, cp_eq, cp_is, cp_nis, cp_ne, kNe_some, av_val, av_tmp, av_own, avO_own, pm_eq, pg_nil, pg_inl, pg_inr, pd_nil, pd_inl, pd_inr, gd_0, gd_s, nw_nil, nw_val, nw_tmp, nw_own, no_nil, no_val, no_tmp, no_own, lt_nil, lt_inl, lt_inr, lentK_t, lentK_f, io_own, io_val, io_tmp, io_none, bk_nil, bk_cons, b1_none, b1_some, backO_own, at_0, at_1, at_2, at_3, at_4, pr_idx_t, pr_idx_l, pr_idx_f, pr_len_t, pr_len_l, pr_len_f, pr_int, pr_int_t, pr_int_f, pr_abs, pr_max, dr_ok, eq_int, eq_bl, List.cons_append, List.nil_append, List.append_nil, List.append_assoc, List.length_cons, List.length_nil, List.set_cons_zero, List.set_cons_succ, List.take_succ_cons, List.take_zero, List.take_nil, List.replicate_succ, List.replicate_zero, List.map_cons, List.map_nil, List.getElem?_cons_zero, List.getElem?_cons_succ, is0_non, is0_bl, is0_int, is0_str, is0_tup, is0_lst, is1_non, is1_bl, is1_int, is1_str, is1_tup, is1_lst, is2_non, is2_bl, is2_int, is2_str, is2_tup, is2_lst, is3_non, is3_bl, is3_int, is3_str, is3_tup, is3_lst, is4_non, is4_bl, is4_int, is4_str, is4_tup, is4_lst, ev_make, kMake_ok, kMk_ok, pr_fld0, pr_fld1, pr_fld2, pr_isc, pr_drop1, yes_eq, co_nil, co_cons, kCo1_ok, kCo2_ok, kCo3_ok, kCo4_ok, ev_comp2, kC2_ok, kC2e_ok, ns_non, clr_eq', kClr_t, iv_non, iv_val, cl_nil, cl_cons, kCl_b, kCl2_ok, kCl3_some, kComp_ok2, kCm_ok, pr_int_b, it_rng3, kI3_ok, kI3_ok', cp_in, cp_nin, isn_non, isn_tup, forL_nil, forL_cons, kFl_ok, kFb_nx, kFb_ct, kFb_bk, kFb_rt, sq_t, sq_l, kWhl_ok, kWb_nx, kWb_ct, kWb_bk, kWb_rt, lineN, cond_true, cond_false, Bool.not_true, Bool.not_false, Bool.and_true, Bool.true_and, Bool.and_false, Bool.false_and, Nat.zero_add, beq_self_eq_true, decide_true, decide_false, if_true, if_false, Bool.true_eq_false, Bool.false_eq_true, reduceIte, Nat.reduceAdd, Nat.reduceSub, Nat.reduceMul, Nat.reduceLeDiff, Nat.reduceBEq, Nat.reduceEqDiff, Int.reduceToNat, Int.reduceNeg, Nat.reduceLT, Nat.sub_self, u_cCompared, pr_mn, a, b, CM]
  · rw [rnT hT]
    simp only [getS_0, getS_s, ev_var, rdS_val, rdS_own, ev_cst, of_some, of_some', ev_bin, kBin_ok, kBin_ok', ev_cmp, kCmp_ok, kCmp_ok', kCmpR_some, ev_chn, kChn_ok, kChn_ok', kChn2_some, ev_and, kAnd_ok, ev_or, kOr_ok, ev_not, kNot_ok, ev_neg, kNeg_ok, ev_ite, kIteE_ok, es_nil, es_cons, kEs_ok, kEs_ok', ev_tup, ev_lst, kTup_ok, kLst_ok, ev_prim, kPrim_ok, ev_mix, kMix_ok, kMix_ok', kMix2_ok, as_nil, as_val, kAs_ok, kAs_ok', as_own, kOwn_ok, kOwn_ok', kOwn2_ok, as_tmp, kTmp_ok, ev_call, kCall_val, kCall_own, kV_ok, kV_exc, kCallR_ok, ev_callk, kCk_ok, kCk_ok', ev_comp, it_val, it_rng1, it_rng2, kI_ok, kI1_ok, kI2_ok, kI2_ok', ex_skip, ex_brk, ex_cnt, ex_seq, kSeq_nx, kSeq_rt, kSeq_bk, kSeq_ct, kSeq_exc, ex_asg, kAsg_ok, srof, put_eq, kPut_t, free_non, free_val, free_own, bind_name, bind_tup, bind_lst, all_nil, all_cons, kAll_some, ex_new, kNew_ok, ex_app, kApp_ok, kApp_ok', kApp2_ok, ex_put, kSto_ok, kSto1_ok, kSto2_ok, kSto3_0, ex_exp, kExp_ok, ex_ret, kRet_ok, ex_ite, kIte_ok, ex_for, kFor_ok, ex_whl, fin_nx, fin_rt, bn_add, bn_sub, bn_cat, bn_rep2, cp_lt, cp_le, cp_gt, cp_ge, cp_eq, cp_is, cp_nis, cp_ne, kNe_some, av_val, av_tmp, av_own, avO_own, pm_eq, pg_nil, pg_inl, pg_inr, pd_nil, pd_inl, pd_inr, gd_0, gd_s, nw_nil, nw_val, nw_tmp, nw_own, no_nil, no_val, no_tmp, no_own, lt_nil, lt_inl, lt_inr, lentK_t, lentK_f, io_own, io_val, io_tmp, io_none, bk_nil, bk_cons, b1_none, b1_some, backO_own, at_0, at_1, at_2, at_3, at_4, pr_idx_t, pr_idx_l, pr_idx_f, pr_len_t, pr_len_l, pr_len_f, pr_int, pr_int_t, pr_int_f, pr_abs, pr_max, dr_ok, eq_int, eq_bl, List.cons_append, List.nil_append, List.append_nil, List.append_assoc, List.length_cons, List.length_nil, List.set_cons_zero, List.set_cons_succ, List.take_succ_cons, List.take_zero, List.take_nil, List.replicate_succ, List.replicate_zero, List.map_cons, List.map_nil, List.getElem?_cons_zero, List.getElem?_cons_succ, is0_non, is0_bl, is0_int, is0_str, is0_tup, is0_lst, is1_non, is1_bl, is1_int, is1_str, is1_tup, is1_lst, is2_non, is2_bl, is2_int, is2_str, is2_tup, is2_lst, is3_non, is3_bl, is3_int, is3_str, is3_tup, is3_lst, is4_non, is4_bl, is4_int, is4_str, is4_tup, is4_lst, ev_make, kMake_ok, kMk_ok, pr_fld0, pr_fld1, pr_fld2, pr_isc, pr_drop1, yes_eq, co_nil, co_cons, kCo1_ok, kCo2_ok, kCo3_ok, kCo4_ok, ev_comp2, kC2_ok, kC2e_ok, ns_non, clr_eq', kClr_t, iv_non, iv_val, cl_nil, cl_cons, kCl_b, kCl2_ok, kCl3_some, kComp_ok2, kCm_ok, pr_int_b, it_rng3, kI3_ok, kI3_ok', cp_in, cp_nin, isn_non, isn_tup, forL_nil, forL_cons, kFl_ok, kFb_nx, kFb_ct, kFb_bk, kFb_rt, sq_t, sq_l, kWhl_ok, kWb_nx, kWb_ct, kWb_bk, kWb_rt, lineN, cond_true, cond_false, Bool.not_true, Bool.not_false, Bool.and_true, Bool.true_and, Bool.and_false, Bool.false_and, Nat.zero_add, beq_self_eq_true, decide_true, decide_false, if_true, if_false, Bool.true_eq_false, Bool.false_eq_true, reduceIte, Nat.reduceAdd, Nat.reduceSub, Nat.reduceMul, Nat.reduceLeDiff, Nat.reduceBEq, Nat.reduceEqDiff, Int.reduceToNat, Int.reduceNeg, Nat.reduceLT, Nat.sub_self, u_cLCompared, pr_mn, a, b, CM]
/-! ### the operations by worth -/
structure Ops (T : Nat → Option Fd) (F fpl fls ftm ford fadd fmin fprod fcmp fat fdot flook fnum fwh : Nat) : Prop where
  F : 6000 ≤ F
  pl : T fpl = some ⟨2, 2, cOp flook fadd⟩
  ls : T fls = some ⟨2, 2, cLess flook fadd fmin⟩
  tm : T ftm = some ⟨2, 2, cOp flook fprod⟩
  ord : T ford = some ⟨2, 2, cOp flook fcmp⟩
  add : T fadd = some ⟨2, 3, cAdded fat fdot⟩
  min : T fmin = some ⟨1, 1, cMinus⟩
  prod : T fprod = some ⟨2, 2, cProduct fdot⟩
  cmp : T fcmp = some ⟨2, 5, cCompared fat⟩
  at_ : T fat = some ⟨2, 2, cAt⟩
  dot : T fdot = some ⟨2, 3, cDot⟩
  look : T flook = some ⟨1, 2, cLook fnum⟩
  num : T fnum = some ⟨1, 1, cIsNumber fwh⟩
  wh : T fwh = some ⟨1, 1, cIsWhole⟩
theorem nm_mul (V W : Int) : NM (NM V * NM W) = NM (V * W) ∧ ∀ B C : Int, 0 ≤ B → 0 ≤ C → NE (NM V * NM W) (NE V (-B) + NE W (-C)) = NE (V * W) (-(B + C)) := by
  by_cases h1 : V = 0
  · subst h1; simp only [nm0, Int.zero_mul, ne0]; exact ⟨trivial, fun _ _ _ _ => trivial⟩
  · by_cases h2 : W = 0
    · subst h2; simp only [nm0, Int.mul_zero, ne0]; exact ⟨trivial, fun _ _ _ _ => trivial⟩
    · obtain ⟨a1, a2⟩ := nm_spec h1
      obtain ⟨b1, b2⟩ := nm_spec h2
      have o : (NM V * NM W) % 2 = 1 := by rw [Int.mul_emod, a1, b1]; rfl
      obtain ⟨c1, c2⟩ := nm_odd o
      have e : V * W = (NM V * NM W) * 2 ^ (v2 V + v2 W) := by
        have : V * W = (NM V * 2 ^ v2 V) * (NM W * 2 ^ v2 W) := by rw [← a2, ← b2]
        rw [this, Int.pow_add, Int.mul_assoc, Int.mul_assoc]
        congr 1
        rw [← Int.mul_assoc, Int.mul_comm (2 ^ v2 V) (NM W), Int.mul_assoc]
      obtain ⟨d0, d1, d2⟩ := nm_of o e
      refine ⟨c1.trans d1.symm, fun B C _ _ => ?_⟩
      rw [c2, d2]
      unfold NE
      rw [if_neg h1, if_neg h2]
      omega
section
variable {fpl fls ftm ford fadd fmin fprod fcmp fat fdot flook fnum fwh : Nat} (O : Ops T F fpl fls ftm ford fadd fmin fprod fcmp fat fdot flook fnum fwh)
include O
theorem o_added {B V W : Int} {b : Nat} (hB0 : 0 ≤ B) (hB : B ≤ 5000) (hb : b ≤ 4990) (hV : V.natAbs < 2 ^ b) (hW : W.natAbs < 2 ^ b) : dropR (run T F (k + 2) fadd [.val (num B V), .val (num B W)]) = .ok (num B (V + W)) [] := by
  have h := sp_added' (k := k) O.add O.at_ O.dot O.F (m := NM V) (p := NE V (-B)) (n := NM W) (q := NE W (-B)) hB hb (ne_lo hB0) (ne_lo hB0) (by have := ne_hi hB0 hV; omega) (by have := ne_hi hB0 hW; omega) (nm_bound hV) (nm_bound hW)
    (by rw [at_num hB0]; exact hV) (by rw [at_num hB0]; exact hW)
  rw [at_num hB0, at_num hB0] at h
  exact h
theorem o_plus {B V W : Int} {b : Nat} (hB0 : 0 ≤ B) (hB : B ≤ 5000) (hb : b ≤ 4990) (hV : V.natAbs < 2 ^ b) (hW : W.natAbs < 2 ^ b) : dropR (run T F (k + 4) fpl [.val (num B V), .val (num B W)]) = .ok (num B (V + W)) [] :=
  sp_op O.pl O.look O.num O.wh (okN_num _ _) (okN_num _ _) (isN_num _ _) (isN_num _ _) (o_added O (k := k + 1) hB0 hB hb hV hW)
theorem nm_neg (W : Int) : 0 - NM W = NM (-W) ∧ ∀ e, NE (-W) e = NE W e := by
  by_cases h : W = 0
  · subst h; exact ⟨rfl, fun _ => rfl⟩
  · obtain ⟨a1, a2⟩ := nm_spec h
    have e : -W = (0 - NM W) * 2 ^ v2 W := by rw [Int.zero_sub, Int.neg_mul, ← a2]
    obtain ⟨d0, d1, d2⟩ := nm_of (q := 0 - NM W) (by omega) e
    refine ⟨d1.symm, fun x => ?_⟩
    rw [d2]
    unfold NE
    rw [if_neg h]
theorem o_minus {B W : Int} : dropR (run T F (k + 1) fmin [.val (num B W)]) = .ok (num B (-W)) [] := by
  have h : dropR (run T F (k + 1) fmin [.val (.tup [.int (NM W), .int (NE W (-B))])]) = _ := sp_minus O.min
  obtain ⟨a, b⟩ := nm_neg O W
  rw [a, ← b (-B)] at h
  unfold num
  rw [b (-B)] at h ⊢
  exact h
theorem o_less {B V W : Int} {b : Nat} (hB0 : 0 ≤ B) (hB : B ≤ 5000) (hb : b ≤ 4990) (hV : V.natAbs < 2 ^ b) (hW : W.natAbs < 2 ^ b) : dropR (run T F (k + 4) fls [.val (num B V), .val (num B W)]) = .ok (num B (V - W)) [] := by
  have a : dropR (run T F (k + 3) flook [.val (.tup [num B V, num B W])]) = .ok .non [] := sp_look O.look O.num O.wh (okN_num _ _) (okN_num _ _) (isN_num _ _) (isN_num _ _)
  have b : dropR (run T F (k + 3) fmin [.val (num B W)]) = _ := o_minus O
  have c : dropR (run T F (k + 3) fadd [.val (num B V), .val (num B (-W))]) = _ := o_added O (k := k + 1) hB0 hB hb hV (show (-W).natAbs < 2 ^ _ by rw [Int.natAbs_neg]; exact hW)
  rw [rnT O.ls]
  simp only [getS_0, getS_s, ev_var, rdS_val, rdS_own, ev_cst, of_some, of_some', ev_bin, kBin_ok, kBin_ok', ev_cmp, kCmp_ok, kCmp_ok', kCmpR_some, ev_chn, kChn_ok, kChn_ok', kChn2_some, ev_and, kAnd_ok, ev_or, kOr_ok, ev_not, kNot_ok, ev_neg, kNeg_ok, ev_ite, kIteE_ok, es_nil, es_cons, kEs_ok, kEs_ok', ev_tup, ev_lst, kTup_ok, kLst_ok, ev_prim, kPrim_ok, ev_mix, kMix_ok, kMix_ok', kMix2_ok, as_nil, as_val, kAs_ok, kAs_ok', as_own, kOwn_ok, kOwn_ok', kOwn2_ok, as_tmp, kTmp_ok, ev_call, kCall_val, kCall_own, kV_ok, kV_exc, kCallR_ok, ev_callk, kCk_ok, kCk_ok', ev_comp, it_val, it_rng1, it_rng2, kI_ok, kI1_ok, kI2_ok, kI2_ok', ex_skip, ex_brk, ex_cnt, ex_seq, kSeq_nx, kSeq_rt, kSeq_bk, kSeq_ct, kSeq_exc, ex_asg, kAsg_ok, srof, put_eq, kPut_t, free_non, free_val, free_own, bind_name, bind_tup, bind_lst, all_nil, all_cons, kAll_some, ex_new, kNew_ok, ex_app, kApp_ok, kApp_ok', kApp2_ok, ex_put, kSto_ok, kSto1_ok, kSto2_ok, kSto3_0, ex_exp, kExp_ok, ex_ret, kRet_ok, ex_ite, kIte_ok, ex_for, kFor_ok, ex_whl, fin_nx, fin_rt, bn_add, bn_sub, bn_cat, bn_rep2, cp_lt, cp_le, cp_gt, cp_ge, cp_eq, cp_is, cp_nis, cp_ne, kNe_some, av_val, av_tmp, av_own, avO_own, pm_eq, pg_nil, pg_inl, pg_inr, pd_nil, pd_inl, pd_inr, gd_0, gd_s, nw_nil, nw_val, nw_tmp, nw_own, no_nil, no_val, no_tmp, no_own, lt_nil, lt_inl, lt_inr, lentK_t, lentK_f, io_own, io_val, io_tmp, io_none, bk_nil, bk_cons, b1_none, b1_some, backO_own, at_0, at_1, at_2, at_3, at_4, pr_idx_t, pr_idx_l, pr_idx_f, pr_len_t, pr_len_l, pr_len_f, pr_int, pr_int_t, pr_int_f, pr_abs, pr_min, pr_max, dr_ok, eq_int, eq_bl, List.cons_append, List.nil_append, List.append_nil, List.append_assoc, List.length_cons, List.length_nil, List.set_cons_zero, List.set_cons_succ, List.take_succ_cons, List.take_zero, List.take_nil, List.replicate_succ, List.replicate_zero, List.map_cons, List.map_nil, List.getElem?_cons_zero, List.getElem?_cons_succ, is0_non, is0_bl, is0_int, is0_str, is0_tup, is0_lst, is1_non, is1_bl, is1_int, is1_str, is1_tup, is1_lst, is2_non, is2_bl, is2_int, is2_str, is2_tup, is2_lst, is3_non, is3_bl, is3_int, is3_str, is3_tup, is3_lst, is4_non, is4_bl, is4_int, is4_str, is4_tup, is4_lst, ev_make, kMake_ok, kMk_ok, pr_fld0, pr_fld1, pr_fld2, pr_isc, pr_drop1, yes_eq, co_nil, co_cons, kCo1_ok, kCo2_ok, kCo3_ok, kCo4_ok, ev_comp2, kC2_ok, kC2e_ok, ns_non, clr_eq', kClr_t, iv_non, iv_val, cl_nil, cl_cons, kCl_b, kCl2_ok, kCl3_some, kComp_ok2, kCm_ok, pr_int_b, it_rng3, kI3_ok, kI3_ok', cp_in, cp_nin, isn_non, isn_tup, forL_nil, forL_cons, kFl_ok, kFb_nx, kFb_ct, kFb_bk, kFb_rt, sq_t, sq_l, kWhl_ok, kWb_nx, kWb_ct, kWb_bk, kWb_rt, lineN, cond_true, cond_false, Bool.cond_decide, Bool.not_true, Bool.not_false, Bool.and_true, Bool.true_and, Bool.and_false, Bool.false_and, Nat.zero_add, beq_self_eq_true, decide_true, decide_false, if_true, if_false, Bool.true_eq_false, Bool.false_eq_true, reduceIte, Nat.reduceAdd, Nat.reduceSub, Nat.reduceMul, Nat.reduceLeDiff, Nat.reduceBEq, Nat.reduceEqDiff, Int.reduceToNat, Int.reduceNeg, Nat.reduceLT, Nat.sub_self, u_cLess, a, b, c, Int.sub_eq_add_neg]
theorem o_product {B C V W : Int} {a b : Nat} (hB0 : 0 ≤ B) (hC0 : 0 ≤ C) (hV : (NM V).natAbs < 2 ^ a) (hW : (NM W).natAbs < 2 ^ b) (hab : a + b ≤ 5000) : dropR (run T F (k + 2) fprod [.val (num B V), .val (num C W)]) = .ok (num (B + C) (V * W)) [] := by
  have h : dropR (run T F (k + 2) fprod [.val (num B V), .val (num C W)]) = _ := sp_product O.prod O.dot O.F hV hW hab
  obtain ⟨e1, e2⟩ := nm_mul V W
  rw [e1, e2 B C hB0 hC0] at h
  exact h
theorem o_times {B C V W : Int} {a b : Nat} (hB0 : 0 ≤ B) (hC0 : 0 ≤ C) (hV : (NM V).natAbs < 2 ^ a) (hW : (NM W).natAbs < 2 ^ b) (hab : a + b ≤ 5000) : dropR (run T F (k + 4) ftm [.val (num B V), .val (num C W)]) = .ok (num (B + C) (V * W)) [] :=
  sp_op O.tm O.look O.num O.wh (okN_num _ _) (okN_num _ _) (isN_num _ _) (isN_num _ _) (o_product O (k := k + 1) hB0 hC0 hV hW hab)
theorem o_compared {B V W : Int} {b : Nat} (hB0 : 0 ≤ B) (hB : B ≤ 5000) (hb : b ≤ 100000 - 5000) (hV : V.natAbs < 2 ^ b) (hW : W.natAbs < 2 ^ b) : dropR (run T F (k + 2) fcmp [.val (num B V), .val (num B W)]) = .ok (.int (CM V W)) [] := by
  have h := sp_compared' (k := k) (F := F) (.inl O.cmp) O.at_ (m := NM V) (p := NE V (-B)) (n := NM W) (q := NE W (-B)) (b := b) hB (by omega) (ne_lo hB0) (ne_lo hB0) (by have := ne_hi hB0 hV; omega) (by have := ne_hi hB0 hW; omega) (nm_bound hV) (nm_bound hW)
  rw [at_num hB0, at_num hB0] at h
  exact h
theorem o_order {B V W : Int} {b : Nat} (hB0 : 0 ≤ B) (hB : B ≤ 5000) (hb : b ≤ 100000 - 5000) (hV : V.natAbs < 2 ^ b) (hW : W.natAbs < 2 ^ b) : dropR (run T F (k + 4) ford [.val (num B V), .val (num B W)]) = .ok (.int (CM V W)) [] :=
  sp_op O.ord O.look O.num O.wh (okN_num _ _) (okN_num _ _) (isN_num _ _) (isN_num _ _) (o_compared O (k := k + 1) hB0 hB hb hV hW)
theorem o_isnum {B V : Int} : dropR (run T F (k + 2) fnum [.val (num B V)]) = .ok (.bl true) [] := by
  have h : dropR (run T F (k + 2) fnum [.val (num B V)]) = _ := sp_is_number O.num O.wh (okN_num _ _)
  rw [isN_num] at h
  exact h
end
theorem nm_mul_bound {V W : Int} {a b : Nat} (hV : (NM V).natAbs < 2 ^ a) (hW : (NM W).natAbs < 2 ^ b) : (NM (V * W)).natAbs < 2 ^ (a + b) := by
  rw [← (nm_mul V W).1]
  exact nm_bound (mul_lt hV hW)
/-- the same number, the same worth -/
theorem num_inj {B V W : Int} (hB : 0 ≤ B) (h : num B V = num B W) : V = W := by
  unfold num at h
  injection h with h
  injection h with h1 h
  injection h with h2 _
  injection h1 with h1
  injection h2 with h2
  have e1 := at_num (V := V) hB
  have e2 := at_num (V := W) hB
  rw [← e1, h1, h2, e2]
theorem eq_num_self {B V : Int} : eqD (num B V) (num B V) = some true := by
  unfold num
  rw [eq_pair]
  simp
theorem eq_num {B V W : Int} (hB : 0 ≤ B) : eqD (num B V) (num B W) = some (decide (V = W)) := by
  by_cases h : V = W
  · subst h
    rw [eq_num_self, decide_eq_true rfl]
  · rw [decide_eq_false h]
    unfold num
    rw [eq_pair]
    congr 1
    rw [Bool.and_eq_false_iff]
    by_cases h1 : NM V = NM W
    · right
      rw [beq_eq_false_iff_ne]
      intro h2
      exact h (num_inj hB (by unfold num; rw [h1, h2]))
    · left
      rw [beq_eq_false_iff_ne]
      exact h1
/-! ### signs -/
theorem cm_eq (a b : Int) : CM a b = if b < a then 1 else if a < b then -1 else 0 := by
  unfold CM
  by_cases h1 : b < a
  · have h2 : ¬ a < b := by omega
    simp [h1, h2]
  · by_cases h2 : a < b <;> simp [h1, h2]
theorem cm_sub (a b : Int) : CM (a - b) 0 = CM a b := by
  rw [cm_eq, cm_eq]
  split <;> split <;> (try split) <;> (try split) <;> omega
theorem cm_add (a b c : Int) : CM (a + c) (b + c) = CM a b := by
  rw [cm_eq, cm_eq]
  split <;> split <;> (try split) <;> (try split) <;> omega
theorem cm_nm (V : Int) : CM (NM V) 0 = CM V 0 := by
  by_cases h : V = 0
  · subst h; rfl
  · obtain ⟨_, h2⟩ := nm_spec h
    have e : CM V 0 = CM (NM V * 2 ^ v2 V) (0 * 2 ^ v2 V) := by rw [← h2, Int.zero_mul]
    rw [e, cm_scale]
theorem cm_mul (a b c : Int) : CM (a * c) (b * c) = CM a b * CM c 0 := by
  rcases Int.lt_trichotomy c 0 with h | h | h
  · have e1 : (b * c < a * c) = (a < b) := propext ⟨fun q => by
      have := Int.mul_lt_mul_of_neg_right (a := b) (b := a) (c := c)
      by_cases hh : a < b
      · exact hh
      · have : a * c ≤ b * c := Int.mul_le_mul_of_nonpos_right (by omega) (by omega)
        omega, fun q => Int.mul_lt_mul_of_neg_right q h⟩
    have e2 : (a * c < b * c) = (b < a) := propext ⟨fun q => by
      by_cases hh : b < a
      · exact hh
      · have : b * c ≤ a * c := Int.mul_le_mul_of_nonpos_right (by omega) (by omega)
        omega, fun q => Int.mul_lt_mul_of_neg_right q h⟩
    have e3 : CM c 0 = -1 := by rw [cm_eq, if_neg (by omega), if_pos h]
    rw [e3, cm_eq, cm_eq]
    simp only [e1, e2]
    split <;> (try split) <;> omega
  · subst h
    rw [Int.mul_zero, Int.mul_zero]
    have : CM 0 0 = 0 := rfl
    rw [this, Int.mul_zero]
  · have e1 : (b * c < a * c) = (b < a) := propext (Int.mul_lt_mul_right h)
    have e2 : (a * c < b * c) = (a < b) := propext (Int.mul_lt_mul_right h)
    have e3 : CM c 0 = 1 := by rw [cm_eq, if_pos h]
    rw [e3, Int.mul_one, cm_eq, cm_eq]
    simp only [e1, e2]
end Rf

set_option Elab.async false
set_option linter.all false
set_option maxRecDepth 100000
set_option maxHeartbeats 2000000
namespace Q16
open PySem PySem.Spec PyProof.Rows L2 Rf
def topS (i : Nat) : Stmt := PySem.Challenge.pw_oncenear_k16_sums_and_products_of_stretc.main.body.getD i (.Pass ⟨0, 0, 0, 0⟩)
/-! ### the cores -/
/-- _law_take -/
def b0 : Rf.St := (.seq (.asg (.name 2) (.bin .mod (.mix 0 (.cst (.int (0)))) (.var 1))) (.seq (.put 0 (.cst (.int (0))) (.bin .fdv (.mix 0 (.cst (.int (0)))) (.var 1))) (.seq (.ret (.var 2)) .skip)))
theorem u_b0 {C : Rf.Cx} {r : List S} : exS C b0 r = exS C (.seq (.asg (.name 2) (.bin .mod (.mix 0 (.cst (.int (0)))) (.var 1))) (.seq (.put 0 (.cst (.int (0))) (.bin .fdv (.mix 0 (.cst (.int (0)))) (.var 1))) (.seq (.ret (.var 2)) .skip))) r := byRfl rfl
def b1l0 : Rf.St := (.seq (.asg (.name 0) (.bin .fdv (.var 0) (.cst (.int (2))))) (.seq (.asg (.name 1) (.bin .add (.var 1) (.cst (.int (1))))) .skip))
theorem u_b1l0 {C : Rf.Cx} {r : List S} : exS C b1l0 r = exS C (.seq (.asg (.name 0) (.bin .fdv (.var 0) (.cst (.int (2))))) (.seq (.asg (.name 1) (.bin .add (.var 1) (.cst (.int (1))))) .skip)) r := byRfl rfl
def c1l0 : Rf.E := (.cmp .eq (.bin .mod (.var 0) (.cst (.int (2)))) (.cst (.int (0))))
theorem u_c1l0 {C : Rf.Cx} {r : List S} : evE C c1l0 r = evE C (.cmp .eq (.bin .mod (.var 0) (.cst (.int (2)))) (.cst (.int (0)))) r := byRfl rfl
/-- _law_odd -/
def b1 : Rf.St := (.seq (.ite (.cmp .eq (.var 0) (.cst (.int (0)))) (.seq (.ret (.tup (.cons (.cst (.int (0))) (.cons (.cst (.int (0))) .nil)))) .skip) .skip) (.seq (.whl c1l0 b1l0) (.seq (.ret (.tup (.cons (.var 0) (.cons (.var 1) .nil)))) .skip)))
theorem u_b1 {C : Rf.Cx} {r : List S} : exS C b1 r = exS C (.seq (.ite (.cmp .eq (.var 0) (.cst (.int (0)))) (.seq (.ret (.tup (.cons (.cst (.int (0))) (.cons (.cst (.int (0))) .nil)))) .skip) .skip) (.seq (.whl c1l0 b1l0) (.seq (.ret (.tup (.cons (.var 0) (.cons (.var 1) .nil)))) .skip))) r := byRfl rfl
/-- _law_number -/
def b2 : Rf.St := (.seq (.asg (.name 1) (.call 0 [.inl 0, .inl 1] (.own 0 (.val (.cst (.int (5))) .nil)))) (.seq (.asg (.name 2) (.prim .idx (.cons (.lst (.cons (.cst (.int (8))) (.cons (.cst (.int (64))) (.cons (.bin .pow (.cst (.int (2))) (.cst (.int (20)))) (.cons (.bin .pow (.cst (.int (2))) (.cst (.int (60)))) (.cons (.bin .shl (.cst (.int (1))) (.cst (.int (200)))) .nil)))))) (.cons (.var 1) .nil)))) (.seq (.asg (.name 3) (.prim .idx (.cons (.lst (.cons (.cst (.int (3))) (.cons (.cst (.int (9))) (.cons (.cst (.int (30))) (.cons (.cst (.int (100))) (.cons (.cst (.int (800))) .nil)))))) (.cons (.var 1) .nil)))) (.seq (.asg (.name 4) (.bin .add (.bin .sub (.call 0 [.inl 0, .inl 1] (.own 0 (.val (.bin .mul (.cst (.int (2))) (.var 2)) .nil))) (.var 2)) (.cst (.int (1))))) (.seq (.ret (.call 1 [.inl 0, .inl 1] (.val (.var 4) (.val (.bin .sub (.call 0 [.inl 0, .inl 1] (.own 0 (.val (.bin .sub (.bin .mul (.cst (.int (2))) (.var 3)) (.bin .mul (.cst (.int (200))) (.prim .int (.cons (.cmp .eq (.var 1) (.cst (.int (4)))) .nil)))) .nil))) (.var 3)) .nil)))) .skip)))))
theorem u_b2 {C : Rf.Cx} {r : List S} : exS C b2 r = exS C (.seq (.asg (.name 1) (.call 0 [.inl 0, .inl 1] (.own 0 (.val (.cst (.int (5))) .nil)))) (.seq (.asg (.name 2) (.prim .idx (.cons (.lst (.cons (.cst (.int (8))) (.cons (.cst (.int (64))) (.cons (.bin .pow (.cst (.int (2))) (.cst (.int (20)))) (.cons (.bin .pow (.cst (.int (2))) (.cst (.int (60)))) (.cons (.bin .shl (.cst (.int (1))) (.cst (.int (200)))) .nil)))))) (.cons (.var 1) .nil)))) (.seq (.asg (.name 3) (.prim .idx (.cons (.lst (.cons (.cst (.int (3))) (.cons (.cst (.int (9))) (.cons (.cst (.int (30))) (.cons (.cst (.int (100))) (.cons (.cst (.int (800))) .nil)))))) (.cons (.var 1) .nil)))) (.seq (.asg (.name 4) (.bin .add (.bin .sub (.call 0 [.inl 0, .inl 1] (.own 0 (.val (.bin .mul (.cst (.int (2))) (.var 2)) .nil))) (.var 2)) (.cst (.int (1))))) (.seq (.ret (.call 1 [.inl 0, .inl 1] (.val (.var 4) (.val (.bin .sub (.call 0 [.inl 0, .inl 1] (.own 0 (.val (.bin .sub (.bin .mul (.cst (.int (2))) (.var 3)) (.bin .mul (.cst (.int (200))) (.prim .int (.cons (.cmp .eq (.var 1) (.cst (.int (4)))) .nil)))) .nil))) (.var 3)) .nil)))) .skip))))) r := byRfl rfl
/-- _law_at -/
def b3 : Rf.St := (.seq (.ret (.bin .shl (.prim .idx (.cons (.var 0) (.cons (.cst (.int (0))) .nil))) (.bin .sub (.prim .idx (.cons (.var 0) (.cons (.cst (.int (1))) .nil))) (.var 1)))) .skip)
theorem u_b3 {C : Rf.Cx} {r : List S} : exS C b3 r = exS C (.seq (.ret (.bin .shl (.prim .idx (.cons (.var 0) (.cons (.cst (.int (0))) .nil))) (.bin .sub (.prim .idx (.cons (.var 0) (.cons (.cst (.int (1))) .nil))) (.var 1)))) .skip) r := byRfl rfl
/-- _law_compared -/
def b4 : Rf.St := (.seq (.asg (.name 2) (.prim .min2 (.cons (.prim .idx (.cons (.var 0) (.cons (.cst (.int (1))) .nil))) (.cons (.prim .idx (.cons (.var 1) (.cons (.cst (.int (1))) .nil))) .nil)))) (.seq (.asg (.name 3) (.call 3 [.inl 0, .inl 1] (.val (.var 0) (.val (.var 2) .nil)))) (.seq (.asg (.name 4) (.call 3 [.inl 0, .inl 1] (.val (.var 1) (.val (.var 2) .nil)))) (.seq (.ret (.bin .sub (.prim .int (.cons (.cmp .gt (.var 3) (.var 4)) .nil)) (.prim .int (.cons (.cmp .lt (.var 3) (.var 4)) .nil)))) .skip))))
theorem u_b4 {C : Rf.Cx} {r : List S} : exS C b4 r = exS C (.seq (.asg (.name 2) (.prim .min2 (.cons (.prim .idx (.cons (.var 0) (.cons (.cst (.int (1))) .nil))) (.cons (.prim .idx (.cons (.var 1) (.cons (.cst (.int (1))) .nil))) .nil)))) (.seq (.asg (.name 3) (.call 3 [.inl 0, .inl 1] (.val (.var 0) (.val (.var 2) .nil)))) (.seq (.asg (.name 4) (.call 3 [.inl 0, .inl 1] (.val (.var 1) (.val (.var 2) .nil)))) (.seq (.ret (.bin .sub (.prim .int (.cons (.cmp .gt (.var 3) (.var 4)) .nil)) (.prim .int (.cons (.cmp .lt (.var 3) (.var 4)) .nil)))) .skip)))) r := byRfl rfl
/-- _law_pair -/
def b5 : Rf.St := (.seq (.asg (.name 1) (.call 2 [.inl 0] (.own 0 .nil))) (.seq (.asg (.name 2) (.call 2 [.inl 0] (.own 0 .nil))) (.seq (.ite (.and (.cmp .eq (.call 0 [.inl 0, .inl 1] (.own 0 (.val (.cst (.int (3))) .nil))) (.cst (.int (0)))) (.cmp .gt (.prim .idx (.cons (.var 1) (.cons (.cst (.int (1))) .nil))) (.bin .sub (.cst (.int (0))) (.cst (.int (797)))))) (.seq (.asg (.name 2) (.call 1 [.inl 0, .inl 1] (.val (.bin .add (.bin .mul (.prim .idx (.cons (.var 1) (.cons (.cst (.int (0))) .nil))) (.cst (.int (8)))) (.call 0 [.inl 0, .inl 1] (.own 0 (.val (.cst (.int (9))) .nil)))) (.val (.bin .sub (.prim .idx (.cons (.var 1) (.cons (.cst (.int (1))) .nil))) (.cst (.int (3)))) .nil)))) .skip) .skip) (.seq (.ite (.cmp .gt (.call 4 [.inl 0, .inl 1] (.val (.var 1) (.val (.var 2) .nil))) (.cst (.int (0)))) (.seq (.ret (.tup (.cons (.var 2) (.cons (.var 1) .nil)))) .skip) .skip) (.seq (.ret (.tup (.cons (.var 1) (.cons (.var 2) .nil)))) .skip)))))
theorem u_b5 {C : Rf.Cx} {r : List S} : exS C b5 r = exS C (.seq (.asg (.name 1) (.call 2 [.inl 0] (.own 0 .nil))) (.seq (.asg (.name 2) (.call 2 [.inl 0] (.own 0 .nil))) (.seq (.ite (.and (.cmp .eq (.call 0 [.inl 0, .inl 1] (.own 0 (.val (.cst (.int (3))) .nil))) (.cst (.int (0)))) (.cmp .gt (.prim .idx (.cons (.var 1) (.cons (.cst (.int (1))) .nil))) (.bin .sub (.cst (.int (0))) (.cst (.int (797)))))) (.seq (.asg (.name 2) (.call 1 [.inl 0, .inl 1] (.val (.bin .add (.bin .mul (.prim .idx (.cons (.var 1) (.cons (.cst (.int (0))) .nil))) (.cst (.int (8)))) (.call 0 [.inl 0, .inl 1] (.own 0 (.val (.cst (.int (9))) .nil)))) (.val (.bin .sub (.prim .idx (.cons (.var 1) (.cons (.cst (.int (1))) .nil))) (.cst (.int (3)))) .nil)))) .skip) .skip) (.seq (.ite (.cmp .gt (.call 4 [.inl 0, .inl 1] (.val (.var 1) (.val (.var 2) .nil))) (.cst (.int (0)))) (.seq (.ret (.tup (.cons (.var 2) (.cons (.var 1) .nil)))) .skip) .skip) (.seq (.ret (.tup (.cons (.var 1) (.cons (.var 2) .nil)))) .skip))))) r := byRfl rfl
/-- _law_mixed -/
def b6 : Rf.St := (.seq (.asg (.name 2) (.bin .mod (.bin .add (.bin .add (.bin .mul (.bin .mod (.var 0) (.cst (.int (2147483647)))) (.cst (.int (48271)))) (.bin .mul (.var 1) (.cst (.int (69621))))) (.cst (.int (1048583)))) (.cst (.int (2147483629))))) (.seq (.asg (.name 2) (.bin .mod (.bin .mul (.var 2) (.var 2)) (.cst (.int (2147483587))))) (.seq (.ret (.bin .mod (.bin .mul (.var 2) (.bin .add (.var 2) (.cst (.int (2))))) (.cst (.int (2147483579))))) .skip)))
theorem u_b6 {C : Rf.Cx} {r : List S} : exS C b6 r = exS C (.seq (.asg (.name 2) (.bin .mod (.bin .add (.bin .add (.bin .mul (.bin .mod (.var 0) (.cst (.int (2147483647)))) (.cst (.int (48271)))) (.bin .mul (.var 1) (.cst (.int (69621))))) (.cst (.int (1048583)))) (.cst (.int (2147483629))))) (.seq (.asg (.name 2) (.bin .mod (.bin .mul (.var 2) (.var 2)) (.cst (.int (2147483587))))) (.seq (.ret (.bin .mod (.bin .mul (.var 2) (.bin .add (.var 2) (.cst (.int (2))))) (.cst (.int (2147483579))))) .skip))) r := byRfl rfl
def b7l0 : Rf.St := (.seq (.asg (.name 3) (.bin .add (.bin .mul (.var 3) (.cst (.int (2147483579)))) (.call 6 [.inl 0, .inl 1] (.val (.var 2) (.val (.bin .add (.bin .add (.bin .mul (.cst (.int (7))) (.var 1)) (.bin .mul (.cst (.int (100))) (.var 4))) (.bin .mul (.var 4) (.var 4))) .nil))))) .skip)
theorem u_b7l0 {C : Rf.Cx} {r : List S} : exS C b7l0 r = exS C (.seq (.asg (.name 3) (.bin .add (.bin .mul (.var 3) (.cst (.int (2147483579)))) (.call 6 [.inl 0, .inl 1] (.val (.var 2) (.val (.bin .add (.bin .add (.bin .mul (.cst (.int (7))) (.var 1)) (.bin .mul (.cst (.int (100))) (.var 4))) (.bin .mul (.var 4) (.var 4))) .nil))))) .skip) r := byRfl rfl
/-- _law_cell -/
def b7 : Rf.St := (.seq (.asg (.name 2) (.cst (.int (0)))) (.seq (.ite (.cmp .lt (.var 1) (.prim .len (.cons (.var 0) .nil))) (.seq (.asg (.name 2) (.prim .idx (.cons (.var 0) (.cons (.var 1) .nil)))) .skip) .skip) (.seq (.ite (.cmp .ge (.var 2) (.bin .pow (.cst (.int (10))) (.cst (.int (18))))) (.seq (.ret (.bin .mod (.bin .sub (.var 2) (.bin .pow (.cst (.int (10))) (.cst (.int (18))))) (.bin .mul (.bin .mul (.bin .mul (.bin .pow (.cst (.int (10))) (.cst (.int (60)))) (.bin .pow (.cst (.int (10))) (.cst (.int (60))))) (.bin .pow (.cst (.int (10))) (.cst (.int (60))))) (.bin .pow (.cst (.int (10))) (.cst (.int (60))))))) .skip) .skip) (.seq (.asg (.name 3) (.cst (.int (0)))) (.seq (.for (.name 4) (.rng1 (.cst (.int (24)))) b7l0) (.seq (.ret (.var 3)) .skip))))))
theorem u_b7 {C : Rf.Cx} {r : List S} : exS C b7 r = exS C (.seq (.asg (.name 2) (.cst (.int (0)))) (.seq (.ite (.cmp .lt (.var 1) (.prim .len (.cons (.var 0) .nil))) (.seq (.asg (.name 2) (.prim .idx (.cons (.var 0) (.cons (.var 1) .nil)))) .skip) .skip) (.seq (.ite (.cmp .ge (.var 2) (.bin .pow (.cst (.int (10))) (.cst (.int (18))))) (.seq (.ret (.bin .mod (.bin .sub (.var 2) (.bin .pow (.cst (.int (10))) (.cst (.int (18))))) (.bin .mul (.bin .mul (.bin .mul (.bin .pow (.cst (.int (10))) (.cst (.int (60)))) (.bin .pow (.cst (.int (10))) (.cst (.int (60))))) (.bin .pow (.cst (.int (10))) (.cst (.int (60))))) (.bin .pow (.cst (.int (10))) (.cst (.int (60))))))) .skip) .skip) (.seq (.asg (.name 3) (.cst (.int (0)))) (.seq (.for (.name 4) (.rng1 (.cst (.int (24)))) b7l0) (.seq (.ret (.var 3)) .skip)))))) r := byRfl rfl
/-- at_power -/
def b8 : Rf.St := (.seq (.ret (.bin .shl (.prim .idx (.cons (.var 0) (.cons (.cst (.int (0))) .nil))) (.bin .sub (.prim .idx (.cons (.var 0) (.cons (.cst (.int (1))) .nil))) (.var 1)))) .skip)
theorem u_b8 {C : Rf.Cx} {r : List S} : exS C b8 r = exS C (.seq (.ret (.bin .shl (.prim .idx (.cons (.var 0) (.cons (.cst (.int (0))) .nil))) (.bin .sub (.prim .idx (.cons (.var 0) (.cons (.cst (.int (1))) .nil))) (.var 1)))) .skip) r := byRfl rfl
/-- compared -/
def b9 : Rf.St := (.seq (.asg (.name 2) (.prim .min2 (.cons (.prim .idx (.cons (.var 0) (.cons (.cst (.int (1))) .nil))) (.cons (.prim .idx (.cons (.var 1) (.cons (.cst (.int (1))) .nil))) .nil)))) (.seq (.asg (.tup [3, 4]) (.tup (.cons (.call 8 [.inl 0, .inl 1] (.val (.var 0) (.val (.var 2) .nil))) (.cons (.call 8 [.inl 0, .inl 1] (.val (.var 1) (.val (.var 2) .nil))) .nil)))) (.seq (.ret (.bin .sub (.prim .int (.cons (.cmp .gt (.var 3) (.var 4)) .nil)) (.prim .int (.cons (.cmp .lt (.var 3) (.var 4)) .nil)))) .skip)))
theorem u_b9 {C : Rf.Cx} {r : List S} : exS C b9 r = exS C (.seq (.asg (.name 2) (.prim .min2 (.cons (.prim .idx (.cons (.var 0) (.cons (.cst (.int (1))) .nil))) (.cons (.prim .idx (.cons (.var 1) (.cons (.cst (.int (1))) .nil))) .nil)))) (.seq (.asg (.tup [3, 4]) (.tup (.cons (.call 8 [.inl 0, .inl 1] (.val (.var 0) (.val (.var 2) .nil))) (.cons (.call 8 [.inl 0, .inl 1] (.val (.var 1) (.val (.var 2) .nil))) .nil)))) (.seq (.ret (.bin .sub (.prim .int (.cons (.cmp .gt (.var 3) (.var 4)) .nil)) (.prim .int (.cons (.cmp .lt (.var 3) (.var 4)) .nil)))) .skip))) r := byRfl rfl
/-- is_whole -/
def b10 : Rf.St := (.seq (.ret (.and (.prim (.isa 0) (.cons (.var 0) .nil)) (.not (.prim (.isa 1) (.cons (.var 0) .nil))))) .skip)
theorem u_b10 {C : Rf.Cx} {r : List S} : exS C b10 r = exS C (.seq (.ret (.and (.prim (.isa 0) (.cons (.var 0) .nil)) (.not (.prim (.isa 1) (.cons (.var 0) .nil))))) .skip) r := byRfl rfl
/-- is_number -/
def b11 : Rf.St := (.seq (.ite (.or (.not (.prim (.isa 2) (.cons (.var 0) .nil))) (.or (.cmp .ne (.prim .len (.cons (.var 0) .nil)) (.cst (.int (2)))) (.or (.not (.call 10 [.inl 0] (.val (.prim .idx (.cons (.var 0) (.cons (.cst (.int (0))) .nil))) .nil))) (.not (.call 10 [.inl 0] (.val (.prim .idx (.cons (.var 0) (.cons (.cst (.int (1))) .nil))) .nil)))))) (.seq (.ret (.cst (.bl false))) .skip) .skip) (.seq (.ret (.or (.cmp .eq (.var 0) (.cst (.tup [(.int (0)), (.int (0))]))) (.cmp .eq (.bin .mod (.prim .idx (.cons (.var 0) (.cons (.cst (.int (0))) .nil))) (.cst (.int (2)))) (.cst (.int (1)))))) .skip))
theorem u_b11 {C : Rf.Cx} {r : List S} : exS C b11 r = exS C (.seq (.ite (.or (.not (.prim (.isa 2) (.cons (.var 0) .nil))) (.or (.cmp .ne (.prim .len (.cons (.var 0) .nil)) (.cst (.int (2)))) (.or (.not (.call 10 [.inl 0] (.val (.prim .idx (.cons (.var 0) (.cons (.cst (.int (0))) .nil))) .nil))) (.not (.call 10 [.inl 0] (.val (.prim .idx (.cons (.var 0) (.cons (.cst (.int (1))) .nil))) .nil)))))) (.seq (.ret (.cst (.bl false))) .skip) .skip) (.seq (.ret (.or (.cmp .eq (.var 0) (.cst (.tup [(.int (0)), (.int (0))]))) (.cmp .eq (.bin .mod (.prim .idx (.cons (.var 0) (.cons (.cst (.int (0))) .nil))) (.cst (.int (2)))) (.cst (.int (1)))))) .skip)) r := byRfl rfl
/-- Stretch.__init__ -/
def b12 : Rf.St := (bInit [(.or (.not (.call 11 [.inl 0] (.val (.var 1) .nil))) (.not (.call 11 [.inl 0] (.val (.var 2) .nil)))), (.cmp .gt (.call 9 [.inl 0, .inl 1] (.val (.var 1) (.val (.var 2) .nil))) (.cst (.int (0))))])
theorem u_b12 {C : Rf.Cx} {r : List S} : exS C b12 r = exS C (bInit [(.or (.not (.call 11 [.inl 0] (.val (.var 1) .nil))) (.not (.call 11 [.inl 0] (.val (.var 2) .nil)))), (.cmp .gt (.call 9 [.inl 0, .inl 1] (.val (.var 1) (.val (.var 2) .nil))) (.cst (.int (0))))]) r := byRfl rfl
def b13l0 : Rf.St := (.seq (.ite (.cmp .lt (.call 4 [.inl 0, .inl 1] (.val (.var 3) (.val (.var 1) .nil))) (.cst (.int (0)))) (.seq (.asg (.name 1) (.var 3)) .skip) .skip) (.seq (.ite (.cmp .gt (.call 4 [.inl 0, .inl 1] (.val (.var 3) (.val (.var 2) .nil))) (.cst (.int (0)))) (.seq (.asg (.name 2) (.var 3)) .skip) .skip) .skip))
theorem u_b13l0 {C : Rf.Cx} {r : List S} : exS C b13l0 r = exS C (.seq (.ite (.cmp .lt (.call 4 [.inl 0, .inl 1] (.val (.var 3) (.val (.var 1) .nil))) (.cst (.int (0)))) (.seq (.asg (.name 1) (.var 3)) .skip) .skip) (.seq (.ite (.cmp .gt (.call 4 [.inl 0, .inl 1] (.val (.var 3) (.val (.var 2) .nil))) (.cst (.int (0)))) (.seq (.asg (.name 2) (.var 3)) .skip) .skip) .skip)) r := byRfl rfl
/-- _law_ends -/
def b13 : Rf.St := (.seq (.asg (.name 1) (.prim .idx (.cons (.var 0) (.cons (.cst (.int (0))) .nil)))) (.seq (.asg (.name 2) (.prim .idx (.cons (.var 0) (.cons (.cst (.int (0))) .nil)))) (.seq (.for (.name 3) (.val (.var 0)) b13l0) (.seq (.ret (.tup (.cons (.var 1) (.cons (.var 2) .nil)))) .skip))))
theorem u_b13 {C : Rf.Cx} {r : List S} : exS C b13 r = exS C (.seq (.asg (.name 1) (.prim .idx (.cons (.var 0) (.cons (.cst (.int (0))) .nil)))) (.seq (.asg (.name 2) (.prim .idx (.cons (.var 0) (.cons (.cst (.int (0))) .nil)))) (.seq (.for (.name 3) (.val (.var 0)) b13l0) (.seq (.ret (.tup (.cons (.var 1) (.cons (.var 2) .nil)))) .skip)))) r := byRfl rfl
/-- _law_sum -/
def b14 : Rf.St := (.seq (.asg (.name 3) (.prim .min2 (.cons (.prim .idx (.cons (.var 0) (.cons (.cst (.int (1))) .nil))) (.cons (.prim .idx (.cons (.var 1) (.cons (.cst (.int (1))) .nil))) .nil)))) (.seq (.ret (.call 1 [.inl 0, .inl 1] (.val (.bin .add (.call 3 [.inl 0, .inl 1] (.val (.var 0) (.val (.var 3) .nil))) (.bin .mul (.var 2) (.call 3 [.inl 0, .inl 1] (.val (.var 1) (.val (.var 3) .nil))))) (.val (.var 3) .nil)))) .skip))
theorem u_b14 {C : Rf.Cx} {r : List S} : exS C b14 r = exS C (.seq (.asg (.name 3) (.prim .min2 (.cons (.prim .idx (.cons (.var 0) (.cons (.cst (.int (1))) .nil))) (.cons (.prim .idx (.cons (.var 1) (.cons (.cst (.int (1))) .nil))) .nil)))) (.seq (.ret (.call 1 [.inl 0, .inl 1] (.val (.bin .add (.call 3 [.inl 0, .inl 1] (.val (.var 0) (.val (.var 3) .nil))) (.bin .mul (.var 2) (.call 3 [.inl 0, .inl 1] (.val (.var 1) (.val (.var 3) .nil))))) (.val (.var 3) .nil)))) .skip)) r := byRfl rfl
/-- look_at_stretch -/
def b15 : Rf.St := (.seq (.ite (.not (.prim (.isc 0) (.cons (.var 0) .nil))) (.seq .never .skip) .skip) .skip)
theorem u_b15 {C : Rf.Cx} {r : List S} : exS C b15 r = exS C (.seq (.ite (.not (.prim (.isc 0) (.cons (.var 0) .nil))) (.seq .never .skip) .skip) .skip) r := byRfl rfl
def b16l0 : Rf.St := (.seq (.asg (.name 0) (.bin .shr (.var 0) (.var 2))) (.seq (.asg (.name 1) (.bin .add (.var 1) (.var 2))) .skip))
theorem u_b16l0 {C : Rf.Cx} {r : List S} : exS C b16l0 r = exS C (.seq (.asg (.name 0) (.bin .shr (.var 0) (.var 2))) (.seq (.asg (.name 1) (.bin .add (.var 1) (.var 2))) .skip)) r := byRfl rfl
def c16l0 : Rf.E := (.cmp .eq (.bin .mod (.var 0) (.bin .shl (.cst (.int (1))) (.var 2))) (.cst (.int (0))))
theorem u_c16l0 {C : Rf.Cx} {r : List S} : evE C c16l0 r = evE C (.cmp .eq (.bin .mod (.var 0) (.bin .shl (.cst (.int (1))) (.var 2))) (.cst (.int (0)))) r := byRfl rfl
def b16l2 : Rf.St := (.seq (.whl c16l0 b16l0) (.seq (.asg (.name 2) (.bin .fdv (.var 2) (.cst (.int (2))))) .skip))
theorem u_b16l2 {C : Rf.Cx} {r : List S} : exS C b16l2 r = exS C (.seq (.whl c16l0 b16l0) (.seq (.asg (.name 2) (.bin .fdv (.var 2) (.cst (.int (2))))) .skip)) r := byRfl rfl
def c16l2 : Rf.E := (.cmp .gt (.var 2) (.cst (.int (0))))
theorem u_c16l2 {C : Rf.Cx} {r : List S} : evE C c16l2 r = evE C (.cmp .gt (.var 2) (.cst (.int (0)))) r := byRfl rfl
/-- dot -/
def b16 : Rf.St := (.seq (.ite (.cmp .eq (.var 0) (.cst (.int (0)))) (.seq (.ret (.cst (.tup [(.int (0)), (.int (0))]))) .skip) .skip) (.seq (.asg (.name 2) (.cst (.int (64)))) (.seq (.whl c16l2 b16l2) (.seq (.ret (.tup (.cons (.var 0) (.cons (.var 1) .nil)))) .skip))))
theorem u_b16 {C : Rf.Cx} {r : List S} : exS C b16 r = exS C (.seq (.ite (.cmp .eq (.var 0) (.cst (.int (0)))) (.seq (.ret (.cst (.tup [(.int (0)), (.int (0))]))) .skip) .skip) (.seq (.asg (.name 2) (.cst (.int (64)))) (.seq (.whl c16l2 b16l2) (.seq (.ret (.tup (.cons (.var 0) (.cons (.var 1) .nil)))) .skip)))) r := byRfl rfl
/-- added -/
def b17 : Rf.St := (.seq (.asg (.name 2) (.prim .min2 (.cons (.prim .idx (.cons (.var 0) (.cons (.cst (.int (1))) .nil))) (.cons (.prim .idx (.cons (.var 1) (.cons (.cst (.int (1))) .nil))) .nil)))) (.seq (.ret (.call 16 [.inl 0, .inl 1] (.val (.bin .add (.call 8 [.inl 0, .inl 1] (.val (.var 0) (.val (.var 2) .nil))) (.call 8 [.inl 0, .inl 1] (.val (.var 1) (.val (.var 2) .nil)))) (.val (.var 2) .nil)))) .skip))
theorem u_b17 {C : Rf.Cx} {r : List S} : exS C b17 r = exS C (.seq (.asg (.name 2) (.prim .min2 (.cons (.prim .idx (.cons (.var 0) (.cons (.cst (.int (1))) .nil))) (.cons (.prim .idx (.cons (.var 1) (.cons (.cst (.int (1))) .nil))) .nil)))) (.seq (.ret (.call 16 [.inl 0, .inl 1] (.val (.bin .add (.call 8 [.inl 0, .inl 1] (.val (.var 0) (.val (.var 2) .nil))) (.call 8 [.inl 0, .inl 1] (.val (.var 1) (.val (.var 2) .nil)))) (.val (.var 2) .nil)))) .skip)) r := byRfl rfl
/-- sum_of -/
def b18 : Rf.St := (.seq (.exp (.call 15 [.inl 0] (.val (.var 0) .nil))) (.seq (.exp (.call 15 [.inl 0] (.val (.var 1) .nil))) (.seq (.ret (.make 0 12 (.cons (.call 17 [.inl 0, .inl 1] (.val (.prim (.fld 0 0) (.cons (.var 0) .nil)) (.val (.prim (.fld 0 0) (.cons (.var 1) .nil)) .nil))) (.cons (.call 17 [.inl 0, .inl 1] (.val (.prim (.fld 0 1) (.cons (.var 0) .nil)) (.val (.prim (.fld 0 1) (.cons (.var 1) .nil)) .nil))) .nil)))) .skip)))
theorem u_b18 {C : Rf.Cx} {r : List S} : exS C b18 r = exS C (.seq (.exp (.call 15 [.inl 0] (.val (.var 0) .nil))) (.seq (.exp (.call 15 [.inl 0] (.val (.var 1) .nil))) (.seq (.ret (.make 0 12 (.cons (.call 17 [.inl 0, .inl 1] (.val (.prim (.fld 0 0) (.cons (.var 0) .nil)) (.val (.prim (.fld 0 0) (.cons (.var 1) .nil)) .nil))) (.cons (.call 17 [.inl 0, .inl 1] (.val (.prim (.fld 0 1) (.cons (.var 0) .nil)) (.val (.prim (.fld 0 1) (.cons (.var 1) .nil)) .nil))) .nil)))) .skip))) r := byRfl rfl
/-- _law_times -/
def b19 : Rf.St := (.seq (.ret (.call 1 [.inl 0, .inl 1] (.val (.bin .mul (.prim .idx (.cons (.var 0) (.cons (.cst (.int (0))) .nil))) (.prim .idx (.cons (.var 1) (.cons (.cst (.int (0))) .nil)))) (.val (.bin .add (.prim .idx (.cons (.var 0) (.cons (.cst (.int (1))) .nil))) (.prim .idx (.cons (.var 1) (.cons (.cst (.int (1))) .nil)))) .nil)))) .skip)
theorem u_b19 {C : Rf.Cx} {r : List S} : exS C b19 r = exS C (.seq (.ret (.call 1 [.inl 0, .inl 1] (.val (.bin .mul (.prim .idx (.cons (.var 0) (.cons (.cst (.int (0))) .nil))) (.prim .idx (.cons (.var 1) (.cons (.cst (.int (0))) .nil)))) (.val (.bin .add (.prim .idx (.cons (.var 0) (.cons (.cst (.int (1))) .nil))) (.prim .idx (.cons (.var 1) (.cons (.cst (.int (1))) .nil)))) .nil)))) .skip) r := byRfl rfl
/-- product -/
def b20 : Rf.St := (.seq (.ret (.call 16 [.inl 0, .inl 1] (.val (.bin .mul (.prim .idx (.cons (.var 0) (.cons (.cst (.int (0))) .nil))) (.prim .idx (.cons (.var 1) (.cons (.cst (.int (0))) .nil)))) (.val (.bin .add (.prim .idx (.cons (.var 0) (.cons (.cst (.int (1))) .nil))) (.prim .idx (.cons (.var 1) (.cons (.cst (.int (1))) .nil)))) .nil)))) .skip)
theorem u_b20 {C : Rf.Cx} {r : List S} : exS C b20 r = exS C (.seq (.ret (.call 16 [.inl 0, .inl 1] (.val (.bin .mul (.prim .idx (.cons (.var 0) (.cons (.cst (.int (0))) .nil))) (.prim .idx (.cons (.var 1) (.cons (.cst (.int (0))) .nil)))) (.val (.bin .add (.prim .idx (.cons (.var 0) (.cons (.cst (.int (1))) .nil))) (.prim .idx (.cons (.var 1) (.cons (.cst (.int (1))) .nil)))) .nil)))) .skip) r := byRfl rfl
def b21l0 : Rf.St := (.seq (.ite (.cmp .lt (.call 9 [.inl 0, .inl 1] (.val (.var 2) (.val (.var 1) .nil))) (.cst (.int (0)))) (.seq (.asg (.name 1) (.var 2)) .skip) .skip) .skip)
theorem u_b21l0 {C : Rf.Cx} {r : List S} : exS C b21l0 r = exS C (.seq (.ite (.cmp .lt (.call 9 [.inl 0, .inl 1] (.val (.var 2) (.val (.var 1) .nil))) (.cst (.int (0)))) (.seq (.asg (.name 1) (.var 2)) .skip) .skip) .skip) r := byRfl rfl
/-- least_of -/
def b21 : Rf.St := (.seq (.asg (.name 1) (.prim .idx (.cons (.var 0) (.cons (.cst (.int (0))) .nil)))) (.seq (.for (.name 2) (.val (.prim (.drop 1) (.cons (.var 0) .nil))) b21l0) (.seq (.ret (.var 1)) .skip)))
theorem u_b21 {C : Rf.Cx} {r : List S} : exS C b21 r = exS C (.seq (.asg (.name 1) (.prim .idx (.cons (.var 0) (.cons (.cst (.int (0))) .nil)))) (.seq (.for (.name 2) (.val (.prim (.drop 1) (.cons (.var 0) .nil))) b21l0) (.seq (.ret (.var 1)) .skip))) r := byRfl rfl
/-- minus -/
def b22 : Rf.St := (.seq (.ret (.tup (.cons (.bin .sub (.cst (.int (0))) (.prim .idx (.cons (.var 0) (.cons (.cst (.int (0))) .nil)))) (.cons (.prim .idx (.cons (.var 0) (.cons (.cst (.int (1))) .nil))) .nil)))) .skip)
theorem u_b22 {C : Rf.Cx} {r : List S} : exS C b22 r = exS C (.seq (.ret (.tup (.cons (.bin .sub (.cst (.int (0))) (.prim .idx (.cons (.var 0) (.cons (.cst (.int (0))) .nil)))) (.cons (.prim .idx (.cons (.var 0) (.cons (.cst (.int (1))) .nil))) .nil)))) .skip) r := byRfl rfl
/-- product_of -/
def b23 : Rf.St := (.seq (.exp (.call 15 [.inl 0] (.val (.var 0) .nil))) (.seq (.exp (.call 15 [.inl 0] (.val (.var 1) .nil))) (.seq (.asg (.name 2) (.comp2 3 (.val (.tup (.cons (.prim (.fld 0 0) (.cons (.var 0) .nil)) (.cons (.prim (.fld 0 1) (.cons (.var 0) .nil)) .nil)))) 4 (.val (.tup (.cons (.prim (.fld 0 0) (.cons (.var 1) .nil)) (.cons (.prim (.fld 0 1) (.cons (.var 1) .nil)) .nil)))) (.call 20 [.inl 0, .inl 1] (.val (.var 3) (.val (.var 4) .nil))))) (.seq (.ret (.make 0 12 (.cons (.call 21 [.inl 0] (.val (.var 2) .nil)) (.cons (.call 22 [.inl 0] (.val (.call 21 [.inl 0] (.val (.comp 0 (.val (.var 2)) (.cst (.bl true)) (.call 22 [.inl 0] (.val (.var 0) .nil))) .nil)) .nil)) .nil)))) .skip))))
theorem u_b23 {C : Rf.Cx} {r : List S} : exS C b23 r = exS C (.seq (.exp (.call 15 [.inl 0] (.val (.var 0) .nil))) (.seq (.exp (.call 15 [.inl 0] (.val (.var 1) .nil))) (.seq (.asg (.name 2) (.comp2 3 (.val (.tup (.cons (.prim (.fld 0 0) (.cons (.var 0) .nil)) (.cons (.prim (.fld 0 1) (.cons (.var 0) .nil)) .nil)))) 4 (.val (.tup (.cons (.prim (.fld 0 0) (.cons (.var 1) .nil)) (.cons (.prim (.fld 0 1) (.cons (.var 1) .nil)) .nil)))) (.call 20 [.inl 0, .inl 1] (.val (.var 3) (.val (.var 4) .nil))))) (.seq (.ret (.make 0 12 (.cons (.call 21 [.inl 0] (.val (.var 2) .nil)) (.cons (.call 22 [.inl 0] (.val (.call 21 [.inl 0] (.val (.comp 0 (.val (.var 2)) (.cst (.bl true)) (.call 22 [.inl 0] (.val (.var 0) .nil))) .nil)) .nil)) .nil)))) .skip)))) r := byRfl rfl
def b24l0 : Rf.St := (.seq (.ite (.or (.not (.prim (.isc 0) (.cons (.var 5) .nil))) (.cmp .ne (.tup (.cons (.prim (.fld 0 0) (.cons (.var 5) .nil)) (.cons (.prim (.fld 0 1) (.cons (.var 5) .nil)) .nil))) (.var 4))) (.seq (.ret (.cst (.bl false))) .skip) .skip) .skip)
theorem u_b24l0 {C : Rf.Cx} {r : List S} : exS C b24l0 r = exS C (.seq (.ite (.or (.not (.prim (.isc 0) (.cons (.var 5) .nil))) (.cmp .ne (.tup (.cons (.prim (.fld 0 0) (.cons (.var 5) .nil)) (.cons (.prim (.fld 0 1) (.cons (.var 5) .nil)) .nil))) (.var 4))) (.seq (.ret (.cst (.bl false))) .skip) .skip) .skip) r := byRfl rfl
def b24l1 : Rf.St := (.seq (.ite (.or (.not (.prim (.isc 0) (.cons (.var 5) .nil))) (.cmp .ne (.tup (.cons (.prim (.fld 0 0) (.cons (.var 5) .nil)) (.cons (.prim (.fld 0 1) (.cons (.var 5) .nil)) .nil))) (.var 4))) (.seq (.ret (.cst (.bl false))) .skip) .skip) .skip)
theorem u_b24l1 {C : Rf.Cx} {r : List S} : exS C b24l1 r = exS C (.seq (.ite (.or (.not (.prim (.isc 0) (.cons (.var 5) .nil))) (.cmp .ne (.tup (.cons (.prim (.fld 0 0) (.cons (.var 5) .nil)) (.cons (.prim (.fld 0 1) (.cons (.var 5) .nil)) .nil))) (.var 4))) (.seq (.ret (.cst (.bl false))) .skip) .skip) .skip) r := byRfl rfl
/-- _law_good -/
def b24 : Rf.St := (.seq (.asg (.name 2) (.make 0 12 (.cons (.prim .idx (.cons (.var 0) (.cons (.cst (.int (0))) .nil))) (.cons (.prim .idx (.cons (.var 0) (.cons (.cst (.int (1))) .nil))) .nil)))) (.seq (.asg (.name 3) (.make 0 12 (.cons (.prim .idx (.cons (.var 1) (.cons (.cst (.int (0))) .nil))) (.cons (.prim .idx (.cons (.var 1) (.cons (.cst (.int (1))) .nil))) .nil)))) (.seq (.asg (.name 4) (.tup (.cons (.call 14 [.inl 0, .inl 1, .inl 2] (.val (.prim .idx (.cons (.var 0) (.cons (.cst (.int (0))) .nil))) (.val (.prim .idx (.cons (.var 1) (.cons (.cst (.int (0))) .nil))) (.val (.cst (.int (1))) .nil)))) (.cons (.call 14 [.inl 0, .inl 1, .inl 2] (.val (.prim .idx (.cons (.var 0) (.cons (.cst (.int (1))) .nil))) (.val (.prim .idx (.cons (.var 1) (.cons (.cst (.int (1))) .nil))) (.val (.cst (.int (1))) .nil)))) .nil)))) (.seq (.for (.name 5) (.val (.lst (.cons (.call 18 [.inl 0, .inl 1] (.val (.var 2) (.val (.var 3) .nil))) (.cons (.callk 18 [.inl 1, .inl 0] .nil (.cons (.var 2) (.cons (.var 3) .nil))) .nil)))) b24l1) (.seq (.asg (.name 6) (.comp 7 (.val (.var 0)) (.cst (.bl true)) (.call 19 [.inl 0, .inl 1] (.val (.var 7) (.val (.prim .idx (.cons (.var 1) (.cons (.cst (.int (0))) .nil))) .nil))))) (.seq (.asg (.name 6) (.bin .add (.var 6) (.comp 7 (.val (.var 0)) (.cst (.bl true)) (.call 19 [.inl 0, .inl 1] (.val (.var 7) (.val (.prim .idx (.cons (.var 1) (.cons (.cst (.int (1))) .nil))) .nil)))))) (.seq (.asg (.name 4) (.call 13 [.inl 0] (.val (.var 6) .nil))) (.seq (.for (.name 5) (.val (.lst (.cons (.call 23 [.inl 0, .inl 1] (.val (.var 2) (.val (.var 3) .nil))) (.cons (.callk 23 [.inl 1, .inl 0] .nil (.cons (.var 2) (.cons (.var 3) .nil))) .nil)))) b24l0) (.seq (.ret (.and (.cmp .eq (.tup (.cons (.prim (.fld 0 0) (.cons (.var 2) .nil)) (.cons (.prim (.fld 0 1) (.cons (.var 2) .nil)) .nil))) (.var 0)) (.cmp .eq (.tup (.cons (.prim (.fld 0 0) (.cons (.var 3) .nil)) (.cons (.prim (.fld 0 1) (.cons (.var 3) .nil)) .nil))) (.var 1)))) .skip)))))))))
theorem u_b24 {C : Rf.Cx} {r : List S} : exS C b24 r = exS C (.seq (.asg (.name 2) (.make 0 12 (.cons (.prim .idx (.cons (.var 0) (.cons (.cst (.int (0))) .nil))) (.cons (.prim .idx (.cons (.var 0) (.cons (.cst (.int (1))) .nil))) .nil)))) (.seq (.asg (.name 3) (.make 0 12 (.cons (.prim .idx (.cons (.var 1) (.cons (.cst (.int (0))) .nil))) (.cons (.prim .idx (.cons (.var 1) (.cons (.cst (.int (1))) .nil))) .nil)))) (.seq (.asg (.name 4) (.tup (.cons (.call 14 [.inl 0, .inl 1, .inl 2] (.val (.prim .idx (.cons (.var 0) (.cons (.cst (.int (0))) .nil))) (.val (.prim .idx (.cons (.var 1) (.cons (.cst (.int (0))) .nil))) (.val (.cst (.int (1))) .nil)))) (.cons (.call 14 [.inl 0, .inl 1, .inl 2] (.val (.prim .idx (.cons (.var 0) (.cons (.cst (.int (1))) .nil))) (.val (.prim .idx (.cons (.var 1) (.cons (.cst (.int (1))) .nil))) (.val (.cst (.int (1))) .nil)))) .nil)))) (.seq (.for (.name 5) (.val (.lst (.cons (.call 18 [.inl 0, .inl 1] (.val (.var 2) (.val (.var 3) .nil))) (.cons (.callk 18 [.inl 1, .inl 0] .nil (.cons (.var 2) (.cons (.var 3) .nil))) .nil)))) b24l1) (.seq (.asg (.name 6) (.comp 7 (.val (.var 0)) (.cst (.bl true)) (.call 19 [.inl 0, .inl 1] (.val (.var 7) (.val (.prim .idx (.cons (.var 1) (.cons (.cst (.int (0))) .nil))) .nil))))) (.seq (.asg (.name 6) (.bin .add (.var 6) (.comp 7 (.val (.var 0)) (.cst (.bl true)) (.call 19 [.inl 0, .inl 1] (.val (.var 7) (.val (.prim .idx (.cons (.var 1) (.cons (.cst (.int (1))) .nil))) .nil)))))) (.seq (.asg (.name 4) (.call 13 [.inl 0] (.val (.var 6) .nil))) (.seq (.for (.name 5) (.val (.lst (.cons (.call 23 [.inl 0, .inl 1] (.val (.var 2) (.val (.var 3) .nil))) (.cons (.callk 23 [.inl 1, .inl 0] .nil (.cons (.var 2) (.cons (.var 3) .nil))) .nil)))) b24l0) (.seq (.ret (.and (.cmp .eq (.tup (.cons (.prim (.fld 0 0) (.cons (.var 2) .nil)) (.cons (.prim (.fld 0 1) (.cons (.var 2) .nil)) .nil))) (.var 0)) (.cmp .eq (.tup (.cons (.prim (.fld 0 0) (.cons (.var 3) .nil)) (.cons (.prim (.fld 0 1) (.cons (.var 3) .nil)) .nil))) (.var 1)))) .skip))))))))) r := byRfl rfl
def b25l0 : Rf.St := (.seq (.ite (.not (.call 24 [.inl 0, .inl 1] (.val (.var 7) (.val (.var 8) .nil)))) (.seq (.ret (.cst (.bl false))) .skip) .skip) .skip)
theorem u_b25l0 {C : Rf.Cx} {r : List S} : exS C b25l0 r = exS C (.seq (.ite (.not (.call 24 [.inl 0, .inl 1] (.val (.var 7) (.val (.var 8) .nil)))) (.seq (.ret (.cst (.bl false))) .skip) .skip) .skip) r := byRfl rfl
def b25l1 : Rf.St := (.seq (.for (.name 8) (.val (.var 6)) b25l0) .skip)
theorem u_b25l1 {C : Rf.Cx} {r : List S} : exS C b25l1 r = exS C (.seq (.for (.name 8) (.val (.var 6)) b25l0) .skip) r := byRfl rfl
def b25l2 : Rf.St := (.seq (.new 2 (.lst (.cons (.call 7 [.inl 0, .inl 1] (.val (.var 0) (.val (.var 1) .nil))) .nil))) (.seq (.asg (.name 3) (.call 5 [.inl 0] (.own 2 .nil))) (.seq (.asg (.name 4) (.call 5 [.inl 0] (.own 2 .nil))) (.seq (.asg (.name 5) (.tup (.cons (.prim .abs (.cons (.prim .idx (.cons (.prim .idx (.cons (.var 3) (.cons (.cst (.int (1))) .nil))) (.cons (.cst (.int (0))) .nil))) .nil)) (.cons (.prim .idx (.cons (.prim .idx (.cons (.var 3) (.cons (.cst (.int (1))) .nil))) (.cons (.cst (.int (1))) .nil))) .nil)))) (.seq (.asg (.name 6) (.lst (.cons (.var 3) (.cons (.var 4) (.cons (.tup (.cons (.tup (.cons (.bin .sub (.cst (.int (0))) (.prim .idx (.cons (.var 5) (.cons (.cst (.int (0))) .nil)))) (.cons (.prim .idx (.cons (.var 5) (.cons (.cst (.int (1))) .nil))) .nil))) (.cons (.var 5) .nil))) (.cons (.tup (.cons (.tup (.cons (.cst (.int (0))) (.cons (.cst (.int (0))) .nil))) (.cons (.var 5) .nil))) .nil)))))) (.seq (.asg (.name 6) (.bin .add (.var 6) (.lst (.cons (.tup (.cons (.tup (.cons (.bin .sub (.cst (.int (0))) (.prim .idx (.cons (.var 5) (.cons (.cst (.int (0))) .nil)))) (.cons (.prim .idx (.cons (.var 5) (.cons (.cst (.int (1))) .nil))) .nil))) (.cons (.tup (.cons (.cst (.int (0))) (.cons (.cst (.int (0))) .nil))) .nil))) (.cons (.tup (.cons (.var 5) (.cons (.var 5) .nil))) .nil))))) (.seq (.for (.name 7) (.val (.var 6)) b25l1) .skip)))))))
theorem u_b25l2 {C : Rf.Cx} {r : List S} : exS C b25l2 r = exS C (.seq (.new 2 (.lst (.cons (.call 7 [.inl 0, .inl 1] (.val (.var 0) (.val (.var 1) .nil))) .nil))) (.seq (.asg (.name 3) (.call 5 [.inl 0] (.own 2 .nil))) (.seq (.asg (.name 4) (.call 5 [.inl 0] (.own 2 .nil))) (.seq (.asg (.name 5) (.tup (.cons (.prim .abs (.cons (.prim .idx (.cons (.prim .idx (.cons (.var 3) (.cons (.cst (.int (1))) .nil))) (.cons (.cst (.int (0))) .nil))) .nil)) (.cons (.prim .idx (.cons (.prim .idx (.cons (.var 3) (.cons (.cst (.int (1))) .nil))) (.cons (.cst (.int (1))) .nil))) .nil)))) (.seq (.asg (.name 6) (.lst (.cons (.var 3) (.cons (.var 4) (.cons (.tup (.cons (.tup (.cons (.bin .sub (.cst (.int (0))) (.prim .idx (.cons (.var 5) (.cons (.cst (.int (0))) .nil)))) (.cons (.prim .idx (.cons (.var 5) (.cons (.cst (.int (1))) .nil))) .nil))) (.cons (.var 5) .nil))) (.cons (.tup (.cons (.tup (.cons (.cst (.int (0))) (.cons (.cst (.int (0))) .nil))) (.cons (.var 5) .nil))) .nil)))))) (.seq (.asg (.name 6) (.bin .add (.var 6) (.lst (.cons (.tup (.cons (.tup (.cons (.bin .sub (.cst (.int (0))) (.prim .idx (.cons (.var 5) (.cons (.cst (.int (0))) .nil)))) (.cons (.prim .idx (.cons (.var 5) (.cons (.cst (.int (1))) .nil))) .nil))) (.cons (.tup (.cons (.cst (.int (0))) (.cons (.cst (.int (0))) .nil))) .nil))) (.cons (.tup (.cons (.var 5) (.cons (.var 5) .nil))) .nil))))) (.seq (.for (.name 7) (.val (.var 6)) b25l1) .skip))))))) r := byRfl rfl
/-- law -/
def b25 : Rf.St := (.seq (.for (.name 1) (.rng1 (.cst (.int (4)))) b25l2) (.seq (.ret (.cst (.bl true))) .skip))
theorem u_b25 {C : Rf.Cx} {r : List S} : exS C b25 r = exS C (.seq (.for (.name 1) (.rng1 (.cst (.int (4)))) b25l2) (.seq (.ret (.cst (.bl true))) .skip)) r := byRfl rfl
def T : Nat → Option Fd
  | 0 => some ⟨2, 3, b0⟩
  | 1 => some ⟨2, 2, b1⟩
  | 2 => some ⟨1, 5, b2⟩
  | 3 => some ⟨2, 2, b3⟩
  | 4 => some ⟨2, 5, b4⟩
  | 5 => some ⟨1, 3, b5⟩
  | 6 => some ⟨2, 3, b6⟩
  | 7 => some ⟨2, 5, b7⟩
  | 8 => some ⟨2, 2, b8⟩
  | 9 => some ⟨2, 5, b9⟩
  | 10 => some ⟨1, 1, b10⟩
  | 11 => some ⟨1, 1, b11⟩
  | 12 => some ⟨3, 3, b12⟩
  | 13 => some ⟨1, 4, b13⟩
  | 14 => some ⟨3, 4, b14⟩
  | 15 => some ⟨1, 1, b15⟩
  | 16 => some ⟨2, 3, b16⟩
  | 17 => some ⟨2, 3, b17⟩
  | 18 => some ⟨2, 2, b18⟩
  | 19 => some ⟨2, 2, b19⟩
  | 20 => some ⟨2, 2, b20⟩
  | 21 => some ⟨1, 3, b21⟩
  | 22 => some ⟨1, 1, b22⟩
  | 23 => some ⟨2, 5, b23⟩
  | 24 => some ⟨2, 8, b24⟩
  | 25 => some ⟨1, 9, b25⟩
  | _ => none
theorem rn0 {F k : Nat} {args : List S} : run T F (k + 1) 0 args = finish 2 (exS ⟨run T F k, F⟩ b0 (args ++ List.replicate (3 - args.length) .non)) := rfl
theorem rn1 {F k : Nat} {args : List S} : run T F (k + 1) 1 args = finish 2 (exS ⟨run T F k, F⟩ b1 (args ++ List.replicate (2 - args.length) .non)) := rfl
theorem rn2 {F k : Nat} {args : List S} : run T F (k + 1) 2 args = finish 1 (exS ⟨run T F k, F⟩ b2 (args ++ List.replicate (5 - args.length) .non)) := rfl
theorem rn3 {F k : Nat} {args : List S} : run T F (k + 1) 3 args = finish 2 (exS ⟨run T F k, F⟩ b3 (args ++ List.replicate (2 - args.length) .non)) := rfl
theorem rn4 {F k : Nat} {args : List S} : run T F (k + 1) 4 args = finish 2 (exS ⟨run T F k, F⟩ b4 (args ++ List.replicate (5 - args.length) .non)) := rfl
theorem rn5 {F k : Nat} {args : List S} : run T F (k + 1) 5 args = finish 1 (exS ⟨run T F k, F⟩ b5 (args ++ List.replicate (3 - args.length) .non)) := rfl
theorem rn6 {F k : Nat} {args : List S} : run T F (k + 1) 6 args = finish 2 (exS ⟨run T F k, F⟩ b6 (args ++ List.replicate (3 - args.length) .non)) := rfl
theorem rn7 {F k : Nat} {args : List S} : run T F (k + 1) 7 args = finish 2 (exS ⟨run T F k, F⟩ b7 (args ++ List.replicate (5 - args.length) .non)) := rfl
theorem rn8 {F k : Nat} {args : List S} : run T F (k + 1) 8 args = finish 2 (exS ⟨run T F k, F⟩ b8 (args ++ List.replicate (2 - args.length) .non)) := rfl
theorem rn9 {F k : Nat} {args : List S} : run T F (k + 1) 9 args = finish 2 (exS ⟨run T F k, F⟩ b9 (args ++ List.replicate (5 - args.length) .non)) := rfl
theorem rn10 {F k : Nat} {args : List S} : run T F (k + 1) 10 args = finish 1 (exS ⟨run T F k, F⟩ b10 (args ++ List.replicate (1 - args.length) .non)) := rfl
theorem rn11 {F k : Nat} {args : List S} : run T F (k + 1) 11 args = finish 1 (exS ⟨run T F k, F⟩ b11 (args ++ List.replicate (1 - args.length) .non)) := rfl
theorem rn12 {F k : Nat} {args : List S} : run T F (k + 1) 12 args = finish 3 (exS ⟨run T F k, F⟩ b12 (args ++ List.replicate (3 - args.length) .non)) := rfl
theorem rn13 {F k : Nat} {args : List S} : run T F (k + 1) 13 args = finish 1 (exS ⟨run T F k, F⟩ b13 (args ++ List.replicate (4 - args.length) .non)) := rfl
theorem rn14 {F k : Nat} {args : List S} : run T F (k + 1) 14 args = finish 3 (exS ⟨run T F k, F⟩ b14 (args ++ List.replicate (4 - args.length) .non)) := rfl
theorem rn15 {F k : Nat} {args : List S} : run T F (k + 1) 15 args = finish 1 (exS ⟨run T F k, F⟩ b15 (args ++ List.replicate (1 - args.length) .non)) := rfl
theorem rn16 {F k : Nat} {args : List S} : run T F (k + 1) 16 args = finish 2 (exS ⟨run T F k, F⟩ b16 (args ++ List.replicate (3 - args.length) .non)) := rfl
theorem rn17 {F k : Nat} {args : List S} : run T F (k + 1) 17 args = finish 2 (exS ⟨run T F k, F⟩ b17 (args ++ List.replicate (3 - args.length) .non)) := rfl
theorem rn18 {F k : Nat} {args : List S} : run T F (k + 1) 18 args = finish 2 (exS ⟨run T F k, F⟩ b18 (args ++ List.replicate (2 - args.length) .non)) := rfl
theorem rn19 {F k : Nat} {args : List S} : run T F (k + 1) 19 args = finish 2 (exS ⟨run T F k, F⟩ b19 (args ++ List.replicate (2 - args.length) .non)) := rfl
theorem rn20 {F k : Nat} {args : List S} : run T F (k + 1) 20 args = finish 2 (exS ⟨run T F k, F⟩ b20 (args ++ List.replicate (2 - args.length) .non)) := rfl
theorem rn21 {F k : Nat} {args : List S} : run T F (k + 1) 21 args = finish 1 (exS ⟨run T F k, F⟩ b21 (args ++ List.replicate (3 - args.length) .non)) := rfl
theorem rn22 {F k : Nat} {args : List S} : run T F (k + 1) 22 args = finish 1 (exS ⟨run T F k, F⟩ b22 (args ++ List.replicate (1 - args.length) .non)) := rfl
theorem rn23 {F k : Nat} {args : List S} : run T F (k + 1) 23 args = finish 2 (exS ⟨run T F k, F⟩ b23 (args ++ List.replicate (5 - args.length) .non)) := rfl
theorem rn24 {F k : Nat} {args : List S} : run T F (k + 1) 24 args = finish 2 (exS ⟨run T F k, F⟩ b24 (args ++ List.replicate (8 - args.length) .non)) := rfl
theorem rn25 {F k : Nat} {args : List S} : run T F (k + 1) 25 args = finish 1 (exS ⟨run T F k, F⟩ b25 (args ++ List.replicate (9 - args.length) .non)) := rfl
end Q16

set_option Elab.async false
set_option linter.all false
set_option maxRecDepth 100000
set_option maxHeartbeats 2000000
namespace Q16
open PySem PySem.Spec PyProof.Rows L2 Rf
/-! ### the walks -/
abbrev s0 : Stmt := topS 23
abbrev s1 : Stmt := topS 24
abbrev s2 : Stmt := topS 25
abbrev s3 : Stmt := topS 26
abbrev s4 : Stmt := topS 27
abbrev s5 : Stmt := topS 28
abbrev s6 : Stmt := topS 21
abbrev s7 : Stmt := topS 22
abbrev s8 : Stmt := topS 9
abbrev s9 : Stmt := topS 13
abbrev s10 : Stmt := topS 6
abbrev s11 : Stmt := topS 8
abbrev s12 : Stmt := inClass (topS 16) 0
abbrev s13 : Stmt := topS 31
abbrev s14 : Stmt := topS 29
abbrev s15 : Stmt := topS 15
abbrev s16 : Stmt := topS 7
abbrev s17 : Stmt := topS 10
abbrev s18 : Stmt := topS 17
abbrev s19 : Stmt := topS 30
abbrev s20 : Stmt := topS 12
abbrev s21 : Stmt := topS 18
abbrev s22 : Stmt := topS 11
abbrev s23 : Stmt := topS 19
abbrev s24 : Stmt := topS 32
abbrev s25 : Stmt := topS 33
section
variable {P : Program} {w : World} {K : PySem.W.Frag} {mg : Str → Option Value} {base : Heap} {ci : CI} {fuel : Nat} {fa : Addr} {fd : FuncData}
theorem bn0 (F : FunD K "_law_take" "_law_take" (defArgs s0) (defBody s0) (defScope s0) [] [] fa fd) : Bnd K ci fd ["_law_pile", "_law_size"] 2 [] [.inl 0, .inl 1] := by
  obtain ⟨oc, od, dV, kV, doc, pm, an, cdv, ct, osl, rfl, lk, hcd, hD, hK⟩ := F.ex
  rcases hD with ⟨_, rfl⟩ | ⟨e, _⟩
  · refine ⟨⟨[.non, .non], [.none, .none], (.cons rfl (.cons rfl .nil)), permOk_of (by decide) (by decide) trivial, rfl, fun s us ws X h1 h2 => ?_⟩⟩
    match us, h1, ws, h2 with
    | [_, _], _, [], _ => exact .of_eq rfl
  · exact absurd rfl e
theorem bn1 (F : FunD K "_law_odd" "_law_odd" (defArgs s1) (defBody s1) (defScope s1) [] [] fa fd) : Bnd K ci fd ["_law_m", "_law_e"] 2 [] [.inl 0, .inl 1] := by
  obtain ⟨oc, od, dV, kV, doc, pm, an, cdv, ct, osl, rfl, lk, hcd, hD, hK⟩ := F.ex
  rcases hD with ⟨_, rfl⟩ | ⟨e, _⟩
  · refine ⟨⟨[.non, .non], [.none, .none], (.cons rfl (.cons rfl .nil)), permOk_of (by decide) (by decide) trivial, rfl, fun s us ws X h1 h2 => ?_⟩⟩
    match us, h1, ws, h2 with
    | [_, _], _, [], _ => exact .of_eq rfl
  · exact absurd rfl e
theorem bn2 (F : FunD K "_law_at" "_law_at" (defArgs s3) (defBody s3) (defScope s3) [] [] fa fd) : Bnd K ci fd ["_law_number_here", "_law_e"] 2 [] [.inl 0, .inl 1] := by
  obtain ⟨oc, od, dV, kV, doc, pm, an, cdv, ct, osl, rfl, lk, hcd, hD, hK⟩ := F.ex
  rcases hD with ⟨_, rfl⟩ | ⟨e, _⟩
  · refine ⟨⟨[.non, .non], [.none, .none], (.cons rfl (.cons rfl .nil)), permOk_of (by decide) (by decide) trivial, rfl, fun s us ws X h1 h2 => ?_⟩⟩
    match us, h1, ws, h2 with
    | [_, _], _, [], _ => exact .of_eq rfl
  · exact absurd rfl e
theorem bn3 (F : FunD K "_law_compared" "_law_compared" (defArgs s4) (defBody s4) (defScope s4) [] [] fa fd) : Bnd K ci fd ["_law_one_own", "_law_other_own"] 2 [] [.inl 0, .inl 1] := by
  obtain ⟨oc, od, dV, kV, doc, pm, an, cdv, ct, osl, rfl, lk, hcd, hD, hK⟩ := F.ex
  rcases hD with ⟨_, rfl⟩ | ⟨e, _⟩
  · refine ⟨⟨[.non, .non], [.none, .none], (.cons rfl (.cons rfl .nil)), permOk_of (by decide) (by decide) trivial, rfl, fun s us ws X h1 h2 => ?_⟩⟩
    match us, h1, ws, h2 with
    | [_, _], _, [], _ => exact .of_eq rfl
  · exact absurd rfl e
theorem bn4 (F : FunD K "_law_number" "_law_number" (defArgs s2) (defBody s2) (defScope s2) [] [] fa fd) : Bnd K ci fd ["_law_pile"] 1 [] [.inl 0] := by
  obtain ⟨oc, od, dV, kV, doc, pm, an, cdv, ct, osl, rfl, lk, hcd, hD, hK⟩ := F.ex
  rcases hD with ⟨_, rfl⟩ | ⟨e, _⟩
  · refine ⟨⟨[.non], [.none], (.cons rfl .nil), permOk_of (by decide) (by decide) trivial, rfl, fun s us ws X h1 h2 => ?_⟩⟩
    match us, h1, ws, h2 with
    | [_], _, [], _ => exact .of_eq rfl
  · exact absurd rfl e
theorem bn5 (F : FunD K "_law_mixed" "_law_mixed" (defArgs s6) (defBody s6) (defScope s6) [] [] fa fd) : Bnd K ci fd ["_law_cell_here", "_law_k"] 2 [] [.inl 0, .inl 1] := by
  obtain ⟨oc, od, dV, kV, doc, pm, an, cdv, ct, osl, rfl, lk, hcd, hD, hK⟩ := F.ex
  rcases hD with ⟨_, rfl⟩ | ⟨e, _⟩
  · refine ⟨⟨[.non, .non], [.none, .none], (.cons rfl (.cons rfl .nil)), permOk_of (by decide) (by decide) trivial, rfl, fun s us ws X h1 h2 => ?_⟩⟩
    match us, h1, ws, h2 with
    | [_, _], _, [], _ => exact .of_eq rfl
  · exact absurd rfl e
theorem bn6 (F : FunD K "at_power" "at_power" (defArgs s8) (defBody s8) (defScope s8) [] [] fa fd) : Bnd K ci fd ["number", "e"] 2 [] [.inl 0, .inl 1] := by
  obtain ⟨oc, od, dV, kV, doc, pm, an, cdv, ct, osl, rfl, lk, hcd, hD, hK⟩ := F.ex
  rcases hD with ⟨_, rfl⟩ | ⟨e, _⟩
  · refine ⟨⟨[.non, .non], [.none, .none], (.cons rfl (.cons rfl .nil)), permOk_of (by decide) (by decide) trivial, rfl, fun s us ws X h1 h2 => ?_⟩⟩
    match us, h1, ws, h2 with
    | [_, _], _, [], _ => exact .of_eq rfl
  · exact absurd rfl e
theorem bn7 (F : FunD K "is_whole" "is_whole" (defArgs s10) (defBody s10) (defScope s10) [] [] fa fd) : Bnd K ci fd ["thing"] 1 [] [.inl 0] := by
  obtain ⟨oc, od, dV, kV, doc, pm, an, cdv, ct, osl, rfl, lk, hcd, hD, hK⟩ := F.ex
  rcases hD with ⟨_, rfl⟩ | ⟨e, _⟩
  · refine ⟨⟨[.non], [.none], (.cons rfl .nil), permOk_of (by decide) (by decide) trivial, rfl, fun s us ws X h1 h2 => ?_⟩⟩
    match us, h1, ws, h2 with
    | [_], _, [], _ => exact .of_eq rfl
  · exact absurd rfl e
theorem bn8 (F : FunD K "is_number" "is_number" (defArgs s11) (defBody s11) (defScope s11) [] [] fa fd) : Bnd K ci fd ["thing"] 1 [] [.inl 0] := by
  obtain ⟨oc, od, dV, kV, doc, pm, an, cdv, ct, osl, rfl, lk, hcd, hD, hK⟩ := F.ex
  rcases hD with ⟨_, rfl⟩ | ⟨e, _⟩
  · refine ⟨⟨[.non], [.none], (.cons rfl .nil), permOk_of (by decide) (by decide) trivial, rfl, fun s us ws X h1 h2 => ?_⟩⟩
    match us, h1, ws, h2 with
    | [_], _, [], _ => exact .of_eq rfl
  · exact absurd rfl e
theorem bn9 (F : FunD K "compared" "compared" (defArgs s9) (defBody s9) (defScope s9) [] [] fa fd) : Bnd K ci fd ["one", "other"] 2 [] [.inl 0, .inl 1] := by
  obtain ⟨oc, od, dV, kV, doc, pm, an, cdv, ct, osl, rfl, lk, hcd, hD, hK⟩ := F.ex
  rcases hD with ⟨_, rfl⟩ | ⟨e, _⟩
  · refine ⟨⟨[.non, .non], [.none, .none], (.cons rfl (.cons rfl .nil)), permOk_of (by decide) (by decide) trivial, rfl, fun s us ws X h1 h2 => ?_⟩⟩
    match us, h1, ws, h2 with
    | [_, _], _, [], _ => exact .of_eq rfl
  · exact absurd rfl e
theorem bn10 (F : FunD K "dot" "dot" (defArgs s16) (defBody s16) (defScope s16) [] [] fa fd) : Bnd K ci fd ["m", "e"] 2 [] [.inl 0, .inl 1] := by
  obtain ⟨oc, od, dV, kV, doc, pm, an, cdv, ct, osl, rfl, lk, hcd, hD, hK⟩ := F.ex
  rcases hD with ⟨_, rfl⟩ | ⟨e, _⟩
  · refine ⟨⟨[.non, .non], [.none, .none], (.cons rfl (.cons rfl .nil)), permOk_of (by decide) (by decide) trivial, rfl, fun s us ws X h1 h2 => ?_⟩⟩
    match us, h1, ws, h2 with
    | [_, _], _, [], _ => exact .of_eq rfl
  · exact absurd rfl e
theorem bn11 (F : FunD K "added" "added" (defArgs s17) (defBody s17) (defScope s17) [] [] fa fd) : Bnd K ci fd ["one", "other"] 2 [] [.inl 0, .inl 1] := by
  obtain ⟨oc, od, dV, kV, doc, pm, an, cdv, ct, osl, rfl, lk, hcd, hD, hK⟩ := F.ex
  rcases hD with ⟨_, rfl⟩ | ⟨e, _⟩
  · refine ⟨⟨[.non, .non], [.none, .none], (.cons rfl (.cons rfl .nil)), permOk_of (by decide) (by decide) trivial, rfl, fun s us ws X h1 h2 => ?_⟩⟩
    match us, h1, ws, h2 with
    | [_, _], _, [], _ => exact .of_eq rfl
  · exact absurd rfl e
theorem bn12 (F : FunD K "look_at_stretch" "look_at_stretch" (defArgs s15) (defBody s15) (defScope s15) [] [] fa fd) : Bnd K ci fd ["thing"] 1 [] [.inl 0] := by
  obtain ⟨oc, od, dV, kV, doc, pm, an, cdv, ct, osl, rfl, lk, hcd, hD, hK⟩ := F.ex
  rcases hD with ⟨_, rfl⟩ | ⟨e, _⟩
  · refine ⟨⟨[.non], [.none], (.cons rfl .nil), permOk_of (by decide) (by decide) trivial, rfl, fun s us ws X h1 h2 => ?_⟩⟩
    match us, h1, ws, h2 with
    | [_], _, [], _ => exact .of_eq rfl
  · exact absurd rfl e
theorem bn13 (F : FunD K "minus" "minus" (defArgs s22) (defBody s22) (defScope s22) [] [] fa fd) : Bnd K ci fd ["one"] 1 [] [.inl 0] := by
  obtain ⟨oc, od, dV, kV, doc, pm, an, cdv, ct, osl, rfl, lk, hcd, hD, hK⟩ := F.ex
  rcases hD with ⟨_, rfl⟩ | ⟨e, _⟩
  · refine ⟨⟨[.non], [.none], (.cons rfl .nil), permOk_of (by decide) (by decide) trivial, rfl, fun s us ws X h1 h2 => ?_⟩⟩
    match us, h1, ws, h2 with
    | [_], _, [], _ => exact .of_eq rfl
  · exact absurd rfl e
theorem bn14 (F : FunD K "least_of" "least_of" (defArgs s21) (defBody s21) (defScope s21) [] [] fa fd) : Bnd K ci fd ["some"] 1 [] [.inl 0] := by
  obtain ⟨oc, od, dV, kV, doc, pm, an, cdv, ct, osl, rfl, lk, hcd, hD, hK⟩ := F.ex
  rcases hD with ⟨_, rfl⟩ | ⟨e, _⟩
  · refine ⟨⟨[.non], [.none], (.cons rfl .nil), permOk_of (by decide) (by decide) trivial, rfl, fun s us ws X h1 h2 => ?_⟩⟩
    match us, h1, ws, h2 with
    | [_], _, [], _ => exact .of_eq rfl
  · exact absurd rfl e
theorem bn15 (F : FunD K "product" "product" (defArgs s20) (defBody s20) (defScope s20) [] [] fa fd) : Bnd K ci fd ["one", "other"] 2 [] [.inl 0, .inl 1] := by
  obtain ⟨oc, od, dV, kV, doc, pm, an, cdv, ct, osl, rfl, lk, hcd, hD, hK⟩ := F.ex
  rcases hD with ⟨_, rfl⟩ | ⟨e, _⟩
  · refine ⟨⟨[.non, .non], [.none, .none], (.cons rfl (.cons rfl .nil)), permOk_of (by decide) (by decide) trivial, rfl, fun s us ws X h1 h2 => ?_⟩⟩
    match us, h1, ws, h2 with
    | [_, _], _, [], _ => exact .of_eq rfl
  · exact absurd rfl e
theorem bn16 (F : FunD K "product_of" "product_of" (defArgs s23) (defBody s23) (defScope s23) [] [] fa fd) : Bnd K ci fd ["one", "other"] 0 ["other", "one"] [.inl 1, .inl 0] := by
  obtain ⟨oc, od, dV, kV, doc, pm, an, cdv, ct, osl, rfl, lk, hcd, hD, hK⟩ := F.ex
  rcases hD with ⟨_, rfl⟩ | ⟨e, _⟩
  · refine ⟨⟨[.non, .non], [.none, .none], (.cons rfl (.cons rfl .nil)), permOk_of (by decide) (by decide) trivial, rfl, fun s us ws X h1 h2 => ?_⟩⟩
    match us, h1, ws, h2 with
    | [], _, [_, _], _ => exact .of_eq rfl
  · exact absurd rfl e
theorem bn17 (F : FunD K "product_of" "product_of" (defArgs s23) (defBody s23) (defScope s23) [] [] fa fd) : Bnd K ci fd ["one", "other"] 2 [] [.inl 0, .inl 1] := by
  obtain ⟨oc, od, dV, kV, doc, pm, an, cdv, ct, osl, rfl, lk, hcd, hD, hK⟩ := F.ex
  rcases hD with ⟨_, rfl⟩ | ⟨e, _⟩
  · refine ⟨⟨[.non, .non], [.none, .none], (.cons rfl (.cons rfl .nil)), permOk_of (by decide) (by decide) trivial, rfl, fun s us ws X h1 h2 => ?_⟩⟩
    match us, h1, ws, h2 with
    | [_, _], _, [], _ => exact .of_eq rfl
  · exact absurd rfl e
theorem bn18 (F : FunD K "_law_ends" "_law_ends" (defArgs s13) (defBody s13) (defScope s13) [] [] fa fd) : Bnd K ci fd ["_law_some"] 1 [] [.inl 0] := by
  obtain ⟨oc, od, dV, kV, doc, pm, an, cdv, ct, osl, rfl, lk, hcd, hD, hK⟩ := F.ex
  rcases hD with ⟨_, rfl⟩ | ⟨e, _⟩
  · refine ⟨⟨[.non], [.none], (.cons rfl .nil), permOk_of (by decide) (by decide) trivial, rfl, fun s us ws X h1 h2 => ?_⟩⟩
    match us, h1, ws, h2 with
    | [_], _, [], _ => exact .of_eq rfl
  · exact absurd rfl e
theorem bn19 (F : FunD K "_law_times" "_law_times" (defArgs s19) (defBody s19) (defScope s19) [] [] fa fd) : Bnd K ci fd ["_law_one_own", "_law_other_own"] 2 [] [.inl 0, .inl 1] := by
  obtain ⟨oc, od, dV, kV, doc, pm, an, cdv, ct, osl, rfl, lk, hcd, hD, hK⟩ := F.ex
  rcases hD with ⟨_, rfl⟩ | ⟨e, _⟩
  · refine ⟨⟨[.non, .non], [.none, .none], (.cons rfl (.cons rfl .nil)), permOk_of (by decide) (by decide) trivial, rfl, fun s us ws X h1 h2 => ?_⟩⟩
    match us, h1, ws, h2 with
    | [_, _], _, [], _ => exact .of_eq rfl
  · exact absurd rfl e
theorem bn20 (F : FunD K "sum_of" "sum_of" (defArgs s18) (defBody s18) (defScope s18) [] [] fa fd) : Bnd K ci fd ["one", "other"] 0 ["other", "one"] [.inl 1, .inl 0] := by
  obtain ⟨oc, od, dV, kV, doc, pm, an, cdv, ct, osl, rfl, lk, hcd, hD, hK⟩ := F.ex
  rcases hD with ⟨_, rfl⟩ | ⟨e, _⟩
  · refine ⟨⟨[.non, .non], [.none, .none], (.cons rfl (.cons rfl .nil)), permOk_of (by decide) (by decide) trivial, rfl, fun s us ws X h1 h2 => ?_⟩⟩
    match us, h1, ws, h2 with
    | [], _, [_, _], _ => exact .of_eq rfl
  · exact absurd rfl e
theorem bn21 (F : FunD K "sum_of" "sum_of" (defArgs s18) (defBody s18) (defScope s18) [] [] fa fd) : Bnd K ci fd ["one", "other"] 2 [] [.inl 0, .inl 1] := by
  obtain ⟨oc, od, dV, kV, doc, pm, an, cdv, ct, osl, rfl, lk, hcd, hD, hK⟩ := F.ex
  rcases hD with ⟨_, rfl⟩ | ⟨e, _⟩
  · refine ⟨⟨[.non, .non], [.none, .none], (.cons rfl (.cons rfl .nil)), permOk_of (by decide) (by decide) trivial, rfl, fun s us ws X h1 h2 => ?_⟩⟩
    match us, h1, ws, h2 with
    | [_, _], _, [], _ => exact .of_eq rfl
  · exact absurd rfl e
theorem bn22 (F : FunD K "_law_sum" "_law_sum" (defArgs s14) (defBody s14) (defScope s14) [] [] fa fd) : Bnd K ci fd ["_law_one_own", "_law_other_own", "_law_sign"] 3 [] [.inl 0, .inl 1, .inl 2] := by
  obtain ⟨oc, od, dV, kV, doc, pm, an, cdv, ct, osl, rfl, lk, hcd, hD, hK⟩ := F.ex
  rcases hD with ⟨_, rfl⟩ | ⟨e, _⟩
  · refine ⟨⟨[.non, .non, .non], [.none, .none, .none], (.cons rfl (.cons rfl (.cons rfl .nil))), permOk_of (by decide) (by decide) trivial, rfl, fun s us ws X h1 h2 => ?_⟩⟩
    match us, h1, ws, h2 with
    | [_, _, _], _, [], _ => exact .of_eq rfl
  · exact absurd rfl e
theorem bn23 (F : FunD K "_law_good" "_law_good" (defArgs s24) (defBody s24) (defScope s24) [] [] fa fd) : Bnd K ci fd ["_law_one_own", "_law_other_own"] 2 [] [.inl 0, .inl 1] := by
  obtain ⟨oc, od, dV, kV, doc, pm, an, cdv, ct, osl, rfl, lk, hcd, hD, hK⟩ := F.ex
  rcases hD with ⟨_, rfl⟩ | ⟨e, _⟩
  · refine ⟨⟨[.non, .non], [.none, .none], (.cons rfl (.cons rfl .nil)), permOk_of (by decide) (by decide) trivial, rfl, fun s us ws X h1 h2 => ?_⟩⟩
    match us, h1, ws, h2 with
    | [_, _], _, [], _ => exact .of_eq rfl
  · exact absurd rfl e
theorem bn24 (F : FunD K "_law_pair" "_law_pair" (defArgs s5) (defBody s5) (defScope s5) [] [] fa fd) : Bnd K ci fd ["_law_pile"] 1 [] [.inl 0] := by
  obtain ⟨oc, od, dV, kV, doc, pm, an, cdv, ct, osl, rfl, lk, hcd, hD, hK⟩ := F.ex
  rcases hD with ⟨_, rfl⟩ | ⟨e, _⟩
  · refine ⟨⟨[.non], [.none], (.cons rfl .nil), permOk_of (by decide) (by decide) trivial, rfl, fun s us ws X h1 h2 => ?_⟩⟩
    match us, h1, ws, h2 with
    | [_], _, [], _ => exact .of_eq rfl
  · exact absurd rfl e
theorem bn25 (F : FunD K "_law_cell" "_law_cell" (defArgs s7) (defBody s7) (defScope s7) [] [] fa fd) : Bnd K ci fd ["_law_script", "_law_k"] 2 [] [.inl 0, .inl 1] := by
  obtain ⟨oc, od, dV, kV, doc, pm, an, cdv, ct, osl, rfl, lk, hcd, hD, hK⟩ := F.ex
  rcases hD with ⟨_, rfl⟩ | ⟨e, _⟩
  · refine ⟨⟨[.non, .non], [.none, .none], (.cons rfl (.cons rfl .nil)), permOk_of (by decide) (by decide) trivial, rfl, fun s us ws X h1 h2 => ?_⟩⟩
    match us, h1, ws, h2 with
    | [_, _], _, [], _ => exact .of_eq rfl
  · exact absurd rfl e
structure Zs (K : PySem.W.Frag) (mg : Str → Option Value) (ci : CI) : Prop where
  z_int : mg "int" = none
  z_min : mg "min" = none
  z_range : mg "range" = none
  z_len : mg "len" = none
  z_isinstance : mg "isinstance" = none
  z_bool : mg "bool" = none
  z_tuple : mg "tuple" = none
  z_abs : mg "abs" = none
  c_NOUGHT : ∃ v u, mg "NOUGHT" = some u ∧ RelV v u ∧ ∀ H, Rep K ci H v (.tup [(.int (0)), (.int (0))])
set_option maxHeartbeats 0 in
theorem w0 (Z : Zs K mg ci)  (F : FunD K "_law_take" "_law_take" (defArgs s0) (defBody s0) (defScope s0) [] [] fa fd) : FnAt P w K mg base ci T fuel 0 fa fd ["_law_pile", "_law_size"] := by
  have S : FnScope ["_law_pile", "_law_size", "_law_digit"] ["_law_pile", "_law_size"] (defScope s0) := ⟨rfl, rfl, rfl, by decide +kernel, rfl, by decide +kernel, by decide +kernel⟩
  refine fn_ok F S rfl fun k cdv A outer s H E bd => ?_
  refine s_cons ?_ ?_
  refine s_asg ?_ ?_ rfl rfl rfl
  refine r_bin (o := .mod) ?_ ?_
  refine r_mix (by exact fun _ _ => rfl) (x_own 0) ?_
  exact x_int
  exact x_var 1
  exact g_name (pg_name (i := 2) S.nd rfl (by first | exact .inl rfl | exact .inr rfl))
  refine s_cons ?_ ?_
  refine s_put (x_own 0) ?_ ?_ rfl rfl (fun _ => rfl)
  refine r_bin (o := .fdv) ?_ ?_
  refine r_mix (by exact fun _ _ => rfl) (x_own 0) ?_
  exact x_int
  exact x_var 1
  exact x_int
  refine s_cons ?_ ?_
  refine s_ret ?_
  exact x_var 2
  exact s_nil
set_option maxHeartbeats 0 in
theorem w1 (Z : Zs K mg ci)  (F : FunD K "_law_odd" "_law_odd" (defArgs s1) (defBody s1) (defScope s1) [] [] fa fd) : FnAt P w K mg base ci T fuel 1 fa fd ["_law_m", "_law_e"] := by
  have S : FnScope ["_law_m", "_law_e"] ["_law_m", "_law_e"] (defScope s1) := ⟨rfl, rfl, rfl, by decide +kernel, rfl, by decide +kernel, by decide +kernel⟩
  refine fn_ok F S rfl fun k cdv A outer s H E bd => ?_
  refine s_cons ?_ ?_
  refine s_ite ?_ ?_ ?_
  refine r_tcmp (o := .eq) bd.hu (by rfl) ?_ ?_
  exact x_var 0
  exact x_int
  refine s_cons ?_ ?_
  refine s_ret ?_
  refine r_tup ?_
  refine r_cons rfl ?_ ?_
  exact x_int
  refine r_cons rfl ?_ ?_
  exact x_int
  exact r_nil
  exact s_nil
  exact s_nil
  refine s_cons ?_ ?_
  refine s_whl bd.po ?_ ?_
  refine r_tcmp (o := .eq) bd.hu (by rfl) ?_ ?_
  refine r_bin (o := .mod) ?_ ?_
  exact x_var 0
  exact x_int
  exact x_int
  refine s_cons ?_ ?_
  refine s_asg ?_ ?_ rfl rfl rfl
  refine r_bin (o := .fdv) ?_ ?_
  exact x_var 0
  exact x_int
  exact g_name (pg_name (i := 0) S.nd rfl (by first | exact .inl rfl | exact .inr rfl))
  refine s_cons ?_ ?_
  refine s_asg ?_ ?_ rfl rfl rfl
  refine r_bin (o := .add) ?_ ?_
  exact x_var 1
  exact x_int
  exact g_name (pg_name (i := 1) S.nd rfl (by first | exact .inl rfl | exact .inr rfl))
  exact s_nil
  refine s_cons ?_ ?_
  refine s_ret ?_
  refine r_tup ?_
  refine r_cons rfl ?_ ?_
  exact x_var 0
  refine r_cons rfl ?_ ?_
  exact x_var 1
  exact r_nil
  exact s_nil
set_option maxHeartbeats 0 in
theorem w2 (Z : Zs K mg ci) (C1 : Cal P w K mg base ci T fuel "_law_odd" 1 ["_law_m", "_law_e"] (defArgs s1) (defBody s1) (defScope s1) []) (C0 : Cal P w K mg base ci T fuel "_law_take" 0 ["_law_pile", "_law_size"] (defArgs s0) (defBody s0) (defScope s0) []) (F : FunD K "_law_number" "_law_number" (defArgs s2) (defBody s2) (defScope s2) [] [] fa fd) : FnAt P w K mg base ci T fuel 2 fa fd ["_law_pile"] := by
  have S : FnScope ["_law_pile", "_law_way", "_law_most", "_law_far", "_law_m"] ["_law_pile"] (defScope s2) := ⟨rfl, rfl, rfl, by decide +kernel, rfl, by decide +kernel, by decide +kernel⟩
  refine fn_ok F S rfl fun k cdv A outer s H E bd => ?_
  refine s_cons ?_ ?_
  refine s_asg ?_ ?_ rfl rfl rfl
  refine x_call C0 bd.hr bd.tk (fun _ _ => bn0) ?_
  refine ra_own rfl (x_own 0) ?_
  refine ra_val rfl ?_ ?_
  exact x_int
  exact ra_nil
  exact g_name (pg_name (i := 1) S.nd rfl (by first | exact .inl rfl | exact .inr rfl))
  refine s_cons ?_ ?_
  refine s_asg ?_ ?_ rfl rfl rfl
  refine r_idx (by exact fun _ _ => rfl) ?_ ?_
  refine r_lst ?_
  refine r_cons rfl ?_ ?_
  exact x_int
  refine r_cons rfl ?_ ?_
  exact x_int
  refine r_cons rfl ?_ ?_
  refine r_bin (o := .pow) ?_ ?_
  exact x_int
  exact x_int
  refine r_cons rfl ?_ ?_
  refine r_bin (o := .pow) ?_ ?_
  exact x_int
  exact x_int
  refine r_cons rfl ?_ ?_
  refine r_bin (o := .shl) ?_ ?_
  exact x_int
  exact x_int
  exact r_nil
  exact x_var 1
  exact g_name (pg_name (i := 2) S.nd rfl (by first | exact .inl rfl | exact .inr rfl))
  refine s_cons ?_ ?_
  refine s_asg ?_ ?_ rfl rfl rfl
  refine r_idx (by exact fun _ _ => rfl) ?_ ?_
  refine r_lst ?_
  refine r_cons rfl ?_ ?_
  exact x_int
  refine r_cons rfl ?_ ?_
  exact x_int
  refine r_cons rfl ?_ ?_
  exact x_int
  refine r_cons rfl ?_ ?_
  exact x_int
  refine r_cons rfl ?_ ?_
  exact x_int
  exact r_nil
  exact x_var 1
  exact g_name (pg_name (i := 3) S.nd rfl (by first | exact .inl rfl | exact .inr rfl))
  refine s_cons ?_ ?_
  refine s_asg ?_ ?_ rfl rfl rfl
  refine r_bin (o := .add) ?_ ?_
  refine r_bin (o := .sub) ?_ ?_
  refine x_call C0 bd.hr bd.tk (fun _ _ => bn0) ?_
  refine ra_own rfl (x_own 0) ?_
  refine ra_val rfl ?_ ?_
  refine r_bin (o := .mul) ?_ ?_
  exact x_int
  exact x_var 2
  exact ra_nil
  exact x_var 2
  exact x_int
  exact g_name (pg_name (i := 4) S.nd rfl (by first | exact .inl rfl | exact .inr rfl))
  refine s_cons ?_ ?_
  refine s_ret ?_
  refine x_call C1 bd.hr bd.tk (fun _ _ => bn1) ?_
  refine ra_val rfl ?_ ?_
  exact x_var 4
  refine ra_val rfl ?_ ?_
  refine r_bin (o := .sub) ?_ ?_
  refine x_call C0 bd.hr bd.tk (fun _ _ => bn0) ?_
  refine ra_own rfl (x_own 0) ?_
  refine ra_val rfl ?_ ?_
  refine r_bin (o := .sub) ?_ ?_
  refine r_bin (o := .mul) ?_ ?_
  exact x_int
  exact x_var 3
  refine r_bin (o := .mul) ?_ ?_
  exact x_int
  refine x_int1 Z.z_int ?_
  refine r_cmp (o := .eq) bd.hu (by rfl) ?_ ?_
  exact x_var 1
  exact x_int
  exact ra_nil
  exact x_var 3
  exact ra_nil
  exact s_nil
set_option maxHeartbeats 0 in
theorem w3 (Z : Zs K mg ci)  (F : FunD K "_law_at" "_law_at" (defArgs s3) (defBody s3) (defScope s3) [] [] fa fd) : FnAt P w K mg base ci T fuel 3 fa fd ["_law_number_here", "_law_e"] := by
  have S : FnScope ["_law_number_here", "_law_e"] ["_law_number_here", "_law_e"] (defScope s3) := ⟨rfl, rfl, rfl, by decide +kernel, rfl, by decide +kernel, by decide +kernel⟩
  refine fn_ok F S rfl fun k cdv A outer s H E bd => ?_
  refine s_cons ?_ ?_
  refine s_ret ?_
  refine r_bin (o := .shl) ?_ ?_
  refine r_idx (by exact fun _ _ => rfl) ?_ ?_
  exact x_var 0
  exact x_int
  refine r_bin (o := .sub) ?_ ?_
  refine r_idx (by exact fun _ _ => rfl) ?_ ?_
  exact x_var 0
  exact x_int
  exact x_var 1
  exact s_nil
set_option maxHeartbeats 0 in
theorem w4 (Z : Zs K mg ci) (C3 : Cal P w K mg base ci T fuel "_law_at" 3 ["_law_number_here", "_law_e"] (defArgs s3) (defBody s3) (defScope s3) []) (F : FunD K "_law_compared" "_law_compared" (defArgs s4) (defBody s4) (defScope s4) [] [] fa fd) : FnAt P w K mg base ci T fuel 4 fa fd ["_law_one_own", "_law_other_own"] := by
  have S : FnScope ["_law_one_own", "_law_other_own", "_law_least_own", "_law_left", "_law_right"] ["_law_one_own", "_law_other_own"] (defScope s4) := ⟨rfl, rfl, rfl, by decide +kernel, rfl, by decide +kernel, by decide +kernel⟩
  refine fn_ok F S rfl fun k cdv A outer s H E bd => ?_
  refine s_cons ?_ ?_
  refine s_asg ?_ ?_ rfl rfl rfl
  refine x_min rfl Z.z_min ?_ ?_
  refine r_idx (by exact fun _ _ => rfl) ?_ ?_
  exact x_var 0
  exact x_int
  refine r_idx (by exact fun _ _ => rfl) ?_ ?_
  exact x_var 1
  exact x_int
  exact g_name (pg_name (i := 2) S.nd rfl (by first | exact .inl rfl | exact .inr rfl))
  refine s_cons ?_ ?_
  refine s_asg ?_ ?_ rfl rfl rfl
  refine x_call C3 bd.hr bd.tk (fun _ _ => bn2) ?_
  refine ra_val rfl ?_ ?_
  exact x_var 0
  refine ra_val rfl ?_ ?_
  exact x_var 2
  exact ra_nil
  exact g_name (pg_name (i := 3) S.nd rfl (by first | exact .inl rfl | exact .inr rfl))
  refine s_cons ?_ ?_
  refine s_asg ?_ ?_ rfl rfl rfl
  refine x_call C3 bd.hr bd.tk (fun _ _ => bn2) ?_
  refine ra_val rfl ?_ ?_
  exact x_var 1
  refine ra_val rfl ?_ ?_
  exact x_var 2
  exact ra_nil
  exact g_name (pg_name (i := 4) S.nd rfl (by first | exact .inl rfl | exact .inr rfl))
  refine s_cons ?_ ?_
  refine s_ret ?_
  refine r_bin (o := .sub) ?_ ?_
  refine x_int1 Z.z_int ?_
  refine r_cmp (o := .gt) bd.hu (by rfl) ?_ ?_
  exact x_var 3
  exact x_var 4
  refine x_int1 Z.z_int ?_
  refine r_cmp (o := .lt) bd.hu (by rfl) ?_ ?_
  exact x_var 3
  exact x_var 4
  exact s_nil
set_option maxHeartbeats 0 in
theorem w5 (Z : Zs K mg ci) (C4 : Cal P w K mg base ci T fuel "_law_compared" 4 ["_law_one_own", "_law_other_own"] (defArgs s4) (defBody s4) (defScope s4) []) (C0 : Cal P w K mg base ci T fuel "_law_take" 0 ["_law_pile", "_law_size"] (defArgs s0) (defBody s0) (defScope s0) []) (C1 : Cal P w K mg base ci T fuel "_law_odd" 1 ["_law_m", "_law_e"] (defArgs s1) (defBody s1) (defScope s1) []) (C2 : Cal P w K mg base ci T fuel "_law_number" 2 ["_law_pile"] (defArgs s2) (defBody s2) (defScope s2) []) (F : FunD K "_law_pair" "_law_pair" (defArgs s5) (defBody s5) (defScope s5) [] [] fa fd) : FnAt P w K mg base ci T fuel 5 fa fd ["_law_pile"] := by
  have S : FnScope ["_law_pile", "_law_one_own", "_law_other_own"] ["_law_pile"] (defScope s5) := ⟨rfl, rfl, rfl, by decide +kernel, rfl, by decide +kernel, by decide +kernel⟩
  refine fn_ok F S rfl fun k cdv A outer s H E bd => ?_
  refine s_cons ?_ ?_
  refine s_asg ?_ ?_ rfl rfl rfl
  refine x_call C2 bd.hr bd.tk (fun _ _ => bn4) ?_
  refine ra_own rfl (x_own 0) ?_
  exact ra_nil
  exact g_name (pg_name (i := 1) S.nd rfl (by first | exact .inl rfl | exact .inr rfl))
  refine s_cons ?_ ?_
  refine s_asg ?_ ?_ rfl rfl rfl
  refine x_call C2 bd.hr bd.tk (fun _ _ => bn4) ?_
  refine ra_own rfl (x_own 0) ?_
  exact ra_nil
  exact g_name (pg_name (i := 2) S.nd rfl (by first | exact .inl rfl | exact .inr rfl))
  refine s_cons ?_ ?_
  refine s_ite ?_ ?_ ?_
  refine pw_pt ?_
  refine r_tand ?_ ?_
  refine r_tcmp (o := .eq) bd.hu (by rfl) ?_ ?_
  refine x_call C0 bd.hr bd.tk (fun _ _ => bn0) ?_
  refine ra_own rfl (x_own 0) ?_
  refine ra_val rfl ?_ ?_
  exact x_int
  exact ra_nil
  exact x_int
  refine pw_and1 ?_
  refine r_tcmp (o := .gt) bd.hu (by rfl) ?_ ?_
  refine r_idx (by exact fun _ _ => rfl) ?_ ?_
  exact x_var 1
  exact x_int
  refine r_bin (o := .sub) ?_ ?_
  exact x_int
  exact x_int
  refine s_cons ?_ ?_
  refine s_asg ?_ ?_ rfl rfl rfl
  refine x_call C1 bd.hr bd.tk (fun _ _ => bn1) ?_
  refine ra_val rfl ?_ ?_
  refine r_bin (o := .add) ?_ ?_
  refine r_bin (o := .mul) ?_ ?_
  refine r_idx (by exact fun _ _ => rfl) ?_ ?_
  exact x_var 1
  exact x_int
  exact x_int
  refine x_call C0 bd.hr bd.tk (fun _ _ => bn0) ?_
  refine ra_own rfl (x_own 0) ?_
  refine ra_val rfl ?_ ?_
  exact x_int
  exact ra_nil
  refine ra_val rfl ?_ ?_
  refine r_bin (o := .sub) ?_ ?_
  refine r_idx (by exact fun _ _ => rfl) ?_ ?_
  exact x_var 1
  exact x_int
  exact x_int
  exact ra_nil
  exact g_name (pg_name (i := 2) S.nd rfl (by first | exact .inl rfl | exact .inr rfl))
  exact s_nil
  exact s_nil
  refine s_cons ?_ ?_
  refine s_ite ?_ ?_ ?_
  refine r_tcmp (o := .gt) bd.hu (by rfl) ?_ ?_
  refine x_call C4 bd.hr bd.tk (fun _ _ => bn3) ?_
  refine ra_val rfl ?_ ?_
  exact x_var 1
  refine ra_val rfl ?_ ?_
  exact x_var 2
  exact ra_nil
  exact x_int
  refine s_cons ?_ ?_
  refine s_ret ?_
  refine r_tup ?_
  refine r_cons rfl ?_ ?_
  exact x_var 2
  refine r_cons rfl ?_ ?_
  exact x_var 1
  exact r_nil
  exact s_nil
  exact s_nil
  refine s_cons ?_ ?_
  refine s_ret ?_
  refine r_tup ?_
  refine r_cons rfl ?_ ?_
  exact x_var 1
  refine r_cons rfl ?_ ?_
  exact x_var 2
  exact r_nil
  exact s_nil
set_option maxHeartbeats 0 in
theorem w6 (Z : Zs K mg ci)  (F : FunD K "_law_mixed" "_law_mixed" (defArgs s6) (defBody s6) (defScope s6) [] [] fa fd) : FnAt P w K mg base ci T fuel 6 fa fd ["_law_cell_here", "_law_k"] := by
  have S : FnScope ["_law_cell_here", "_law_k", "_law_mix"] ["_law_cell_here", "_law_k"] (defScope s6) := ⟨rfl, rfl, rfl, by decide +kernel, rfl, by decide +kernel, by decide +kernel⟩
  refine fn_ok F S rfl fun k cdv A outer s H E bd => ?_
  refine s_cons ?_ ?_
  refine s_asg ?_ ?_ rfl rfl rfl
  refine r_bin (o := .mod) ?_ ?_
  refine r_bin (o := .add) ?_ ?_
  refine r_bin (o := .add) ?_ ?_
  refine r_bin (o := .mul) ?_ ?_
  refine r_bin (o := .mod) ?_ ?_
  exact x_var 0
  exact x_int
  exact x_int
  refine r_bin (o := .mul) ?_ ?_
  exact x_var 1
  exact x_int
  exact x_int
  exact x_int
  exact g_name (pg_name (i := 2) S.nd rfl (by first | exact .inl rfl | exact .inr rfl))
  refine s_cons ?_ ?_
  refine s_asg ?_ ?_ rfl rfl rfl
  refine r_bin (o := .mod) ?_ ?_
  refine r_bin (o := .mul) ?_ ?_
  exact x_var 2
  exact x_var 2
  exact x_int
  exact g_name (pg_name (i := 2) S.nd rfl (by first | exact .inl rfl | exact .inr rfl))
  refine s_cons ?_ ?_
  refine s_ret ?_
  refine r_bin (o := .mod) ?_ ?_
  refine r_bin (o := .mul) ?_ ?_
  exact x_var 2
  refine r_bin (o := .add) ?_ ?_
  exact x_var 2
  exact x_int
  exact x_int
  exact s_nil
set_option maxHeartbeats 0 in
theorem w7 (Z : Zs K mg ci) (C6 : Cal P w K mg base ci T fuel "_law_mixed" 6 ["_law_cell_here", "_law_k"] (defArgs s6) (defBody s6) (defScope s6) []) (F : FunD K "_law_cell" "_law_cell" (defArgs s7) (defBody s7) (defScope s7) [] [] fa fd) : FnAt P w K mg base ci T fuel 7 fa fd ["_law_script", "_law_k"] := by
  have S : FnScope ["_law_script", "_law_k", "_law_cell_here", "_law_found", "_law_j"] ["_law_script", "_law_k"] (defScope s7) := ⟨rfl, rfl, rfl, by decide +kernel, rfl, by decide +kernel, by decide +kernel⟩
  refine fn_ok F S rfl fun k cdv A outer s H E bd => ?_
  refine s_cons ?_ ?_
  refine s_asg ?_ ?_ rfl rfl rfl
  exact x_int
  exact g_name (pg_name (i := 2) S.nd rfl (by first | exact .inl rfl | exact .inr rfl))
  refine s_cons ?_ ?_
  refine s_ite ?_ ?_ ?_
  refine r_tcmp (o := .lt) bd.hu (by rfl) ?_ ?_
  exact x_var 1
  refine x_len Z.z_len ?_
  exact x_var 0
  refine s_cons ?_ ?_
  refine s_asg ?_ ?_ rfl rfl rfl
  refine r_idx (by exact fun _ _ => rfl) ?_ ?_
  exact x_var 0
  exact x_var 1
  exact g_name (pg_name (i := 2) S.nd rfl (by first | exact .inl rfl | exact .inr rfl))
  exact s_nil
  exact s_nil
  refine s_cons ?_ ?_
  refine s_ite ?_ ?_ ?_
  refine r_tcmp (o := .ge) bd.hu (by rfl) ?_ ?_
  exact x_var 2
  refine r_bin (o := .pow) ?_ ?_
  exact x_int
  exact x_int
  refine s_cons ?_ ?_
  refine s_ret ?_
  refine r_bin (o := .mod) ?_ ?_
  refine r_bin (o := .sub) ?_ ?_
  exact x_var 2
  refine r_bin (o := .pow) ?_ ?_
  exact x_int
  exact x_int
  refine r_bin (o := .mul) ?_ ?_
  refine r_bin (o := .mul) ?_ ?_
  refine r_bin (o := .mul) ?_ ?_
  refine r_bin (o := .pow) ?_ ?_
  exact x_int
  exact x_int
  refine r_bin (o := .pow) ?_ ?_
  exact x_int
  exact x_int
  refine r_bin (o := .pow) ?_ ?_
  exact x_int
  exact x_int
  refine r_bin (o := .pow) ?_ ?_
  exact x_int
  exact x_int
  exact s_nil
  exact s_nil
  refine s_cons ?_ ?_
  refine s_asg ?_ ?_ rfl rfl rfl
  exact x_int
  exact g_name (pg_name (i := 3) S.nd rfl (by first | exact .inl rfl | exact .inr rfl))
  refine s_cons ?_ ?_
  refine s_for bd.po rfl ?_ ?_ ?_ (fun _ => rfl)
  refine ri_rng1 rfl Z.z_range rfl ?_
  exact x_int
  exact g_name (pg_name (i := 4) S.nd rfl (by first | exact .inl rfl | exact .inr rfl))
  refine s_cons ?_ ?_
  refine s_asg ?_ ?_ rfl rfl rfl
  refine r_bin (o := .add) ?_ ?_
  refine r_bin (o := .mul) ?_ ?_
  exact x_var 3
  exact x_int
  refine x_call C6 bd.hr bd.tk (fun _ _ => bn5) ?_
  refine ra_val rfl ?_ ?_
  exact x_var 2
  refine ra_val rfl ?_ ?_
  refine r_bin (o := .add) ?_ ?_
  refine r_bin (o := .add) ?_ ?_
  refine r_bin (o := .mul) ?_ ?_
  exact x_int
  exact x_var 1
  refine r_bin (o := .mul) ?_ ?_
  exact x_int
  exact x_var 4
  refine r_bin (o := .mul) ?_ ?_
  exact x_var 4
  exact x_var 4
  exact ra_nil
  exact g_name (pg_name (i := 3) S.nd rfl (by first | exact .inl rfl | exact .inr rfl))
  exact s_nil
  refine s_cons ?_ ?_
  refine s_ret ?_
  exact x_var 3
  exact s_nil
set_option maxHeartbeats 0 in
theorem w8 (Z : Zs K mg ci)  (F : FunD K "at_power" "at_power" (defArgs s8) (defBody s8) (defScope s8) [] [] fa fd) : FnAt P w K mg base ci T fuel 8 fa fd ["number", "e"] := by
  have S : FnScope ["number", "e"] ["number", "e"] (defScope s8) := ⟨rfl, rfl, rfl, by decide +kernel, rfl, by decide +kernel, by decide +kernel⟩
  refine fn_ok F S rfl fun k cdv A outer s H E bd => ?_
  refine s_cons ?_ ?_
  refine s_ret ?_
  refine r_bin (o := .shl) ?_ ?_
  refine r_idx (by exact fun _ _ => rfl) ?_ ?_
  exact x_var 0
  exact x_int
  refine r_bin (o := .sub) ?_ ?_
  refine r_idx (by exact fun _ _ => rfl) ?_ ?_
  exact x_var 0
  exact x_int
  exact x_var 1
  exact s_nil
set_option maxHeartbeats 0 in
theorem w9 (Z : Zs K mg ci) (C8 : Cal P w K mg base ci T fuel "at_power" 8 ["number", "e"] (defArgs s8) (defBody s8) (defScope s8) []) (F : FunD K "compared" "compared" (defArgs s9) (defBody s9) (defScope s9) [] [] fa fd) : FnAt P w K mg base ci T fuel 9 fa fd ["one", "other"] := by
  have S : FnScope ["one", "other", "least", "left", "right"] ["one", "other"] (defScope s9) := ⟨rfl, rfl, rfl, by decide +kernel, rfl, by decide +kernel, by decide +kernel⟩
  refine fn_ok F S rfl fun k cdv A outer s H E bd => ?_
  refine s_cons ?_ ?_
  refine s_asg ?_ ?_ rfl rfl rfl
  refine x_min rfl Z.z_min ?_ ?_
  refine r_idx (by exact fun _ _ => rfl) ?_ ?_
  exact x_var 0
  exact x_int
  refine r_idx (by exact fun _ _ => rfl) ?_ ?_
  exact x_var 1
  exact x_int
  exact g_name (pg_name (i := 2) S.nd rfl (by first | exact .inl rfl | exact .inr rfl))
  refine s_cons ?_ ?_
  refine s_par (i := 3) (j := 4) rfl S.nd rfl rfl (by decide) rfl rfl rfl rfl ?_
  refine r_cons rfl ?_ ?_
  refine x_call C8 bd.hr bd.tk (fun _ _ => bn6) ?_
  refine ra_val rfl ?_ ?_
  exact x_var 0
  refine ra_val rfl ?_ ?_
  exact x_var 2
  exact ra_nil
  refine r_cons rfl ?_ ?_
  refine x_call C8 bd.hr bd.tk (fun _ _ => bn6) ?_
  refine ra_val rfl ?_ ?_
  exact x_var 1
  refine ra_val rfl ?_ ?_
  exact x_var 2
  exact ra_nil
  exact r_nil
  refine s_cons ?_ ?_
  refine s_ret ?_
  refine r_bin (o := .sub) ?_ ?_
  refine x_int1 Z.z_int ?_
  refine r_cmp (o := .gt) bd.hu (by rfl) ?_ ?_
  exact x_var 3
  exact x_var 4
  refine x_int1 Z.z_int ?_
  refine r_cmp (o := .lt) bd.hu (by rfl) ?_ ?_
  exact x_var 3
  exact x_var 4
  exact s_nil
set_option maxHeartbeats 0 in
theorem w10 (Z : Zs K mg ci)  (F : FunD K "is_whole" "is_whole" (defArgs s10) (defBody s10) (defScope s10) [] [] fa fd) : FnAt P w K mg base ci T fuel 10 fa fd ["thing"] := by
  have S : FnScope ["thing"] ["thing"] (defScope s10) := ⟨rfl, rfl, rfl, by decide +kernel, rfl, by decide +kernel, by decide +kernel⟩
  refine fn_ok F S rfl fun k cdv A outer s H E bd => ?_
  refine s_cons ?_ ?_
  refine s_ret ?_
  refine r_and ?_ ?_
  refine x_isa 0 rfl Z.z_isinstance Z.z_int ?_
  exact x_var 0
  refine pe_one ?_
  refine r_not ?_
  refine x_isa 1 rfl Z.z_isinstance Z.z_bool ?_
  exact x_var 0
  exact s_nil
set_option maxHeartbeats 0 in
theorem w11 (Z : Zs K mg ci) (C10 : Cal P w K mg base ci T fuel "is_whole" 10 ["thing"] (defArgs s10) (defBody s10) (defScope s10) []) (F : FunD K "is_number" "is_number" (defArgs s11) (defBody s11) (defScope s11) [] [] fa fd) : FnAt P w K mg base ci T fuel 11 fa fd ["thing"] := by
  have S : FnScope ["thing"] ["thing"] (defScope s11) := ⟨rfl, rfl, rfl, by decide +kernel, rfl, by decide +kernel, by decide +kernel⟩
  refine fn_ok F S rfl fun k cdv A outer s H E bd => ?_
  refine s_cons ?_ ?_
  refine s_ite ?_ ?_ ?_
  refine pw_pt ?_
  refine r_tor ?_ ?_
  refine r_tnot ?_
  refine r_tval ?_ (fun _ => rfl)
  refine x_isa 2 rfl Z.z_isinstance Z.z_tuple ?_
  exact x_var 0
  refine r_tor ?_ ?_
  refine r_tcmp (o := .ne) bd.hu (by rfl) ?_ ?_
  refine x_len Z.z_len ?_
  exact x_var 0
  exact x_int
  refine r_tor ?_ ?_
  refine r_tnot ?_
  refine r_tval ?_ (fun _ => rfl)
  refine x_call C10 bd.hr bd.tk (fun _ _ => bn7) ?_
  refine ra_val rfl ?_ ?_
  refine r_idx (by exact fun _ _ => rfl) ?_ ?_
  exact x_var 0
  exact x_int
  exact ra_nil
  refine pw_or1 ?_
  refine r_tnot ?_
  refine r_tval ?_ (fun _ => rfl)
  refine x_call C10 bd.hr bd.tk (fun _ _ => bn7) ?_
  refine ra_val rfl ?_ ?_
  refine r_idx (by exact fun _ _ => rfl) ?_ ?_
  exact x_var 0
  exact x_int
  exact ra_nil
  refine s_cons ?_ ?_
  refine s_ret ?_
  exact x_bl
  exact s_nil
  exact s_nil
  refine s_cons ?_ ?_
  refine s_ret ?_
  refine r_or ?_ ?_
  refine r_cmp (o := .eq) bd.hu (by rfl) ?_ ?_
  exact x_var 0
  exact x_glb Z.c_NOUGHT
  refine pe_one ?_
  refine r_cmp (o := .eq) bd.hu (by rfl) ?_ ?_
  refine r_bin (o := .mod) ?_ ?_
  refine r_idx (by exact fun _ _ => rfl) ?_ ?_
  exact x_var 0
  exact x_int
  exact x_int
  exact x_int
  exact s_nil
set_option maxHeartbeats 0 in
theorem w12 (Z : Zs K mg ci) (K0 : ClsOk K mg ci "Stretch" 0 ["low", "high"]) (C11 : Cal P w K mg base ci T fuel "is_number" 11 ["thing"] (defArgs s11) (defBody s11) (defScope s11) []) (C9 : Cal P w K mg base ci T fuel "compared" 9 ["one", "other"] (defArgs s9) (defBody s9) (defScope s9) []) (F : FunD K "__init__" "Stretch.__init__" (defArgs s12) (defBody s12) (defScope s12) [] [] fa fd) : FnNew P w K mg base ci T fuel 0 12 2 fa fd ["self", "low", "high"] := by
  have S : FnScope ["self", "low", "high"] ["self", "low", "high"] (defScope s12) := ⟨rfl, rfl, rfl, by decide +kernel, rfl, by decide +kernel, by decide +kernel⟩
  refine new_ok (nm := ["low", "high"]) F S K0.nmE (by decide +kernel) rfl (by decide) rfl fun k cdv A outer s H E bd => ?_
  refine n_if ?_ ?_
  refine pw_pt ?_
  refine r_tor ?_ ?_
  refine r_tnot ?_
  refine r_tval ?_ (fun _ => rfl)
  refine x_call C11 bd.hr bd.tk (fun _ _ => bn8) ?_
  refine ra_val rfl ?_ ?_
  exact x_var 1
  exact ra_nil
  refine pw_or1 ?_
  refine r_tnot ?_
  refine r_tval ?_ (fun _ => rfl)
  refine x_call C11 bd.hr bd.tk (fun _ _ => bn8) ?_
  refine ra_val rfl ?_ ?_
  exact x_var 2
  exact ra_nil
  refine n_if ?_ ?_
  refine r_tcmp (o := .gt) bd.hu (by rfl) ?_ ?_
  refine x_call C9 bd.hr bd.tk (fun _ _ => bn9) ?_
  refine ra_val rfl ?_ ?_
  exact x_var 1
  refine ra_val rfl ?_ ?_
  exact x_var 2
  exact ra_nil
  exact x_int
  refine n_pre ?_
  refine n_set K0 (by decide +kernel) (x_own 0) (x_own 1) rfl ?_
  refine n_set K0 (by decide +kernel) (x_own 0) (x_own 2) rfl ?_
  exact n_end
set_option maxHeartbeats 0 in
theorem w13 (Z : Zs K mg ci) (C4 : Cal P w K mg base ci T fuel "_law_compared" 4 ["_law_one_own", "_law_other_own"] (defArgs s4) (defBody s4) (defScope s4) []) (F : FunD K "_law_ends" "_law_ends" (defArgs s13) (defBody s13) (defScope s13) [] [] fa fd) : FnAt P w K mg base ci T fuel 13 fa fd ["_law_some"] := by
  have S : FnScope ["_law_some", "_law_low_end", "_law_high_end", "_law_one_own"] ["_law_some"] (defScope s13) := ⟨rfl, rfl, rfl, by decide +kernel, rfl, by decide +kernel, by decide +kernel⟩
  refine fn_ok F S rfl fun k cdv A outer s H E bd => ?_
  refine s_cons ?_ ?_
  refine s_asg ?_ ?_ rfl rfl rfl
  refine r_idx (by exact fun _ _ => rfl) ?_ ?_
  exact x_var 0
  exact x_int
  exact g_name (pg_name (i := 1) S.nd rfl (by first | exact .inl rfl | exact .inr rfl))
  refine s_cons ?_ ?_
  refine s_asg ?_ ?_ rfl rfl rfl
  refine r_idx (by exact fun _ _ => rfl) ?_ ?_
  exact x_var 0
  exact x_int
  exact g_name (pg_name (i := 2) S.nd rfl (by first | exact .inl rfl | exact .inr rfl))
  refine s_cons ?_ ?_
  refine s_for bd.po rfl ?_ ?_ ?_ (fun _ => rfl)
  refine ri_val ?_
  exact x_var 0
  exact g_name (pg_name (i := 3) S.nd rfl (by first | exact .inl rfl | exact .inr rfl))
  refine s_cons ?_ ?_
  refine s_ite ?_ ?_ ?_
  refine r_tcmp (o := .lt) bd.hu (by rfl) ?_ ?_
  refine x_call C4 bd.hr bd.tk (fun _ _ => bn3) ?_
  refine ra_val rfl ?_ ?_
  exact x_var 3
  refine ra_val rfl ?_ ?_
  exact x_var 1
  exact ra_nil
  exact x_int
  refine s_cons ?_ ?_
  refine s_asg ?_ ?_ rfl rfl rfl
  exact x_var 3
  exact g_name (pg_name (i := 1) S.nd rfl (by first | exact .inl rfl | exact .inr rfl))
  exact s_nil
  exact s_nil
  refine s_cons ?_ ?_
  refine s_ite ?_ ?_ ?_
  refine r_tcmp (o := .gt) bd.hu (by rfl) ?_ ?_
  refine x_call C4 bd.hr bd.tk (fun _ _ => bn3) ?_
  refine ra_val rfl ?_ ?_
  exact x_var 3
  refine ra_val rfl ?_ ?_
  exact x_var 2
  exact ra_nil
  exact x_int
  refine s_cons ?_ ?_
  refine s_asg ?_ ?_ rfl rfl rfl
  exact x_var 3
  exact g_name (pg_name (i := 2) S.nd rfl (by first | exact .inl rfl | exact .inr rfl))
  exact s_nil
  exact s_nil
  exact s_nil
  refine s_cons ?_ ?_
  refine s_ret ?_
  refine r_tup ?_
  refine r_cons rfl ?_ ?_
  exact x_var 1
  refine r_cons rfl ?_ ?_
  exact x_var 2
  exact r_nil
  exact s_nil
set_option maxHeartbeats 0 in
theorem w14 (Z : Zs K mg ci) (C1 : Cal P w K mg base ci T fuel "_law_odd" 1 ["_law_m", "_law_e"] (defArgs s1) (defBody s1) (defScope s1) []) (C3 : Cal P w K mg base ci T fuel "_law_at" 3 ["_law_number_here", "_law_e"] (defArgs s3) (defBody s3) (defScope s3) []) (F : FunD K "_law_sum" "_law_sum" (defArgs s14) (defBody s14) (defScope s14) [] [] fa fd) : FnAt P w K mg base ci T fuel 14 fa fd ["_law_one_own", "_law_other_own", "_law_sign"] := by
  have S : FnScope ["_law_one_own", "_law_other_own", "_law_sign", "_law_least_own"] ["_law_one_own", "_law_other_own", "_law_sign"] (defScope s14) := ⟨rfl, rfl, rfl, by decide +kernel, rfl, by decide +kernel, by decide +kernel⟩
  refine fn_ok F S rfl fun k cdv A outer s H E bd => ?_
  refine s_cons ?_ ?_
  refine s_asg ?_ ?_ rfl rfl rfl
  refine x_min rfl Z.z_min ?_ ?_
  refine r_idx (by exact fun _ _ => rfl) ?_ ?_
  exact x_var 0
  exact x_int
  refine r_idx (by exact fun _ _ => rfl) ?_ ?_
  exact x_var 1
  exact x_int
  exact g_name (pg_name (i := 3) S.nd rfl (by first | exact .inl rfl | exact .inr rfl))
  refine s_cons ?_ ?_
  refine s_ret ?_
  refine x_call C1 bd.hr bd.tk (fun _ _ => bn1) ?_
  refine ra_val rfl ?_ ?_
  refine r_bin (o := .add) ?_ ?_
  refine x_call C3 bd.hr bd.tk (fun _ _ => bn2) ?_
  refine ra_val rfl ?_ ?_
  exact x_var 0
  refine ra_val rfl ?_ ?_
  exact x_var 3
  exact ra_nil
  refine r_bin (o := .mul) ?_ ?_
  exact x_var 2
  refine x_call C3 bd.hr bd.tk (fun _ _ => bn2) ?_
  refine ra_val rfl ?_ ?_
  exact x_var 1
  refine ra_val rfl ?_ ?_
  exact x_var 3
  exact ra_nil
  refine ra_val rfl ?_ ?_
  exact x_var 3
  exact ra_nil
  exact s_nil
set_option maxHeartbeats 0 in
theorem w15 (Z : Zs K mg ci) (K0 : ClsOk K mg ci "Stretch" 0 ["low", "high"]) (F : FunD K "look_at_stretch" "look_at_stretch" (defArgs s15) (defBody s15) (defScope s15) [] [] fa fd) : FnAt P w K mg base ci T fuel 15 fa fd ["thing"] := by
  have S : FnScope ["thing"] ["thing"] (defScope s15) := ⟨rfl, rfl, rfl, by decide +kernel, rfl, by decide +kernel, by decide +kernel⟩
  refine fn_ok F S rfl fun k cdv A outer s H E bd => ?_
  refine s_cons ?_ ?_
  refine s_ite ?_ ?_ ?_
  refine r_tnot ?_
  refine r_tval ?_ (fun _ => rfl)
  refine x_isc K0 Z.z_isinstance ?_
  exact x_var 0
  refine s_cons ?_ ?_
  exact s_never
  exact s_nil
  exact s_nil
  exact s_nil
set_option maxHeartbeats 0 in
theorem w16 (Z : Zs K mg ci)  (F : FunD K "dot" "dot" (defArgs s16) (defBody s16) (defScope s16) [] [] fa fd) : FnAt P w K mg base ci T fuel 16 fa fd ["m", "e"] := by
  have S : FnScope ["m", "e", "by"] ["m", "e"] (defScope s16) := ⟨rfl, rfl, rfl, by decide +kernel, rfl, by decide +kernel, by decide +kernel⟩
  refine fn_ok F S rfl fun k cdv A outer s H E bd => ?_
  refine s_cons ?_ ?_
  refine s_ite ?_ ?_ ?_
  refine r_tcmp (o := .eq) bd.hu (by rfl) ?_ ?_
  exact x_var 0
  exact x_int
  refine s_cons ?_ ?_
  refine s_ret ?_
  exact x_glb Z.c_NOUGHT
  exact s_nil
  exact s_nil
  refine s_cons ?_ ?_
  refine s_asg ?_ ?_ rfl rfl rfl
  exact x_int
  exact g_name (pg_name (i := 2) S.nd rfl (by first | exact .inl rfl | exact .inr rfl))
  refine s_cons ?_ ?_
  refine s_whl bd.po ?_ ?_
  refine r_tcmp (o := .gt) bd.hu (by rfl) ?_ ?_
  exact x_var 2
  exact x_int
  refine s_cons ?_ ?_
  refine s_whl bd.po ?_ ?_
  refine r_tcmp (o := .eq) bd.hu (by rfl) ?_ ?_
  refine r_bin (o := .mod) ?_ ?_
  exact x_var 0
  refine r_bin (o := .shl) ?_ ?_
  exact x_int
  exact x_var 2
  exact x_int
  refine s_cons ?_ ?_
  refine s_asg ?_ ?_ rfl rfl rfl
  refine r_bin (o := .shr) ?_ ?_
  exact x_var 0
  exact x_var 2
  exact g_name (pg_name (i := 0) S.nd rfl (by first | exact .inl rfl | exact .inr rfl))
  refine s_cons ?_ ?_
  refine s_asg ?_ ?_ rfl rfl rfl
  refine r_bin (o := .add) ?_ ?_
  exact x_var 1
  exact x_var 2
  exact g_name (pg_name (i := 1) S.nd rfl (by first | exact .inl rfl | exact .inr rfl))
  exact s_nil
  refine s_cons ?_ ?_
  refine s_asg ?_ ?_ rfl rfl rfl
  refine r_bin (o := .fdv) ?_ ?_
  exact x_var 2
  exact x_int
  exact g_name (pg_name (i := 2) S.nd rfl (by first | exact .inl rfl | exact .inr rfl))
  exact s_nil
  refine s_cons ?_ ?_
  refine s_ret ?_
  refine r_tup ?_
  refine r_cons rfl ?_ ?_
  exact x_var 0
  refine r_cons rfl ?_ ?_
  exact x_var 1
  exact r_nil
  exact s_nil
set_option maxHeartbeats 0 in
theorem w17 (Z : Zs K mg ci) (C16 : Cal P w K mg base ci T fuel "dot" 16 ["m", "e"] (defArgs s16) (defBody s16) (defScope s16) []) (C8 : Cal P w K mg base ci T fuel "at_power" 8 ["number", "e"] (defArgs s8) (defBody s8) (defScope s8) []) (F : FunD K "added" "added" (defArgs s17) (defBody s17) (defScope s17) [] [] fa fd) : FnAt P w K mg base ci T fuel 17 fa fd ["one", "other"] := by
  have S : FnScope ["one", "other", "least"] ["one", "other"] (defScope s17) := ⟨rfl, rfl, rfl, by decide +kernel, rfl, by decide +kernel, by decide +kernel⟩
  refine fn_ok F S rfl fun k cdv A outer s H E bd => ?_
  refine s_cons ?_ ?_
  refine s_asg ?_ ?_ rfl rfl rfl
  refine x_min rfl Z.z_min ?_ ?_
  refine r_idx (by exact fun _ _ => rfl) ?_ ?_
  exact x_var 0
  exact x_int
  refine r_idx (by exact fun _ _ => rfl) ?_ ?_
  exact x_var 1
  exact x_int
  exact g_name (pg_name (i := 2) S.nd rfl (by first | exact .inl rfl | exact .inr rfl))
  refine s_cons ?_ ?_
  refine s_ret ?_
  refine x_call C16 bd.hr bd.tk (fun _ _ => bn10) ?_
  refine ra_val rfl ?_ ?_
  refine r_bin (o := .add) ?_ ?_
  refine x_call C8 bd.hr bd.tk (fun _ _ => bn6) ?_
  refine ra_val rfl ?_ ?_
  exact x_var 0
  refine ra_val rfl ?_ ?_
  exact x_var 2
  exact ra_nil
  refine x_call C8 bd.hr bd.tk (fun _ _ => bn6) ?_
  refine ra_val rfl ?_ ?_
  exact x_var 1
  refine ra_val rfl ?_ ?_
  exact x_var 2
  exact ra_nil
  refine ra_val rfl ?_ ?_
  exact x_var 2
  exact ra_nil
  exact s_nil
set_option maxHeartbeats 0 in
theorem w18 (Z : Zs K mg ci) (K0 : ClsOk K mg ci "Stretch" 0 ["low", "high"]) (C12 : MkC P w K mg base ci T fuel 0 12 2 ["self", "low", "high"]) (C17 : Cal P w K mg base ci T fuel "added" 17 ["one", "other"] (defArgs s17) (defBody s17) (defScope s17) []) (C15 : Cal P w K mg base ci T fuel "look_at_stretch" 15 ["thing"] (defArgs s15) (defBody s15) (defScope s15) []) (F : FunD K "sum_of" "sum_of" (defArgs s18) (defBody s18) (defScope s18) [] [] fa fd) : FnAt P w K mg base ci T fuel 18 fa fd ["one", "other"] := by
  have S : FnScope ["one", "other"] ["one", "other"] (defScope s18) := ⟨rfl, rfl, rfl, by decide +kernel, rfl, by decide +kernel, by decide +kernel⟩
  refine fn_ok F S rfl fun k cdv A outer s H E bd => ?_
  refine s_cons ?_ ?_
  refine s_exp rfl ?_
  refine x_call C15 bd.hr bd.tk (fun _ _ => bn12) ?_
  refine ra_val rfl ?_ ?_
  exact x_var 0
  exact ra_nil
  refine s_cons ?_ ?_
  refine s_exp rfl ?_
  refine x_call C15 bd.hr bd.tk (fun _ _ => bn12) ?_
  refine ra_val rfl ?_ ?_
  exact x_var 1
  exact ra_nil
  refine s_cons ?_ ?_
  refine s_ret ?_
  refine x_make K0 C12 bd.hr1 rfl ?_
  refine r_cons rfl ?_ ?_
  refine x_call C17 bd.hr bd.tk (fun _ _ => bn11) ?_
  refine ra_val rfl ?_ ?_
  refine r_fld (i := 0) K0 rfl ?_
  exact x_var 0
  refine ra_val rfl ?_ ?_
  refine r_fld (i := 0) K0 rfl ?_
  exact x_var 1
  exact ra_nil
  refine r_cons rfl ?_ ?_
  refine x_call C17 bd.hr bd.tk (fun _ _ => bn11) ?_
  refine ra_val rfl ?_ ?_
  refine r_fld (i := 1) K0 rfl ?_
  exact x_var 0
  refine ra_val rfl ?_ ?_
  refine r_fld (i := 1) K0 rfl ?_
  exact x_var 1
  exact ra_nil
  exact r_nil
  exact s_nil
set_option maxHeartbeats 0 in
theorem w19 (Z : Zs K mg ci) (C1 : Cal P w K mg base ci T fuel "_law_odd" 1 ["_law_m", "_law_e"] (defArgs s1) (defBody s1) (defScope s1) []) (F : FunD K "_law_times" "_law_times" (defArgs s19) (defBody s19) (defScope s19) [] [] fa fd) : FnAt P w K mg base ci T fuel 19 fa fd ["_law_one_own", "_law_other_own"] := by
  have S : FnScope ["_law_one_own", "_law_other_own"] ["_law_one_own", "_law_other_own"] (defScope s19) := ⟨rfl, rfl, rfl, by decide +kernel, rfl, by decide +kernel, by decide +kernel⟩
  refine fn_ok F S rfl fun k cdv A outer s H E bd => ?_
  refine s_cons ?_ ?_
  refine s_ret ?_
  refine x_call C1 bd.hr bd.tk (fun _ _ => bn1) ?_
  refine ra_val rfl ?_ ?_
  refine r_bin (o := .mul) ?_ ?_
  refine r_idx (by exact fun _ _ => rfl) ?_ ?_
  exact x_var 0
  exact x_int
  refine r_idx (by exact fun _ _ => rfl) ?_ ?_
  exact x_var 1
  exact x_int
  refine ra_val rfl ?_ ?_
  refine r_bin (o := .add) ?_ ?_
  refine r_idx (by exact fun _ _ => rfl) ?_ ?_
  exact x_var 0
  exact x_int
  refine r_idx (by exact fun _ _ => rfl) ?_ ?_
  exact x_var 1
  exact x_int
  exact ra_nil
  exact s_nil
set_option maxHeartbeats 0 in
theorem w20 (Z : Zs K mg ci) (C16 : Cal P w K mg base ci T fuel "dot" 16 ["m", "e"] (defArgs s16) (defBody s16) (defScope s16) []) (F : FunD K "product" "product" (defArgs s20) (defBody s20) (defScope s20) [] [] fa fd) : FnAt P w K mg base ci T fuel 20 fa fd ["one", "other"] := by
  have S : FnScope ["one", "other"] ["one", "other"] (defScope s20) := ⟨rfl, rfl, rfl, by decide +kernel, rfl, by decide +kernel, by decide +kernel⟩
  refine fn_ok F S rfl fun k cdv A outer s H E bd => ?_
  refine s_cons ?_ ?_
  refine s_ret ?_
  refine x_call C16 bd.hr bd.tk (fun _ _ => bn10) ?_
  refine ra_val rfl ?_ ?_
  refine r_bin (o := .mul) ?_ ?_
  refine r_idx (by exact fun _ _ => rfl) ?_ ?_
  exact x_var 0
  exact x_int
  refine r_idx (by exact fun _ _ => rfl) ?_ ?_
  exact x_var 1
  exact x_int
  refine ra_val rfl ?_ ?_
  refine r_bin (o := .add) ?_ ?_
  refine r_idx (by exact fun _ _ => rfl) ?_ ?_
  exact x_var 0
  exact x_int
  refine r_idx (by exact fun _ _ => rfl) ?_ ?_
  exact x_var 1
  exact x_int
  exact ra_nil
  exact s_nil
set_option maxHeartbeats 0 in
theorem w21 (Z : Zs K mg ci) (C9 : Cal P w K mg base ci T fuel "compared" 9 ["one", "other"] (defArgs s9) (defBody s9) (defScope s9) []) (F : FunD K "least_of" "least_of" (defArgs s21) (defBody s21) (defScope s21) [] [] fa fd) : FnAt P w K mg base ci T fuel 21 fa fd ["some"] := by
  have S : FnScope ["some", "found", "one"] ["some"] (defScope s21) := ⟨rfl, rfl, rfl, by decide +kernel, rfl, by decide +kernel, by decide +kernel⟩
  refine fn_ok F S rfl fun k cdv A outer s H E bd => ?_
  refine s_cons ?_ ?_
  refine s_asg ?_ ?_ rfl rfl rfl
  refine r_idx (by exact fun _ _ => rfl) ?_ ?_
  exact x_var 0
  exact x_int
  exact g_name (pg_name (i := 1) S.nd rfl (by first | exact .inl rfl | exact .inr rfl))
  refine s_cons ?_ ?_
  refine s_for bd.po rfl ?_ ?_ ?_ (fun _ => rfl)
  refine ri_val ?_
  refine r_drop (n := 1) ?_
  exact x_var 0
  exact g_name (pg_name (i := 2) S.nd rfl (by first | exact .inl rfl | exact .inr rfl))
  refine s_cons ?_ ?_
  refine s_ite ?_ ?_ ?_
  refine r_tcmp (o := .lt) bd.hu (by rfl) ?_ ?_
  refine x_call C9 bd.hr bd.tk (fun _ _ => bn9) ?_
  refine ra_val rfl ?_ ?_
  exact x_var 2
  refine ra_val rfl ?_ ?_
  exact x_var 1
  exact ra_nil
  exact x_int
  refine s_cons ?_ ?_
  refine s_asg ?_ ?_ rfl rfl rfl
  exact x_var 2
  exact g_name (pg_name (i := 1) S.nd rfl (by first | exact .inl rfl | exact .inr rfl))
  exact s_nil
  exact s_nil
  exact s_nil
  refine s_cons ?_ ?_
  refine s_ret ?_
  exact x_var 1
  exact s_nil
set_option maxHeartbeats 0 in
theorem w22 (Z : Zs K mg ci)  (F : FunD K "minus" "minus" (defArgs s22) (defBody s22) (defScope s22) [] [] fa fd) : FnAt P w K mg base ci T fuel 22 fa fd ["one"] := by
  have S : FnScope ["one"] ["one"] (defScope s22) := ⟨rfl, rfl, rfl, by decide +kernel, rfl, by decide +kernel, by decide +kernel⟩
  refine fn_ok F S rfl fun k cdv A outer s H E bd => ?_
  refine s_cons ?_ ?_
  refine s_ret ?_
  refine r_tup ?_
  refine r_cons rfl ?_ ?_
  refine r_bin (o := .sub) ?_ ?_
  exact x_int
  refine r_idx (by exact fun _ _ => rfl) ?_ ?_
  exact x_var 0
  exact x_int
  refine r_cons rfl ?_ ?_
  refine r_idx (by exact fun _ _ => rfl) ?_ ?_
  exact x_var 0
  exact x_int
  exact r_nil
  exact s_nil
set_option maxHeartbeats 0 in
theorem w23 (Z : Zs K mg ci) (K0 : ClsOk K mg ci "Stretch" 0 ["low", "high"]) (C12 : MkC P w K mg base ci T fuel 0 12 2 ["self", "low", "high"]) (C22 : Cal P w K mg base ci T fuel "minus" 22 ["one"] (defArgs s22) (defBody s22) (defScope s22) []) (C21 : Cal P w K mg base ci T fuel "least_of" 21 ["some"] (defArgs s21) (defBody s21) (defScope s21) []) (C20 : Cal P w K mg base ci T fuel "product" 20 ["one", "other"] (defArgs s20) (defBody s20) (defScope s20) []) (C15 : Cal P w K mg base ci T fuel "look_at_stretch" 15 ["thing"] (defArgs s15) (defBody s15) (defScope s15) []) (F : FunD K "product_of" "product_of" (defArgs s23) (defBody s23) (defScope s23) [] [] fa fd) : FnAt P w K mg base ci T fuel 23 fa fd ["one", "other"] := by
  have S : FnScope ["one", "other", "some", "left", "right"] ["one", "other"] (defScope s23) := ⟨rfl, rfl, rfl, by decide +kernel, rfl, by decide +kernel, by decide +kernel⟩
  refine fn_ok F S rfl fun k cdv A outer s H E bd => ?_
  refine s_cons ?_ ?_
  refine s_exp rfl ?_
  refine x_call C15 bd.hr bd.tk (fun _ _ => bn12) ?_
  refine ra_val rfl ?_ ?_
  exact x_var 0
  exact ra_nil
  refine s_cons ?_ ?_
  refine s_exp rfl ?_
  refine x_call C15 bd.hr bd.tk (fun _ _ => bn12) ?_
  refine ra_val rfl ?_ ?_
  exact x_var 1
  exact ra_nil
  refine s_cons ?_ ?_
  refine s_asgLc2 (i := 3) (j := 4) (x := "left") (y := "right") rfl S.nd rfl rfl (sw_true rfl rfl rfl (by decide +kernel)) rfl rfl (by decide) (blkOk_by (N := ["one", "other", "some", "left", "right"]) (sc := defScope s23) (by decide +kernel)) ?_ ?_ ?_ ?_ ?_ (fun _ => rfl) (fun _ _ => rfl)
  · first | exact .inl rfl | exact .inr rfl
  · first | exact .inl rfl | exact .inr rfl
  refine ri_val ?_
  refine r_tup ?_
  refine r_cons rfl ?_ ?_
  refine r_fld (i := 0) K0 rfl ?_
  exact x_var 0
  refine r_cons rfl ?_ ?_
  refine r_fld (i := 1) K0 rfl ?_
  exact x_var 0
  exact r_nil
  · intro s H D cl fp
    refine ri_val ?_
    refine r_tup ?_
    refine r_cons rfl ?_ ?_
    refine r_fld (i := 0) K0 rfl ?_
    exact x_var 1
    refine r_cons rfl ?_ ?_
    refine r_fld (i := 1) K0 rfl ?_
    exact x_var 1
    exact r_nil
  · intro s H D cl fp
    refine x_call C20 bd.hr tkF (fun _ _ => bn15) ?_
    refine ra_val rfl ?_ ?_
    exact x_var 3
    refine ra_val rfl ?_ ?_
    exact x_var 4
    exact ra_nil
  refine s_cons ?_ ?_
  refine s_ret ?_
  refine x_make K0 C12 bd.hr1 rfl ?_
  refine r_cons rfl ?_ ?_
  refine x_call C21 bd.hr bd.tk (fun _ _ => bn14) ?_
  refine ra_val rfl ?_ ?_
  exact x_var 2
  exact ra_nil
  refine r_cons rfl ?_ ?_
  refine x_call C22 bd.hr bd.tk (fun _ _ => bn13) ?_
  refine ra_val rfl ?_ ?_
  refine x_call C21 bd.hr bd.tk (fun _ _ => bn14) ?_
  refine ra_val rfl ?_ ?_
  refine r_comp (i := 0) (x := "one") rfl S.nd rfl (blkOk_by (N := ["one", "other", "some", "left", "right"]) (sc := defScope s23) (by decide +kernel)) ?_ ?_ (fun _ => rfl) (fun s H D cl fp => ?_) (fun s H D cl fp => ?_)
  · first | exact .inl rfl | exact .inr rfl
  refine ri_val ?_
  exact x_var 2
  exact r_pts0
  refine x_call C22 bd.hr tkF (fun _ _ => bn13) ?_
  refine ra_val rfl ?_ ?_
  exact x_var 0
  exact ra_nil
  exact ra_nil
  exact ra_nil
  exact r_nil
  exact s_nil
set_option maxHeartbeats 0 in
theorem w24 (Z : Zs K mg ci) (K0 : ClsOk K mg ci "Stretch" 0 ["low", "high"]) (C23 : Cal P w K mg base ci T fuel "product_of" 23 ["one", "other"] (defArgs s23) (defBody s23) (defScope s23) []) (C13 : Cal P w K mg base ci T fuel "_law_ends" 13 ["_law_some"] (defArgs s13) (defBody s13) (defScope s13) []) (C19 : Cal P w K mg base ci T fuel "_law_times" 19 ["_law_one_own", "_law_other_own"] (defArgs s19) (defBody s19) (defScope s19) []) (C18 : Cal P w K mg base ci T fuel "sum_of" 18 ["one", "other"] (defArgs s18) (defBody s18) (defScope s18) []) (C14 : Cal P w K mg base ci T fuel "_law_sum" 14 ["_law_one_own", "_law_other_own", "_law_sign"] (defArgs s14) (defBody s14) (defScope s14) []) (C12 : MkC P w K mg base ci T fuel 0 12 2 ["self", "low", "high"]) (F : FunD K "_law_good" "_law_good" (defArgs s24) (defBody s24) (defScope s24) [] [] fa fd) : FnAt P w K mg base ci T fuel 24 fa fd ["_law_one_own", "_law_other_own"] := by
  have S : FnScope ["_law_one_own", "_law_other_own", "_law_left", "_law_right", "_law_due", "_law_found", "_law_some", "_law_first"] ["_law_one_own", "_law_other_own"] (defScope s24) := ⟨rfl, rfl, rfl, by decide +kernel, rfl, by decide +kernel, by decide +kernel⟩
  refine fn_ok F S rfl fun k cdv A outer s H E bd => ?_
  refine s_cons ?_ ?_
  refine s_asg ?_ ?_ rfl rfl rfl
  refine x_make K0 C12 bd.hr1 rfl ?_
  refine r_cons rfl ?_ ?_
  refine r_idx (by exact fun _ _ => rfl) ?_ ?_
  exact x_var 0
  exact x_int
  refine r_cons rfl ?_ ?_
  refine r_idx (by exact fun _ _ => rfl) ?_ ?_
  exact x_var 0
  exact x_int
  exact r_nil
  exact g_name (pg_name (i := 2) S.nd rfl (by first | exact .inl rfl | exact .inr rfl))
  refine s_cons ?_ ?_
  refine s_asg ?_ ?_ rfl rfl rfl
  refine x_make K0 C12 bd.hr1 rfl ?_
  refine r_cons rfl ?_ ?_
  refine r_idx (by exact fun _ _ => rfl) ?_ ?_
  exact x_var 1
  exact x_int
  refine r_cons rfl ?_ ?_
  refine r_idx (by exact fun _ _ => rfl) ?_ ?_
  exact x_var 1
  exact x_int
  exact r_nil
  exact g_name (pg_name (i := 3) S.nd rfl (by first | exact .inl rfl | exact .inr rfl))
  refine s_cons ?_ ?_
  refine s_asg ?_ ?_ rfl rfl rfl
  refine r_tup ?_
  refine r_cons rfl ?_ ?_
  refine x_call C14 bd.hr bd.tk (fun _ _ => bn22) ?_
  refine ra_val rfl ?_ ?_
  refine r_idx (by exact fun _ _ => rfl) ?_ ?_
  exact x_var 0
  exact x_int
  refine ra_val rfl ?_ ?_
  refine r_idx (by exact fun _ _ => rfl) ?_ ?_
  exact x_var 1
  exact x_int
  refine ra_val rfl ?_ ?_
  exact x_int
  exact ra_nil
  refine r_cons rfl ?_ ?_
  refine x_call C14 bd.hr bd.tk (fun _ _ => bn22) ?_
  refine ra_val rfl ?_ ?_
  refine r_idx (by exact fun _ _ => rfl) ?_ ?_
  exact x_var 0
  exact x_int
  refine ra_val rfl ?_ ?_
  refine r_idx (by exact fun _ _ => rfl) ?_ ?_
  exact x_var 1
  exact x_int
  refine ra_val rfl ?_ ?_
  exact x_int
  exact ra_nil
  exact r_nil
  exact g_name (pg_name (i := 4) S.nd rfl (by first | exact .inl rfl | exact .inr rfl))
  refine s_cons ?_ ?_
  refine s_for bd.po rfl ?_ ?_ ?_ (fun _ => rfl)
  refine ri_val ?_
  refine r_lst ?_
  refine r_cons rfl ?_ ?_
  refine x_call C18 bd.hr bd.tk (fun _ _ => bn21) ?_
  refine ra_val rfl ?_ ?_
  exact x_var 2
  refine ra_val rfl ?_ ?_
  exact x_var 3
  exact ra_nil
  refine r_cons rfl ?_ ?_
  refine x_callk0 C18 bd.hr bd.tk (fun _ _ => bn20) ?_
  refine k_cons ?_ ?_
  exact x_var 2
  refine k_cons ?_ ?_
  exact x_var 3
  exact k_nil
  exact r_nil
  exact g_name (pg_name (i := 5) S.nd rfl (by first | exact .inl rfl | exact .inr rfl))
  refine s_cons ?_ ?_
  refine s_ite ?_ ?_ ?_
  refine pw_pt ?_
  refine r_tor ?_ ?_
  refine r_tnot ?_
  refine r_tval ?_ (fun _ => rfl)
  refine x_isc K0 Z.z_isinstance ?_
  exact x_var 5
  refine pw_or1 ?_
  refine r_tcmp (o := .ne) bd.hu (by rfl) ?_ ?_
  refine r_tup ?_
  refine r_cons rfl ?_ ?_
  refine r_fld (i := 0) K0 rfl ?_
  exact x_var 5
  refine r_cons rfl ?_ ?_
  refine r_fld (i := 1) K0 rfl ?_
  exact x_var 5
  exact r_nil
  exact x_var 4
  refine s_cons ?_ ?_
  refine s_ret ?_
  exact x_bl
  exact s_nil
  exact s_nil
  exact s_nil
  refine s_cons ?_ ?_
  refine s_asgLc (i := 7) (x := "_law_first") rfl S.nd rfl rfl rfl (sw_true rfl rfl rfl (by decide +kernel)) (blkOk_by (N := ["_law_one_own", "_law_other_own", "_law_left", "_law_right", "_law_due", "_law_found", "_law_some", "_law_first"]) (sc := defScope s24) (by decide +kernel)) ?_ ?_ (fun _ => rfl) (fun s H D cl fp => ?_) (fun s H D cl fp => ?_)
  · first | exact .inl rfl | exact .inr rfl
  refine ri_val ?_
  exact x_var 0
  exact r_pts0
  refine x_call C19 bd.hr tkF (fun _ _ => bn19) ?_
  refine ra_val rfl ?_ ?_
  exact x_var 7
  refine ra_val rfl ?_ ?_
  refine r_idx (by exact fun _ _ => rfl) ?_ ?_
  exact x_var 1
  exact x_int
  exact ra_nil
  refine s_cons ?_ ?_
  refine s_asg ?_ ?_ rfl rfl rfl
  refine r_bin (o := .add) ?_ ?_
  exact x_var 6
  refine r_comp (i := 7) (x := "_law_first") rfl S.nd rfl (blkOk_by (N := ["_law_one_own", "_law_other_own", "_law_left", "_law_right", "_law_due", "_law_found", "_law_some", "_law_first"]) (sc := defScope s24) (by decide +kernel)) ?_ ?_ (fun _ => rfl) (fun s H D cl fp => ?_) (fun s H D cl fp => ?_)
  · first | exact .inl rfl | exact .inr rfl
  refine ri_val ?_
  exact x_var 0
  exact r_pts0
  refine x_call C19 bd.hr tkF (fun _ _ => bn19) ?_
  refine ra_val rfl ?_ ?_
  exact x_var 7
  refine ra_val rfl ?_ ?_
  refine r_idx (by exact fun _ _ => rfl) ?_ ?_
  exact x_var 1
  exact x_int
  exact ra_nil
  exact g_name (pg_name (i := 6) S.nd rfl (by first | exact .inl rfl | exact .inr rfl))
  refine s_cons ?_ ?_
  refine s_asg ?_ ?_ rfl rfl rfl
  refine x_call C13 bd.hr bd.tk (fun _ _ => bn18) ?_
  refine ra_val rfl ?_ ?_
  exact x_var 6
  exact ra_nil
  exact g_name (pg_name (i := 4) S.nd rfl (by first | exact .inl rfl | exact .inr rfl))
  refine s_cons ?_ ?_
  refine s_for bd.po rfl ?_ ?_ ?_ (fun _ => rfl)
  refine ri_val ?_
  refine r_lst ?_
  refine r_cons rfl ?_ ?_
  refine x_call C23 bd.hr bd.tk (fun _ _ => bn17) ?_
  refine ra_val rfl ?_ ?_
  exact x_var 2
  refine ra_val rfl ?_ ?_
  exact x_var 3
  exact ra_nil
  refine r_cons rfl ?_ ?_
  refine x_callk0 C23 bd.hr bd.tk (fun _ _ => bn16) ?_
  refine k_cons ?_ ?_
  exact x_var 2
  refine k_cons ?_ ?_
  exact x_var 3
  exact k_nil
  exact r_nil
  exact g_name (pg_name (i := 5) S.nd rfl (by first | exact .inl rfl | exact .inr rfl))
  refine s_cons ?_ ?_
  refine s_ite ?_ ?_ ?_
  refine pw_pt ?_
  refine r_tor ?_ ?_
  refine r_tnot ?_
  refine r_tval ?_ (fun _ => rfl)
  refine x_isc K0 Z.z_isinstance ?_
  exact x_var 5
  refine pw_or1 ?_
  refine r_tcmp (o := .ne) bd.hu (by rfl) ?_ ?_
  refine r_tup ?_
  refine r_cons rfl ?_ ?_
  refine r_fld (i := 0) K0 rfl ?_
  exact x_var 5
  refine r_cons rfl ?_ ?_
  refine r_fld (i := 1) K0 rfl ?_
  exact x_var 5
  exact r_nil
  exact x_var 4
  refine s_cons ?_ ?_
  refine s_ret ?_
  exact x_bl
  exact s_nil
  exact s_nil
  exact s_nil
  refine s_cons ?_ ?_
  refine s_ret ?_
  refine r_and ?_ ?_
  refine r_cmp (o := .eq) bd.hu (by rfl) ?_ ?_
  refine r_tup ?_
  refine r_cons rfl ?_ ?_
  refine r_fld (i := 0) K0 rfl ?_
  exact x_var 2
  refine r_cons rfl ?_ ?_
  refine r_fld (i := 1) K0 rfl ?_
  exact x_var 2
  exact r_nil
  exact x_var 0
  refine pe_one ?_
  refine r_cmp (o := .eq) bd.hu (by rfl) ?_ ?_
  refine r_tup ?_
  refine r_cons rfl ?_ ?_
  refine r_fld (i := 0) K0 rfl ?_
  exact x_var 3
  refine r_cons rfl ?_ ?_
  refine r_fld (i := 1) K0 rfl ?_
  exact x_var 3
  exact r_nil
  exact x_var 1
  exact s_nil
set_option maxHeartbeats 0 in
theorem w25 (Z : Zs K mg ci) (C24 : Cal P w K mg base ci T fuel "_law_good" 24 ["_law_one_own", "_law_other_own"] (defArgs s24) (defBody s24) (defScope s24) []) (C5 : Cal P w K mg base ci T fuel "_law_pair" 5 ["_law_pile"] (defArgs s5) (defBody s5) (defScope s5) []) (C7 : Cal P w K mg base ci T fuel "_law_cell" 7 ["_law_script", "_law_k"] (defArgs s7) (defBody s7) (defScope s7) []) (F : FunD K "law" "law" (defArgs s25) (defBody s25) (defScope s25) [] [] fa fd) : FnAt P w K mg base ci T fuel 25 fa fd ["_law_script"] := by
  have S : FnScope ["_law_script", "_law_k", "_law_pile", "_law_first", "_law_second", "_law_size", "_law_some", "_law_one_own", "_law_other_own"] ["_law_script"] (defScope s25) := ⟨rfl, rfl, rfl, by decide +kernel, rfl, by decide +kernel, by decide +kernel⟩
  refine fn_ok F S rfl fun k cdv A outer s H E bd => ?_
  refine s_cons ?_ ?_
  refine s_for bd.po rfl ?_ ?_ ?_ (fun _ => rfl)
  refine ri_rng1 rfl Z.z_range rfl ?_
  exact x_int
  exact g_name (pg_name (i := 1) S.nd rfl (by first | exact .inl rfl | exact .inr rfl))
  refine s_cons ?_ ?_
  refine s_newL S.nd rfl (by first | exact .inl rfl | exact .inr rfl) (.inl rfl) rfl ?_
  refine r_cons rfl ?_ ?_
  refine x_call C7 bd.hr bd.tk (fun _ _ => bn25) ?_
  refine ra_val rfl ?_ ?_
  exact x_var 0
  refine ra_val rfl ?_ ?_
  exact x_var 1
  exact ra_nil
  exact r_nil
  refine s_cons ?_ ?_
  refine s_asg ?_ ?_ rfl rfl rfl
  refine x_call C5 bd.hr bd.tk (fun _ _ => bn24) ?_
  refine ra_own rfl (x_own 2) ?_
  exact ra_nil
  exact g_name (pg_name (i := 3) S.nd rfl (by first | exact .inl rfl | exact .inr rfl))
  refine s_cons ?_ ?_
  refine s_asg ?_ ?_ rfl rfl rfl
  refine x_call C5 bd.hr bd.tk (fun _ _ => bn24) ?_
  refine ra_own rfl (x_own 2) ?_
  exact ra_nil
  exact g_name (pg_name (i := 4) S.nd rfl (by first | exact .inl rfl | exact .inr rfl))
  refine s_cons ?_ ?_
  refine s_asg ?_ ?_ rfl rfl rfl
  refine r_tup ?_
  refine r_cons rfl ?_ ?_
  refine x_abs Z.z_abs ?_
  refine r_idx (by exact fun _ _ => rfl) ?_ ?_
  refine r_idx (by exact fun _ _ => rfl) ?_ ?_
  exact x_var 3
  exact x_int
  exact x_int
  refine r_cons rfl ?_ ?_
  refine r_idx (by exact fun _ _ => rfl) ?_ ?_
  refine r_idx (by exact fun _ _ => rfl) ?_ ?_
  exact x_var 3
  exact x_int
  exact x_int
  exact r_nil
  exact g_name (pg_name (i := 5) S.nd rfl (by first | exact .inl rfl | exact .inr rfl))
  refine s_cons ?_ ?_
  refine s_asg ?_ ?_ rfl rfl rfl
  refine r_lst ?_
  refine r_cons rfl ?_ ?_
  exact x_var 3
  refine r_cons rfl ?_ ?_
  exact x_var 4
  refine r_cons rfl ?_ ?_
  refine r_tup ?_
  refine r_cons rfl ?_ ?_
  refine r_tup ?_
  refine r_cons rfl ?_ ?_
  refine r_bin (o := .sub) ?_ ?_
  exact x_int
  refine r_idx (by exact fun _ _ => rfl) ?_ ?_
  exact x_var 5
  exact x_int
  refine r_cons rfl ?_ ?_
  refine r_idx (by exact fun _ _ => rfl) ?_ ?_
  exact x_var 5
  exact x_int
  exact r_nil
  refine r_cons rfl ?_ ?_
  exact x_var 5
  exact r_nil
  refine r_cons rfl ?_ ?_
  refine r_tup ?_
  refine r_cons rfl ?_ ?_
  refine r_tup ?_
  refine r_cons rfl ?_ ?_
  exact x_int
  refine r_cons rfl ?_ ?_
  exact x_int
  exact r_nil
  refine r_cons rfl ?_ ?_
  exact x_var 5
  exact r_nil
  exact r_nil
  exact g_name (pg_name (i := 6) S.nd rfl (by first | exact .inl rfl | exact .inr rfl))
  refine s_cons ?_ ?_
  refine s_asg ?_ ?_ rfl rfl rfl
  refine r_bin (o := .add) ?_ ?_
  exact x_var 6
  refine r_lst ?_
  refine r_cons rfl ?_ ?_
  refine r_tup ?_
  refine r_cons rfl ?_ ?_
  refine r_tup ?_
  refine r_cons rfl ?_ ?_
  refine r_bin (o := .sub) ?_ ?_
  exact x_int
  refine r_idx (by exact fun _ _ => rfl) ?_ ?_
  exact x_var 5
  exact x_int
  refine r_cons rfl ?_ ?_
  refine r_idx (by exact fun _ _ => rfl) ?_ ?_
  exact x_var 5
  exact x_int
  exact r_nil
  refine r_cons rfl ?_ ?_
  refine r_tup ?_
  refine r_cons rfl ?_ ?_
  exact x_int
  refine r_cons rfl ?_ ?_
  exact x_int
  exact r_nil
  exact r_nil
  refine r_cons rfl ?_ ?_
  refine r_tup ?_
  refine r_cons rfl ?_ ?_
  exact x_var 5
  refine r_cons rfl ?_ ?_
  exact x_var 5
  exact r_nil
  exact r_nil
  exact g_name (pg_name (i := 6) S.nd rfl (by first | exact .inl rfl | exact .inr rfl))
  refine s_cons ?_ ?_
  refine s_for bd.po rfl ?_ ?_ ?_ (fun _ => rfl)
  refine ri_val ?_
  exact x_var 6
  exact g_name (pg_name (i := 7) S.nd rfl (by first | exact .inl rfl | exact .inr rfl))
  refine s_cons ?_ ?_
  refine s_for bd.po rfl ?_ ?_ ?_ (fun _ => rfl)
  refine ri_val ?_
  exact x_var 6
  exact g_name (pg_name (i := 8) S.nd rfl (by first | exact .inl rfl | exact .inr rfl))
  refine s_cons ?_ ?_
  refine s_ite ?_ ?_ ?_
  refine r_tnot ?_
  refine r_tval ?_ (fun _ => rfl)
  refine x_call C24 bd.hr bd.tk (fun _ _ => bn23) ?_
  refine ra_val rfl ?_ ?_
  exact x_var 7
  refine ra_val rfl ?_ ?_
  exact x_var 8
  exact ra_nil
  refine s_cons ?_ ?_
  refine s_ret ?_
  exact x_bl
  exact s_nil
  exact s_nil
  exact s_nil
  exact s_nil
  exact s_nil
  refine s_cons ?_ ?_
  refine s_ret ?_
  exact x_bl
  exact s_nil
end
/-! ### the law -/
def spLaw (K : PySem.W.Frag) : Sp := fun vs H Q _ => ∃ (a : Addr) (ns : List Int), vs = [.ref a] ∧ SqL K H a (ns.map V.int) ∧ ns.length ≤ 63 ∧ ∀ H', Q (.bl true) H'
theorem law_imp {P : Program} {w : World} {K : PySem.W.Frag} {mg : Str → Option Value} {base : Heap} {ci : CI} {fa : Addr} {fd : FuncData} {fuel : Nat} (hlaw : ∀ ns : List Int, ns.length ≤ 63 → ∃ outs, run T fuel 20 25 [.val (.frz (ns.map .int))] = .ok (.bl true) outs)
    (F : FnAt P w K mg base ci T fuel 25 fa fd ["_law_script"]) : FnOk P w K mg base (L2N.CX P w) 40 fa fd ["_law_script"] (spLaw K) :=
  (F 20).imp fun vs H Q E h => by
    obtain ⟨a, ns, rfl, hS, hl, q⟩ := h
    obtain ⟨outs, e⟩ := hlaw ns hl
    have hp : ppOf 0 [V.ref a] [S.val (.frz (ns.map D.int))] = [] := rfl
    refine ⟨rfl, H, [.val (.frz (ns.map .int))], .refl _, ⟨.frz hS (reps_ints ns), trivial⟩, by rw [hp]; exact List.nodup_nil, ?_⟩
    have e2 : (⟨run T fuel 20, fuel⟩ : Rf.Cx).call 25 [.val (.frz (ns.map .int))] = .ok (.bl true) outs := e
    rw [e2]
    exact fun v H0' H' _ _ rv => by cases rv; exact q H'
end Q16

set_option Elab.async false
set_option linter.all false
set_option maxRecDepth 100000
set_option maxHeartbeats 1000000
namespace Q16
open PySem Rf
def FUEL : Nat := 1000000
theorem hF : 6000 ≤ FUEL := by decide
theorem rTake {k : Nat} {x s : Int} (h1 : 0 < s) (h2 : s.natAbs < 2 ^ 9000) : run T FUEL (k + 1) 0 [.own true [.int x], .val (.int s)] = .ok (.int (x % s)) [.own true [.int (x / s)], .val (.int s)] := sp_take rfl h1 (no_py h2)
theorem tkx {k : Nat} (x s : Int) (h1 : 0 < s) (h2 : s.natAbs < 2 ^ 9000) (hx : 0 ≤ x) : ∃ d c : Int, run T FUEL (k + 1) 0 [.own true [.int x], .val (.int s)] = .ok (.int d) [.own true [.int c], .val (.int s)] ∧ 0 ≤ d ∧ d < s ∧ 0 ≤ c :=
  ⟨_, _, rTake h1 h2, Int.emod_nonneg _ (Int.ne_of_gt h1), Int.emod_lt_of_pos _ h1, Int.ediv_nonneg hx (Int.le_of_lt h1)⟩
theorem rOdd {k : Nat} {m e : Int} (h : m.natAbs < 2 ^ 5000) : dropR (run T FUEL (k + 1) 1 [.val (.int m), .val (.int e)]) = .ok (.tup [.int (NM m), .int (NE m e)]) [] := sp_odd rfl hF h
/-- worths at 800 -/
structure Wo (V : Int) : Prop where
  b : V.natAbs < 2 ^ 2010
  m : (NM V).natAbs < 2 ^ 206
theorem Wo.bn {V : Int} (h : Wo V) : Bn (NM V) (NE V (-800)) := ⟨lt_big h.m (by decide), by have := ne_lo (V := V) (B := 800) (by decide); omega, by
  unfold NE
  split
  · omega
  · rename_i z
    have := v2_lt z h.b
    omega⟩
theorem Wo.zero : Wo 0 := ⟨by decide +kernel, by decide +kernel⟩
/-! ### the program's -/
theorem rCmp {k : Nat} {B V W : Int} {b : Nat} (hB0 : 0 ≤ B) (hB : B ≤ 5000) (hb : b ≤ 100000 - 5000) (hV : V.natAbs < 2 ^ b) (hW : W.natAbs < 2 ^ b) : dropR (run T FUEL (k + 2) 9 [.val (num B V), .val (num B W)]) = .ok (.int (CM V W)) [] := by
  have h := sp_compared' (k := k) (F := FUEL) (T := T) (f := 9) (fat := 8) (.inl rfl) rfl (m := NM V) (p := NE V (-B)) (n := NM W) (q := NE W (-B)) (b := b) hB (by omega) (ne_lo hB0) (ne_lo hB0) (by have := ne_hi hB0 hV; omega) (by have := ne_hi hB0 hW; omega) (nm_bound hV) (nm_bound hW)
  rw [at_num hB0, at_num hB0] at h
  exact h
theorem rLCmp {k : Nat} {B V W : Int} {b : Nat} (hB0 : 0 ≤ B) (hB : B ≤ 5000) (hb : b ≤ 100000 - 5000) (hV : V.natAbs < 2 ^ b) (hW : W.natAbs < 2 ^ b) : dropR (run T FUEL (k + 2) 4 [.val (num B V), .val (num B W)]) = .ok (.int (CM V W)) [] := by
  have h := sp_compared' (k := k) (F := FUEL) (T := T) (f := 4) (fat := 3) (.inr rfl) rfl (m := NM V) (p := NE V (-B)) (n := NM W) (q := NE W (-B)) (b := b) hB (by omega) (ne_lo hB0) (ne_lo hB0) (by have := ne_hi hB0 hV; omega) (by have := ne_hi hB0 hW; omega) (nm_bound hV) (nm_bound hW)
  rw [at_num hB0, at_num hB0] at h
  exact h
theorem rAdded {k : Nat} {V W : Int} (hV : Wo V) (hW : Wo W) : dropR (run T FUEL (k + 2) 17 [.val (num 800 V), .val (num 800 W)]) = .ok (num 800 (V + W)) [] := by
  have h := sp_added' (k := k) (F := FUEL) (T := T) (f := 17) (fat := 8) (fd := 16) rfl rfl rfl hF (m := NM V) (p := NE V (-800)) (n := NM W) (q := NE W (-800)) (B := 800) (b := 2010) (by decide) (by decide) (ne_lo (by decide)) (ne_lo (by decide)) (by have := hV.bn.g; omega) (by have := hW.bn.g; omega) (nm_bound hV.b) (nm_bound hW.b)
    (by rw [at_num (by decide)]; exact hV.b) (by rw [at_num (by decide)]; exact hW.b)
  rw [at_num (by decide), at_num (by decide)] at h
  exact h
theorem rSum {k : Nat} {V W : Int} (hV : Wo V) (hW : Wo W) : dropR (run T FUEL (k + 2) 14 [.val (num 800 V), .val (num 800 W), .val (.int 1)]) = .ok (num 800 (V + W)) [] := by
  have h := sp_sum (k := k) (F := FUEL) (T := T) (f := 14) (fat := 3) (fo := 1) rfl rfl rfl hF hV.bn hW.bn (s := 1) (.inl rfl)
  rw [ss_1] at h
  obtain ⟨e1, e2⟩ := nf_sm (m := NM V) (p := NE V (-800)) (n := NM W) (q := NE W (-800)) (B := 800) (ne_lo (by decide)) (ne_lo (by decide))
  rw [at_num (by decide), at_num (by decide)] at e1 e2
  rw [e1, e2] at h
  exact h
theorem rProd {k : Nat} {V W : Int} (hV : Wo V) (hW : Wo W) : dropR (run T FUEL (k + 2) 20 [.val (num 800 V), .val (num 800 W)]) = .ok (num 1600 (V * W)) [] := by
  have h : dropR (run T FUEL (k + 2) 20 [.val (num 800 V), .val (num 800 W)]) = _ := sp_product (fd := 16) rfl rfl hF hV.m hW.m (by decide)
  obtain ⟨e1, e2⟩ := nm_mul V W
  rw [e1, e2 800 800 (by decide) (by decide)] at h
  exact h
theorem rTimes {k : Nat} {V W : Int} (hV : Wo V) (hW : Wo W) : dropR (run T FUEL (k + 2) 19 [.val (num 800 V), .val (num 800 W)]) = .ok (num 1600 (V * W)) [] := by
  have mk : mulOk (NM V) (NM W) = true := mul_ok hV.m hW.m (by decide)
  have od : dropR (run T FUEL (k + 1) 1 [.val (.int (NM V * NM W)), .val (.int (NE V (-800) + NE W (-800)))]) = _ := rOdd (lt_big (mul_lt hV.m hW.m) (by decide))
  obtain ⟨e1, e2⟩ := nm_mul V W
  have z16 : (-(800 + 800) : Int) = -1600 := rfl
  rw [e1, e2 800 800 (by decide) (by decide), z16] at od
  rw [rn19]
  unfold num
  simp only [getS_0, getS_s, ev_var, rdS_val, rdS_own, ev_cst, of_some, of_some', ev_bin, kBin_ok, kBin_ok', ev_cmp, kCmp_ok, kCmp_ok', kCmpR_some, ev_chn, kChn_ok, kChn_ok', kChn2_some, ev_and, kAnd_ok, ev_or, kOr_ok, ev_not, kNot_ok, ev_neg, kNeg_ok, ev_ite, kIteE_ok, es_nil, es_cons, kEs_ok, kEs_ok', ev_tup, ev_lst, kTup_ok, kLst_ok, ev_prim, kPrim_ok, ev_mix, kMix_ok, kMix_ok', kMix2_ok, as_nil, as_val, kAs_ok, kAs_ok', as_own, kOwn_ok, kOwn_ok', kOwn2_ok, as_tmp, kTmp_ok, ev_call, kCall_val, kCall_own, kV_ok, kV_exc, kCallR_ok, ev_callk, kCk_ok, kCk_ok', ev_comp, it_val, it_rng1, it_rng2, kI_ok, kI1_ok, kI2_ok, kI2_ok', ex_skip, ex_brk, ex_cnt, ex_seq, kSeq_nx, kSeq_rt, kSeq_bk, kSeq_ct, kSeq_exc, ex_asg, kAsg_ok, srof, put_eq, kPut_t, free_non, free_val, free_own, bind_name, bind_tup, bind_lst, all_nil, all_cons, kAll_some, ex_new, kNew_ok, ex_app, kApp_ok, kApp_ok', kApp2_ok, ex_put, kSto_ok, kSto1_ok, kSto2_ok, kSto3_0, ex_exp, kExp_ok, ex_ret, kRet_ok, ex_ite, kIte_ok, ex_for, kFor_ok, ex_whl, fin_nx, fin_rt, bn_add, bn_sub, bn_cat, bn_rep2, cp_lt, cp_le, cp_gt, cp_ge, cp_eq, cp_is, cp_nis, cp_ne, kNe_some, av_val, av_tmp, av_own, avO_own, pm_eq, pg_nil, pg_inl, pg_inr, pd_nil, pd_inl, pd_inr, gd_0, gd_s, nw_nil, nw_val, nw_tmp, nw_own, no_nil, no_val, no_tmp, no_own, lt_nil, lt_inl, lt_inr, lentK_t, lentK_f, io_own, io_val, io_tmp, io_none, bk_nil, bk_cons, b1_none, b1_some, backO_own, at_0, at_1, at_2, at_3, at_4, pr_idx_t, pr_idx_l, pr_idx_f, pr_len_t, pr_len_l, pr_len_f, pr_int, pr_int_t, pr_int_f, pr_abs, pr_min, pr_max, dr_ok, eq_int, eq_bl, List.cons_append, List.nil_append, List.append_nil, List.append_assoc, List.length_cons, List.length_nil, List.set_cons_zero, List.set_cons_succ, List.take_succ_cons, List.take_zero, List.take_nil, List.replicate_succ, List.replicate_zero, List.map_cons, List.map_nil, List.getElem?_cons_zero, List.getElem?_cons_succ, is0_non, is0_bl, is0_int, is0_str, is0_tup, is0_lst, is1_non, is1_bl, is1_int, is1_str, is1_tup, is1_lst, is2_non, is2_bl, is2_int, is2_str, is2_tup, is2_lst, is3_non, is3_bl, is3_int, is3_str, is3_tup, is3_lst, is4_non, is4_bl, is4_int, is4_str, is4_tup, is4_lst, ev_make, kMake_ok, kMk_ok, pr_fld0, pr_fld1, pr_fld2, pr_isc, pr_drop1, yes_eq, co_nil, co_cons, kCo1_ok, kCo2_ok, kCo3_ok, kCo4_ok, ev_comp2, kC2_ok, kC2e_ok, ns_non, clr_eq', kClr_t, iv_non, iv_val, cl_nil, cl_cons, kCl_b, kCl2_ok, kCl3_some, kComp_ok2, kCm_ok, pr_int_b, it_rng3, kI3_ok, kI3_ok', cp_in, cp_nin, isn_non, isn_tup, forL_nil, forL_cons, kFl_ok, kFb_nx, kFb_ct, kFb_bk, kFb_rt, sq_t, sq_l, kWhl_ok, kWb_nx, kWb_ct, kWb_bk, kWb_rt, lineN, cond_true, cond_false, Bool.cond_decide, Bool.not_true, Bool.not_false, Bool.and_true, Bool.true_and, Bool.and_false, Bool.false_and, Nat.zero_add, beq_self_eq_true, decide_true, decide_false, if_true, if_false, Bool.true_eq_false, Bool.false_eq_true, reduceIte, Nat.reduceAdd, Nat.reduceSub, Nat.reduceMul, Nat.reduceLeDiff, Nat.reduceBEq, Nat.reduceEqDiff, Int.reduceToNat, Int.reduceNeg, Nat.reduceLT, Nat.sub_self, u_b19, bn_mul, mk, od]
theorem rMinus {k : Nat} {B W : Int} : dropR (run T FUEL (k + 1) 22 [.val (num B W)]) = .ok (num B (-W)) [] := by
  have h : dropR (run T FUEL (k + 1) 22 [.val (.tup [.int (NM W), .int (NE W (-B))])]) = _ := sp_minus rfl
  have nn : 0 - NM W = NM (-W) ∧ ∀ e, NE (-W) e = NE W e := by
    by_cases h : W = 0
    · subst h; exact ⟨rfl, fun _ => rfl⟩
    · obtain ⟨a1, a2⟩ := nm_spec h
      have e : -W = (0 - NM W) * 2 ^ v2 W := by rw [Int.zero_sub, Int.neg_mul, ← a2]
      obtain ⟨d0, d1, d2⟩ := nm_of (q := 0 - NM W) (by omega) e
      refine ⟨d1.symm, fun x => ?_⟩
      rw [d2]
      unfold NE
      rw [if_neg h]
  rw [nn.1, ← nn.2 (-B)] at h
  unfold num
  rw [nn.2 (-B)] at h ⊢
  exact h
theorem rIsN {k : Nat} {B V : Int} : dropR (run T FUEL (k + 2) 11 [.val (num B V)]) = .ok (.bl true) [] := by
  have h : dropR (run T FUEL (k + 2) 11 [.val (num B V)]) = _ := sp_is_number (g := 10) rfl rfl (okN_num _ _)
  rw [isN_num] at h
  exact h
theorem cm_le (a b : Int) : CM a b ≤ 0 ↔ a ≤ b := by
  rw [cm_eq]
  split
  · omega
  · split <;> omega
theorem cm_lt (a b : Int) : CM a b < 0 ↔ a < b := by
  rw [cm_eq]
  split
  · omega
  · split <;> omega
theorem u_bInit0 {C : Rf.Cx} {r : List S} : exS C (bInit []) r = .nx r := byRfl rfl
theorem u_bInit1 {C : Rf.Cx} {r : List S} {c : Rf.E} {cs : List Rf.E} : exS C (bInit (c :: cs)) r = exS C (.seq (.ite c (.seq .never .skip) .skip) (bInit cs)) r := byRfl rfl
/-- a Stretch is made -/
theorem rInit {k : Nat} {B V W : Int} {b : Nat} (hB0 : 0 ≤ B) (hB : B ≤ 5000) (hb : b ≤ 100000 - 5000) (hV : V.natAbs < 2 ^ b) (hW : W.natAbs < 2 ^ b) (h : V ≤ W) : dropR (run T FUEL (k + 3) 12 [.non, .val (num B V), .val (num B W)]) = .ok .non [] := by
  have a : dropR (run T FUEL (k + 2) 11 [.val (num B V)]) = _ := rIsN
  have b : dropR (run T FUEL (k + 2) 11 [.val (num B W)]) = _ := rIsN
  have c : dropR (run T FUEL (k + 2) 9 [.val (num B V), .val (num B W)]) = _ := rCmp hB0 hB hb hV hW
  have nl : ¬ (0 < CM V W) := by have := (cm_le V W).mpr h; omega
  rw [rn12]
  simp only [getS_0, getS_s, ev_var, rdS_val, rdS_own, ev_cst, of_some, of_some', ev_bin, kBin_ok, kBin_ok', ev_cmp, kCmp_ok, kCmp_ok', kCmpR_some, ev_chn, kChn_ok, kChn_ok', kChn2_some, ev_and, kAnd_ok, ev_or, kOr_ok, ev_not, kNot_ok, ev_neg, kNeg_ok, ev_ite, kIteE_ok, es_nil, es_cons, kEs_ok, kEs_ok', ev_tup, ev_lst, kTup_ok, kLst_ok, ev_prim, kPrim_ok, ev_mix, kMix_ok, kMix_ok', kMix2_ok, as_nil, as_val, kAs_ok, kAs_ok', as_own, kOwn_ok, kOwn_ok', kOwn2_ok, as_tmp, kTmp_ok, ev_call, kCall_val, kCall_own, kV_ok, kV_exc, kCallR_ok, ev_callk, kCk_ok, kCk_ok', ev_comp, it_val, it_rng1, it_rng2, kI_ok, kI1_ok, kI2_ok, kI2_ok', ex_skip, ex_brk, ex_cnt, ex_seq, kSeq_nx, kSeq_rt, kSeq_bk, kSeq_ct, kSeq_exc, ex_asg, kAsg_ok, srof, put_eq, kPut_t, free_non, free_val, free_own, bind_name, bind_tup, bind_lst, all_nil, all_cons, kAll_some, ex_new, kNew_ok, ex_app, kApp_ok, kApp_ok', kApp2_ok, ex_put, kSto_ok, kSto1_ok, kSto2_ok, kSto3_0, ex_exp, kExp_ok, ex_ret, kRet_ok, ex_ite, kIte_ok, ex_for, kFor_ok, ex_whl, fin_nx, fin_rt, bn_add, bn_sub, bn_cat, bn_rep2, cp_lt, cp_le, cp_gt, cp_ge, cp_eq, cp_is, cp_nis, cp_ne, kNe_some, av_val, av_tmp, av_own, avO_own, pm_eq, pg_nil, pg_inl, pg_inr, pd_nil, pd_inl, pd_inr, gd_0, gd_s, nw_nil, nw_val, nw_tmp, nw_own, no_nil, no_val, no_tmp, no_own, lt_nil, lt_inl, lt_inr, lentK_t, lentK_f, io_own, io_val, io_tmp, io_none, bk_nil, bk_cons, b1_none, b1_some, backO_own, at_0, at_1, at_2, at_3, at_4, pr_idx_t, pr_idx_l, pr_idx_f, pr_len_t, pr_len_l, pr_len_f, pr_int, pr_int_t, pr_int_f, pr_abs, pr_min, pr_max, dr_ok, eq_int, eq_bl, List.cons_append, List.nil_append, List.append_nil, List.append_assoc, List.length_cons, List.length_nil, List.set_cons_zero, List.set_cons_succ, List.take_succ_cons, List.take_zero, List.take_nil, List.replicate_succ, List.replicate_zero, List.map_cons, List.map_nil, List.getElem?_cons_zero, List.getElem?_cons_succ, is0_non, is0_bl, is0_int, is0_str, is0_tup, is0_lst, is1_non, is1_bl, is1_int, is1_str, is1_tup, is1_lst, is2_non, is2_bl, is2_int, is2_str, is2_tup, is2_lst, is3_non, is3_bl, is3_int, is3_str, is3_tup, is3_lst, is4_non, is4_bl, is4_int, is4_str, is4_tup, is4_lst, ev_make, kMake_ok, kMk_ok, pr_fld0, pr_fld1, pr_fld2, pr_isc, pr_drop1, yes_eq, co_nil, co_cons, kCo1_ok, kCo2_ok, kCo3_ok, kCo4_ok, ev_comp2, kC2_ok, kC2e_ok, ns_non, clr_eq', kClr_t, iv_non, iv_val, cl_nil, cl_cons, kCl_b, kCl2_ok, kCl3_some, kComp_ok2, kCm_ok, pr_int_b, it_rng3, kI3_ok, kI3_ok', cp_in, cp_nin, isn_non, isn_tup, forL_nil, forL_cons, kFl_ok, kFb_nx, kFb_ct, kFb_bk, kFb_rt, sq_t, sq_l, kWhl_ok, kWb_nx, kWb_ct, kWb_bk, kWb_rt, lineN, cond_true, cond_false, Bool.cond_decide, Bool.not_true, Bool.not_false, Bool.and_true, Bool.true_and, Bool.and_false, Bool.false_and, Nat.zero_add, beq_self_eq_true, decide_true, decide_false, if_true, if_false, Bool.true_eq_false, Bool.false_eq_true, reduceIte, Nat.reduceAdd, Nat.reduceSub, Nat.reduceMul, Nat.reduceLeDiff, Nat.reduceBEq, Nat.reduceEqDiff, Int.reduceToNat, Int.reduceNeg, Nat.reduceLT, Nat.sub_self, u_b12, u_bInit0, u_bInit1, a, b, c, nl]
theorem rLook {k : Nat} {l : List D} : dropR (run T FUEL (k + 1) 15 [.val (.ins 0 l)]) = .ok .non [] := by
  rw [rn15]
  simp only [getS_0, getS_s, ev_var, rdS_val, rdS_own, ev_cst, of_some, of_some', ev_bin, kBin_ok, kBin_ok', ev_cmp, kCmp_ok, kCmp_ok', kCmpR_some, ev_chn, kChn_ok, kChn_ok', kChn2_some, ev_and, kAnd_ok, ev_or, kOr_ok, ev_not, kNot_ok, ev_neg, kNeg_ok, ev_ite, kIteE_ok, es_nil, es_cons, kEs_ok, kEs_ok', ev_tup, ev_lst, kTup_ok, kLst_ok, ev_prim, kPrim_ok, ev_mix, kMix_ok, kMix_ok', kMix2_ok, as_nil, as_val, kAs_ok, kAs_ok', as_own, kOwn_ok, kOwn_ok', kOwn2_ok, as_tmp, kTmp_ok, ev_call, kCall_val, kCall_own, kV_ok, kV_exc, kCallR_ok, ev_callk, kCk_ok, kCk_ok', ev_comp, it_val, it_rng1, it_rng2, kI_ok, kI1_ok, kI2_ok, kI2_ok', ex_skip, ex_brk, ex_cnt, ex_seq, kSeq_nx, kSeq_rt, kSeq_bk, kSeq_ct, kSeq_exc, ex_asg, kAsg_ok, srof, put_eq, kPut_t, free_non, free_val, free_own, bind_name, bind_tup, bind_lst, all_nil, all_cons, kAll_some, ex_new, kNew_ok, ex_app, kApp_ok, kApp_ok', kApp2_ok, ex_put, kSto_ok, kSto1_ok, kSto2_ok, kSto3_0, ex_exp, kExp_ok, ex_ret, kRet_ok, ex_ite, kIte_ok, ex_for, kFor_ok, ex_whl, fin_nx, fin_rt, bn_add, bn_sub, bn_cat, bn_rep2, cp_lt, cp_le, cp_gt, cp_ge, cp_eq, cp_is, cp_nis, cp_ne, kNe_some, av_val, av_tmp, av_own, avO_own, pm_eq, pg_nil, pg_inl, pg_inr, pd_nil, pd_inl, pd_inr, gd_0, gd_s, nw_nil, nw_val, nw_tmp, nw_own, no_nil, no_val, no_tmp, no_own, lt_nil, lt_inl, lt_inr, lentK_t, lentK_f, io_own, io_val, io_tmp, io_none, bk_nil, bk_cons, b1_none, b1_some, backO_own, at_0, at_1, at_2, at_3, at_4, pr_idx_t, pr_idx_l, pr_idx_f, pr_len_t, pr_len_l, pr_len_f, pr_int, pr_int_t, pr_int_f, pr_abs, pr_min, pr_max, dr_ok, eq_int, eq_bl, List.cons_append, List.nil_append, List.append_nil, List.append_assoc, List.length_cons, List.length_nil, List.set_cons_zero, List.set_cons_succ, List.take_succ_cons, List.take_zero, List.take_nil, List.replicate_succ, List.replicate_zero, List.map_cons, List.map_nil, List.getElem?_cons_zero, List.getElem?_cons_succ, is0_non, is0_bl, is0_int, is0_str, is0_tup, is0_lst, is1_non, is1_bl, is1_int, is1_str, is1_tup, is1_lst, is2_non, is2_bl, is2_int, is2_str, is2_tup, is2_lst, is3_non, is3_bl, is3_int, is3_str, is3_tup, is3_lst, is4_non, is4_bl, is4_int, is4_str, is4_tup, is4_lst, ev_make, kMake_ok, kMk_ok, pr_fld0, pr_fld1, pr_fld2, pr_isc, pr_drop1, yes_eq, co_nil, co_cons, kCo1_ok, kCo2_ok, kCo3_ok, kCo4_ok, ev_comp2, kC2_ok, kC2e_ok, ns_non, clr_eq', kClr_t, iv_non, iv_val, cl_nil, cl_cons, kCl_b, kCl2_ok, kCl3_some, kComp_ok2, kCm_ok, pr_int_b, it_rng3, kI3_ok, kI3_ok', cp_in, cp_nin, isn_non, isn_tup, forL_nil, forL_cons, kFl_ok, kFb_nx, kFb_ct, kFb_bk, kFb_rt, sq_t, sq_l, kWhl_ok, kWb_nx, kWb_ct, kWb_bk, kWb_rt, lineN, cond_true, cond_false, Bool.cond_decide, Bool.not_true, Bool.not_false, Bool.and_true, Bool.true_and, Bool.and_false, Bool.false_and, Nat.zero_add, beq_self_eq_true, decide_true, decide_false, if_true, if_false, Bool.true_eq_false, Bool.false_eq_true, reduceIte, Nat.reduceAdd, Nat.reduceSub, Nat.reduceMul, Nat.reduceLeDiff, Nat.reduceBEq, Nat.reduceEqDiff, Int.reduceToNat, Int.reduceNeg, Nat.reduceLT, Nat.sub_self, u_b15]
def st (B V W : Int) : D := .ins 0 [num B V, num B W]
theorem rSumOf {k : Nat} {A B C E : Int} (hA : Wo A) (hB : Wo B) (hC : Wo C) (hE : Wo E) (h1 : A ≤ B) (h2 : C ≤ E) : dropR (run T FUEL (k + 4) 18 [.val (st 800 A B), .val (st 800 C E)]) = .ok (st 800 (A + C) (B + E)) [] := by
  have a : ∀ l, dropR (run T FUEL (k + 3) 15 [.val (.ins 0 l)]) = .ok .non [] := fun l => rLook
  have b : dropR (run T FUEL (k + 3) 17 [.val (num 800 A), .val (num 800 C)]) = _ := rAdded (k := k + 1) hA hC
  have c : dropR (run T FUEL (k + 3) 17 [.val (num 800 B), .val (num 800 E)]) = _ := rAdded (k := k + 1) hB hE
  have ad : ∀ {x y : Int}, Wo x → Wo y → (x + y).natAbs < 2 ^ 2011 := fun {x y} hx hy => by
    have h1 := hx.b
    have h2 := hy.b
    rw [Nat.pow_succ (n := 2) (m := 2010)]
    generalize 2 ^ 2010 = Z at *
    omega
  have d : dropR (run T FUEL (k + 3) 12 [.non, .val (num 800 (A + C)), .val (num 800 (B + E))]) = _ := rInit (by decide) (by decide) (b := 2011) (by decide) (ad hA hC) (ad hB hE) (by omega)
  rw [rn18]
  unfold st
  simp only [getS_0, getS_s, ev_var, rdS_val, rdS_own, ev_cst, of_some, of_some', ev_bin, kBin_ok, kBin_ok', ev_cmp, kCmp_ok, kCmp_ok', kCmpR_some, ev_chn, kChn_ok, kChn_ok', kChn2_some, ev_and, kAnd_ok, ev_or, kOr_ok, ev_not, kNot_ok, ev_neg, kNeg_ok, ev_ite, kIteE_ok, es_nil, es_cons, kEs_ok, kEs_ok', ev_tup, ev_lst, kTup_ok, kLst_ok, ev_prim, kPrim_ok, ev_mix, kMix_ok, kMix_ok', kMix2_ok, as_nil, as_val, kAs_ok, kAs_ok', as_own, kOwn_ok, kOwn_ok', kOwn2_ok, as_tmp, kTmp_ok, ev_call, kCall_val, kCall_own, kV_ok, kV_exc, kCallR_ok, ev_callk, kCk_ok, kCk_ok', ev_comp, it_val, it_rng1, it_rng2, kI_ok, kI1_ok, kI2_ok, kI2_ok', ex_skip, ex_brk, ex_cnt, ex_seq, kSeq_nx, kSeq_rt, kSeq_bk, kSeq_ct, kSeq_exc, ex_asg, kAsg_ok, srof, put_eq, kPut_t, free_non, free_val, free_own, bind_name, bind_tup, bind_lst, all_nil, all_cons, kAll_some, ex_new, kNew_ok, ex_app, kApp_ok, kApp_ok', kApp2_ok, ex_put, kSto_ok, kSto1_ok, kSto2_ok, kSto3_0, ex_exp, kExp_ok, ex_ret, kRet_ok, ex_ite, kIte_ok, ex_for, kFor_ok, ex_whl, fin_nx, fin_rt, bn_add, bn_sub, bn_cat, bn_rep2, cp_lt, cp_le, cp_gt, cp_ge, cp_eq, cp_is, cp_nis, cp_ne, kNe_some, av_val, av_tmp, av_own, avO_own, pm_eq, pg_nil, pg_inl, pg_inr, pd_nil, pd_inl, pd_inr, gd_0, gd_s, nw_nil, nw_val, nw_tmp, nw_own, no_nil, no_val, no_tmp, no_own, lt_nil, lt_inl, lt_inr, lentK_t, lentK_f, io_own, io_val, io_tmp, io_none, bk_nil, bk_cons, b1_none, b1_some, backO_own, at_0, at_1, at_2, at_3, at_4, pr_idx_t, pr_idx_l, pr_idx_f, pr_len_t, pr_len_l, pr_len_f, pr_int, pr_int_t, pr_int_f, pr_abs, pr_min, pr_max, dr_ok, eq_int, eq_bl, List.cons_append, List.nil_append, List.append_nil, List.append_assoc, List.length_cons, List.length_nil, List.set_cons_zero, List.set_cons_succ, List.take_succ_cons, List.take_zero, List.take_nil, List.replicate_succ, List.replicate_zero, List.map_cons, List.map_nil, List.getElem?_cons_zero, List.getElem?_cons_succ, is0_non, is0_bl, is0_int, is0_str, is0_tup, is0_lst, is1_non, is1_bl, is1_int, is1_str, is1_tup, is1_lst, is2_non, is2_bl, is2_int, is2_str, is2_tup, is2_lst, is3_non, is3_bl, is3_int, is3_str, is3_tup, is3_lst, is4_non, is4_bl, is4_int, is4_str, is4_tup, is4_lst, ev_make, kMake_ok, kMk_ok, pr_fld0, pr_fld1, pr_fld2, pr_isc, pr_drop1, yes_eq, co_nil, co_cons, kCo1_ok, kCo2_ok, kCo3_ok, kCo4_ok, ev_comp2, kC2_ok, kC2e_ok, ns_non, clr_eq', kClr_t, iv_non, iv_val, cl_nil, cl_cons, kCl_b, kCl2_ok, kCl3_some, kComp_ok2, kCm_ok, pr_int_b, it_rng3, kI3_ok, kI3_ok', cp_in, cp_nin, isn_non, isn_tup, forL_nil, forL_cons, kFl_ok, kFb_nx, kFb_ct, kFb_bk, kFb_rt, sq_t, sq_l, kWhl_ok, kWb_nx, kWb_ct, kWb_bk, kWb_rt, lineN, cond_true, cond_false, Bool.cond_decide, Bool.not_true, Bool.not_false, Bool.and_true, Bool.true_and, Bool.and_false, Bool.false_and, Nat.zero_add, beq_self_eq_true, decide_true, decide_false, if_true, if_false, Bool.true_eq_false, Bool.false_eq_true, reduceIte, Nat.reduceAdd, Nat.reduceSub, Nat.reduceMul, Nat.reduceLeDiff, Nat.reduceBEq, Nat.reduceEqDiff, Int.reduceToNat, Int.reduceNeg, Nat.reduceLT, Nat.sub_self, u_b18, a, b, c, d]
/-! ### least and greatest of four -/
theorem lt_step {C : Rf.Cx} (x y : Int) : True := trivial
theorem rLeast {k : Nat} {a b c d : Int} {n : Nat} (hn : n ≤ 100000 - 5000) (ha : a.natAbs < 2 ^ n) (hb : b.natAbs < 2 ^ n) (hc : c.natAbs < 2 ^ n) (hd : d.natAbs < 2 ^ n) :
    dropR (run T FUEL (k + 3) 21 [.val (.lst [num 1600 a, num 1600 b, num 1600 c, num 1600 d])]) = .ok (num 1600 (mn (mn (mn a b) c) d)) [] := by
  have mnb : ∀ {x y : Int}, x.natAbs < 2 ^ n → y.natAbs < 2 ^ n → (mn x y).natAbs < 2 ^ n := fun {x y} h1 h2 => by unfold mn; split <;> assumption
  have stp : ∀ (x y : Int) (t : S) (s : S), free t = true → x.natAbs < 2 ^ n → y.natAbs < 2 ^ n → exS ⟨run T FUEL (k + 2), FUEL⟩ b21l0 [s, .val (num 1600 x), .val (num 1600 y)] = .nx [s, .val (num 1600 (mn x y)), .val (num 1600 y)] := fun x y t s ht hx hy => by
    have q : dropR (run T FUEL (k + 2) 9 [.val (num 1600 y), .val (num 1600 x)]) = _ := rCmp (by decide) (by decide) hn hy hx
    by_cases h : y < x
    · have hc := (cm_lt y x).mpr h
      have e : mn x y = y := if_pos h
      rw [e]
      simp only [getS_0, getS_s, ev_var, rdS_val, rdS_own, ev_cst, of_some, of_some', ev_bin, kBin_ok, kBin_ok', ev_cmp, kCmp_ok, kCmp_ok', kCmpR_some, ev_chn, kChn_ok, kChn_ok', kChn2_some, ev_and, kAnd_ok, ev_or, kOr_ok, ev_not, kNot_ok, ev_neg, kNeg_ok, ev_ite, kIteE_ok, es_nil, es_cons, kEs_ok, kEs_ok', ev_tup, ev_lst, kTup_ok, kLst_ok, ev_prim, kPrim_ok, ev_mix, kMix_ok, kMix_ok', kMix2_ok, as_nil, as_val, kAs_ok, kAs_ok', as_own, kOwn_ok, kOwn_ok', kOwn2_ok, as_tmp, kTmp_ok, ev_call, kCall_val, kCall_own, kV_ok, kV_exc, kCallR_ok, ev_callk, kCk_ok, kCk_ok', ev_comp, it_val, it_rng1, it_rng2, kI_ok, kI1_ok, kI2_ok, kI2_ok', ex_skip, ex_brk, ex_cnt, ex_seq, kSeq_nx, kSeq_rt, kSeq_bk, kSeq_ct, kSeq_exc, ex_asg, kAsg_ok, srof, put_eq, kPut_t, free_non, free_val, free_own, bind_name, bind_tup, bind_lst, all_nil, all_cons, kAll_some, ex_new, kNew_ok, ex_app, kApp_ok, kApp_ok', kApp2_ok, ex_put, kSto_ok, kSto1_ok, kSto2_ok, kSto3_0, ex_exp, kExp_ok, ex_ret, kRet_ok, ex_ite, kIte_ok, ex_for, kFor_ok, ex_whl, fin_nx, fin_rt, bn_add, bn_sub, bn_cat, bn_rep2, cp_lt, cp_le, cp_gt, cp_ge, cp_eq, cp_is, cp_nis, cp_ne, kNe_some, av_val, av_tmp, av_own, avO_own, pm_eq, pg_nil, pg_inl, pg_inr, pd_nil, pd_inl, pd_inr, gd_0, gd_s, nw_nil, nw_val, nw_tmp, nw_own, no_nil, no_val, no_tmp, no_own, lt_nil, lt_inl, lt_inr, lentK_t, lentK_f, io_own, io_val, io_tmp, io_none, bk_nil, bk_cons, b1_none, b1_some, backO_own, at_0, at_1, at_2, at_3, at_4, pr_idx_t, pr_idx_l, pr_idx_f, pr_len_t, pr_len_l, pr_len_f, pr_int, pr_int_t, pr_int_f, pr_abs, pr_min, pr_max, dr_ok, eq_int, eq_bl, List.cons_append, List.nil_append, List.append_nil, List.append_assoc, List.length_cons, List.length_nil, List.set_cons_zero, List.set_cons_succ, List.take_succ_cons, List.take_zero, List.take_nil, List.replicate_succ, List.replicate_zero, List.map_cons, List.map_nil, List.getElem?_cons_zero, List.getElem?_cons_succ, is0_non, is0_bl, is0_int, is0_str, is0_tup, is0_lst, is1_non, is1_bl, is1_int, is1_str, is1_tup, is1_lst, is2_non, is2_bl, is2_int, is2_str, is2_tup, is2_lst, is3_non, is3_bl, is3_int, is3_str, is3_tup, is3_lst, is4_non, is4_bl, is4_int, is4_str, is4_tup, is4_lst, ev_make, kMake_ok, kMk_ok, pr_fld0, pr_fld1, pr_fld2, pr_isc, pr_drop1, yes_eq, co_nil, co_cons, kCo1_ok, kCo2_ok, kCo3_ok, kCo4_ok, ev_comp2, kC2_ok, kC2e_ok, ns_non, clr_eq', kClr_t, iv_non, iv_val, cl_nil, cl_cons, kCl_b, kCl2_ok, kCl3_some, kComp_ok2, kCm_ok, pr_int_b, it_rng3, kI3_ok, kI3_ok', cp_in, cp_nin, isn_non, isn_tup, forL_nil, forL_cons, kFl_ok, kFb_nx, kFb_ct, kFb_bk, kFb_rt, sq_t, sq_l, kWhl_ok, kWb_nx, kWb_ct, kWb_bk, kWb_rt, lineN, cond_true, cond_false, Bool.cond_decide, Bool.not_true, Bool.not_false, Bool.and_true, Bool.true_and, Bool.and_false, Bool.false_and, Nat.zero_add, beq_self_eq_true, decide_true, decide_false, if_true, if_false, Bool.true_eq_false, Bool.false_eq_true, reduceIte, Nat.reduceAdd, Nat.reduceSub, Nat.reduceMul, Nat.reduceLeDiff, Nat.reduceBEq, Nat.reduceEqDiff, Int.reduceToNat, Int.reduceNeg, Nat.reduceLT, Nat.sub_self, u_b21l0, q, hc]
    · have hc : ¬ CM y x < 0 := fun z => h ((cm_lt y x).mp z)
      have e : mn x y = x := if_neg h
      rw [e]
      simp only [getS_0, getS_s, ev_var, rdS_val, rdS_own, ev_cst, of_some, of_some', ev_bin, kBin_ok, kBin_ok', ev_cmp, kCmp_ok, kCmp_ok', kCmpR_some, ev_chn, kChn_ok, kChn_ok', kChn2_some, ev_and, kAnd_ok, ev_or, kOr_ok, ev_not, kNot_ok, ev_neg, kNeg_ok, ev_ite, kIteE_ok, es_nil, es_cons, kEs_ok, kEs_ok', ev_tup, ev_lst, kTup_ok, kLst_ok, ev_prim, kPrim_ok, ev_mix, kMix_ok, kMix_ok', kMix2_ok, as_nil, as_val, kAs_ok, kAs_ok', as_own, kOwn_ok, kOwn_ok', kOwn2_ok, as_tmp, kTmp_ok, ev_call, kCall_val, kCall_own, kV_ok, kV_exc, kCallR_ok, ev_callk, kCk_ok, kCk_ok', ev_comp, it_val, it_rng1, it_rng2, kI_ok, kI1_ok, kI2_ok, kI2_ok', ex_skip, ex_brk, ex_cnt, ex_seq, kSeq_nx, kSeq_rt, kSeq_bk, kSeq_ct, kSeq_exc, ex_asg, kAsg_ok, srof, put_eq, kPut_t, free_non, free_val, free_own, bind_name, bind_tup, bind_lst, all_nil, all_cons, kAll_some, ex_new, kNew_ok, ex_app, kApp_ok, kApp_ok', kApp2_ok, ex_put, kSto_ok, kSto1_ok, kSto2_ok, kSto3_0, ex_exp, kExp_ok, ex_ret, kRet_ok, ex_ite, kIte_ok, ex_for, kFor_ok, ex_whl, fin_nx, fin_rt, bn_add, bn_sub, bn_cat, bn_rep2, cp_lt, cp_le, cp_gt, cp_ge, cp_eq, cp_is, cp_nis, cp_ne, kNe_some, av_val, av_tmp, av_own, avO_own, pm_eq, pg_nil, pg_inl, pg_inr, pd_nil, pd_inl, pd_inr, gd_0, gd_s, nw_nil, nw_val, nw_tmp, nw_own, no_nil, no_val, no_tmp, no_own, lt_nil, lt_inl, lt_inr, lentK_t, lentK_f, io_own, io_val, io_tmp, io_none, bk_nil, bk_cons, b1_none, b1_some, backO_own, at_0, at_1, at_2, at_3, at_4, pr_idx_t, pr_idx_l, pr_idx_f, pr_len_t, pr_len_l, pr_len_f, pr_int, pr_int_t, pr_int_f, pr_abs, pr_min, pr_max, dr_ok, eq_int, eq_bl, List.cons_append, List.nil_append, List.append_nil, List.append_assoc, List.length_cons, List.length_nil, List.set_cons_zero, List.set_cons_succ, List.take_succ_cons, List.take_zero, List.take_nil, List.replicate_succ, List.replicate_zero, List.map_cons, List.map_nil, List.getElem?_cons_zero, List.getElem?_cons_succ, is0_non, is0_bl, is0_int, is0_str, is0_tup, is0_lst, is1_non, is1_bl, is1_int, is1_str, is1_tup, is1_lst, is2_non, is2_bl, is2_int, is2_str, is2_tup, is2_lst, is3_non, is3_bl, is3_int, is3_str, is3_tup, is3_lst, is4_non, is4_bl, is4_int, is4_str, is4_tup, is4_lst, ev_make, kMake_ok, kMk_ok, pr_fld0, pr_fld1, pr_fld2, pr_isc, pr_drop1, yes_eq, co_nil, co_cons, kCo1_ok, kCo2_ok, kCo3_ok, kCo4_ok, ev_comp2, kC2_ok, kC2e_ok, ns_non, clr_eq', kClr_t, iv_non, iv_val, cl_nil, cl_cons, kCl_b, kCl2_ok, kCl3_some, kComp_ok2, kCm_ok, pr_int_b, it_rng3, kI3_ok, kI3_ok', cp_in, cp_nin, isn_non, isn_tup, forL_nil, forL_cons, kFl_ok, kFb_nx, kFb_ct, kFb_bk, kFb_rt, sq_t, sq_l, kWhl_ok, kWb_nx, kWb_ct, kWb_bk, kWb_rt, lineN, cond_true, cond_false, Bool.cond_decide, Bool.not_true, Bool.not_false, Bool.and_true, Bool.true_and, Bool.and_false, Bool.false_and, Nat.zero_add, beq_self_eq_true, decide_true, decide_false, if_true, if_false, Bool.true_eq_false, Bool.false_eq_true, reduceIte, Nat.reduceAdd, Nat.reduceSub, Nat.reduceMul, Nat.reduceLeDiff, Nat.reduceBEq, Nat.reduceEqDiff, Int.reduceToNat, Int.reduceNeg, Nat.reduceLT, Nat.sub_self, u_b21l0, q, hc]
  have s1 := stp a b .non (.val (.lst [num 1600 a, num 1600 b, num 1600 c, num 1600 d])) rfl ha hb
  have s2 := stp (mn a b) c .non (.val (.lst [num 1600 a, num 1600 b, num 1600 c, num 1600 d])) rfl (mnb ha hb) hc
  have s3 := stp (mn (mn a b) c) d .non (.val (.lst [num 1600 a, num 1600 b, num 1600 c, num 1600 d])) rfl (mnb (mnb ha hb) hc) hd
  rw [rn21]
  simp only [getS_0, getS_s, ev_var, rdS_val, rdS_own, ev_cst, of_some, of_some', ev_bin, kBin_ok, kBin_ok', ev_cmp, kCmp_ok, kCmp_ok', kCmpR_some, ev_chn, kChn_ok, kChn_ok', kChn2_some, ev_and, kAnd_ok, ev_or, kOr_ok, ev_not, kNot_ok, ev_neg, kNeg_ok, ev_ite, kIteE_ok, es_nil, es_cons, kEs_ok, kEs_ok', ev_tup, ev_lst, kTup_ok, kLst_ok, ev_prim, kPrim_ok, ev_mix, kMix_ok, kMix_ok', kMix2_ok, as_nil, as_val, kAs_ok, kAs_ok', as_own, kOwn_ok, kOwn_ok', kOwn2_ok, as_tmp, kTmp_ok, ev_call, kCall_val, kCall_own, kV_ok, kV_exc, kCallR_ok, ev_callk, kCk_ok, kCk_ok', ev_comp, it_val, it_rng1, it_rng2, kI_ok, kI1_ok, kI2_ok, kI2_ok', ex_skip, ex_brk, ex_cnt, ex_seq, kSeq_nx, kSeq_rt, kSeq_bk, kSeq_ct, kSeq_exc, ex_asg, kAsg_ok, srof, put_eq, kPut_t, free_non, free_val, free_own, bind_name, bind_tup, bind_lst, all_nil, all_cons, kAll_some, ex_new, kNew_ok, ex_app, kApp_ok, kApp_ok', kApp2_ok, ex_put, kSto_ok, kSto1_ok, kSto2_ok, kSto3_0, ex_exp, kExp_ok, ex_ret, kRet_ok, ex_ite, kIte_ok, ex_for, kFor_ok, ex_whl, fin_nx, fin_rt, bn_add, bn_sub, bn_cat, bn_rep2, cp_lt, cp_le, cp_gt, cp_ge, cp_eq, cp_is, cp_nis, cp_ne, kNe_some, av_val, av_tmp, av_own, avO_own, pm_eq, pg_nil, pg_inl, pg_inr, pd_nil, pd_inl, pd_inr, gd_0, gd_s, nw_nil, nw_val, nw_tmp, nw_own, no_nil, no_val, no_tmp, no_own, lt_nil, lt_inl, lt_inr, lentK_t, lentK_f, io_own, io_val, io_tmp, io_none, bk_nil, bk_cons, b1_none, b1_some, backO_own, at_0, at_1, at_2, at_3, at_4, pr_idx_t, pr_idx_l, pr_idx_f, pr_len_t, pr_len_l, pr_len_f, pr_int, pr_int_t, pr_int_f, pr_abs, pr_min, pr_max, dr_ok, eq_int, eq_bl, List.cons_append, List.nil_append, List.append_nil, List.append_assoc, List.length_cons, List.length_nil, List.set_cons_zero, List.set_cons_succ, List.take_succ_cons, List.take_zero, List.take_nil, List.replicate_succ, List.replicate_zero, List.map_cons, List.map_nil, List.getElem?_cons_zero, List.getElem?_cons_succ, is0_non, is0_bl, is0_int, is0_str, is0_tup, is0_lst, is1_non, is1_bl, is1_int, is1_str, is1_tup, is1_lst, is2_non, is2_bl, is2_int, is2_str, is2_tup, is2_lst, is3_non, is3_bl, is3_int, is3_str, is3_tup, is3_lst, is4_non, is4_bl, is4_int, is4_str, is4_tup, is4_lst, ev_make, kMake_ok, kMk_ok, pr_fld0, pr_fld1, pr_fld2, pr_isc, pr_drop1, yes_eq, co_nil, co_cons, kCo1_ok, kCo2_ok, kCo3_ok, kCo4_ok, ev_comp2, kC2_ok, kC2e_ok, ns_non, clr_eq', kClr_t, iv_non, iv_val, cl_nil, cl_cons, kCl_b, kCl2_ok, kCl3_some, kComp_ok2, kCm_ok, pr_int_b, it_rng3, kI3_ok, kI3_ok', cp_in, cp_nin, isn_non, isn_tup, forL_nil, forL_cons, kFl_ok, kFb_nx, kFb_ct, kFb_bk, kFb_rt, sq_t, sq_l, kWhl_ok, kWb_nx, kWb_ct, kWb_bk, kWb_rt, lineN, cond_true, cond_false, Bool.cond_decide, Bool.not_true, Bool.not_false, Bool.and_true, Bool.true_and, Bool.and_false, Bool.false_and, Nat.zero_add, beq_self_eq_true, decide_true, decide_false, if_true, if_false, Bool.true_eq_false, Bool.false_eq_true, reduceIte, Nat.reduceAdd, Nat.reduceSub, Nat.reduceMul, Nat.reduceLeDiff, Nat.reduceBEq, Nat.reduceEqDiff, Int.reduceToNat, Int.reduceNeg, Nat.reduceLT, Nat.sub_self, u_b21, s1, s2, s3]
def mx (a b : Int) : Int := if a < b then b else a
theorem rEnds {k : Nat} {a b c d : Int} {n : Nat} (hn : n ≤ 100000 - 5000) (ha : a.natAbs < 2 ^ n) (hb : b.natAbs < 2 ^ n) (hc : c.natAbs < 2 ^ n) (hd : d.natAbs < 2 ^ n) :
    dropR (run T FUEL (k + 3) 13 [.val (.lst [num 1600 a, num 1600 b, num 1600 c, num 1600 d])]) = .ok (.tup [num 1600 (mn (mn (mn a b) c) d), num 1600 (mx (mx (mx a b) c) d)]) [] := by
  have mnb : ∀ {x y : Int}, x.natAbs < 2 ^ n → y.natAbs < 2 ^ n → (mn x y).natAbs < 2 ^ n := fun {x y} h1 h2 => by unfold mn; split <;> assumption
  have mxb : ∀ {x y : Int}, x.natAbs < 2 ^ n → y.natAbs < 2 ^ n → (mx x y).natAbs < 2 ^ n := fun {x y} h1 h2 => by unfold mx; split <;> assumption
  have stp : ∀ (x z y : Int) (s : S), x.natAbs < 2 ^ n → z.natAbs < 2 ^ n → y.natAbs < 2 ^ n → exS ⟨run T FUEL (k + 2), FUEL⟩ b13l0 [s, .val (num 1600 x), .val (num 1600 z), .val (num 1600 y)] = .nx [s, .val (num 1600 (mn x y)), .val (num 1600 (mx z y)), .val (num 1600 y)] := fun x z y s hx hz hy => by
    have q : dropR (run T FUEL (k + 2) 4 [.val (num 1600 y), .val (num 1600 x)]) = _ := rLCmp (by decide) (by decide) hn hy hx
    have q2 : dropR (run T FUEL (k + 2) 4 [.val (num 1600 y), .val (num 1600 z)]) = _ := rLCmp (by decide) (by decide) hn hy hz
    have gt : 0 < CM y z ↔ z < y := by
      have := cm_le y z
      omega
    by_cases h : y < x
    · have hc := (cm_lt y x).mpr h
      have e : mn x y = y := if_pos h
      rw [e]
      by_cases h2 : z < y
      · have hc2 := gt.mpr h2
        have e2 : mx z y = y := if_pos h2
        rw [e2]
        simp only [getS_0, getS_s, ev_var, rdS_val, rdS_own, ev_cst, of_some, of_some', ev_bin, kBin_ok, kBin_ok', ev_cmp, kCmp_ok, kCmp_ok', kCmpR_some, ev_chn, kChn_ok, kChn_ok', kChn2_some, ev_and, kAnd_ok, ev_or, kOr_ok, ev_not, kNot_ok, ev_neg, kNeg_ok, ev_ite, kIteE_ok, es_nil, es_cons, kEs_ok, kEs_ok', ev_tup, ev_lst, kTup_ok, kLst_ok, ev_prim, kPrim_ok, ev_mix, kMix_ok, kMix_ok', kMix2_ok, as_nil, as_val, kAs_ok, kAs_ok', as_own, kOwn_ok, kOwn_ok', kOwn2_ok, as_tmp, kTmp_ok, ev_call, kCall_val, kCall_own, kV_ok, kV_exc, kCallR_ok, ev_callk, kCk_ok, kCk_ok', ev_comp, it_val, it_rng1, it_rng2, kI_ok, kI1_ok, kI2_ok, kI2_ok', ex_skip, ex_brk, ex_cnt, ex_seq, kSeq_nx, kSeq_rt, kSeq_bk, kSeq_ct, kSeq_exc, ex_asg, kAsg_ok, srof, put_eq, kPut_t, free_non, free_val, free_own, bind_name, bind_tup, bind_lst, all_nil, all_cons, kAll_some, ex_new, kNew_ok, ex_app, kApp_ok, kApp_ok', kApp2_ok, ex_put, kSto_ok, kSto1_ok, kSto2_ok, kSto3_0, ex_exp, kExp_ok, ex_ret, kRet_ok, ex_ite, kIte_ok, ex_for, kFor_ok, ex_whl, fin_nx, fin_rt, bn_add, bn_sub, bn_cat, bn_rep2, cp_lt, cp_le, cp_gt, cp_ge, cp_eq, cp_is, cp_nis, cp_ne, kNe_some, av_val, av_tmp, av_own, avO_own, pm_eq, pg_nil, pg_inl, pg_inr, pd_nil, pd_inl, pd_inr, gd_0, gd_s, nw_nil, nw_val, nw_tmp, nw_own, no_nil, no_val, no_tmp, no_own, lt_nil, lt_inl, lt_inr, lentK_t, lentK_f, io_own, io_val, io_tmp, io_none, bk_nil, bk_cons, b1_none, b1_some, backO_own, at_0, at_1, at_2, at_3, at_4, pr_idx_t, pr_idx_l, pr_idx_f, pr_len_t, pr_len_l, pr_len_f, pr_int, pr_int_t, pr_int_f, pr_abs, pr_min, pr_max, dr_ok, eq_int, eq_bl, List.cons_append, List.nil_append, List.append_nil, List.append_assoc, List.length_cons, List.length_nil, List.set_cons_zero, List.set_cons_succ, List.take_succ_cons, List.take_zero, List.take_nil, List.replicate_succ, List.replicate_zero, List.map_cons, List.map_nil, List.getElem?_cons_zero, List.getElem?_cons_succ, is0_non, is0_bl, is0_int, is0_str, is0_tup, is0_lst, is1_non, is1_bl, is1_int, is1_str, is1_tup, is1_lst, is2_non, is2_bl, is2_int, is2_str, is2_tup, is2_lst, is3_non, is3_bl, is3_int, is3_str, is3_tup, is3_lst, is4_non, is4_bl, is4_int, is4_str, is4_tup, is4_lst, ev_make, kMake_ok, kMk_ok, pr_fld0, pr_fld1, pr_fld2, pr_isc, pr_drop1, yes_eq, co_nil, co_cons, kCo1_ok, kCo2_ok, kCo3_ok, kCo4_ok, ev_comp2, kC2_ok, kC2e_ok, ns_non, clr_eq', kClr_t, iv_non, iv_val, cl_nil, cl_cons, kCl_b, kCl2_ok, kCl3_some, kComp_ok2, kCm_ok, pr_int_b, it_rng3, kI3_ok, kI3_ok', cp_in, cp_nin, isn_non, isn_tup, forL_nil, forL_cons, kFl_ok, kFb_nx, kFb_ct, kFb_bk, kFb_rt, sq_t, sq_l, kWhl_ok, kWb_nx, kWb_ct, kWb_bk, kWb_rt, lineN, cond_true, cond_false, Bool.cond_decide, Bool.not_true, Bool.not_false, Bool.and_true, Bool.true_and, Bool.and_false, Bool.false_and, Nat.zero_add, beq_self_eq_true, decide_true, decide_false, if_true, if_false, Bool.true_eq_false, Bool.false_eq_true, reduceIte, Nat.reduceAdd, Nat.reduceSub, Nat.reduceMul, Nat.reduceLeDiff, Nat.reduceBEq, Nat.reduceEqDiff, Int.reduceToNat, Int.reduceNeg, Nat.reduceLT, Nat.sub_self, u_b13l0, q, hc, q2, hc2]
      · have hc2 : ¬ 0 < CM y z := fun w => h2 (gt.mp w)
        have e2 : mx z y = z := if_neg h2
        rw [e2]
        simp only [getS_0, getS_s, ev_var, rdS_val, rdS_own, ev_cst, of_some, of_some', ev_bin, kBin_ok, kBin_ok', ev_cmp, kCmp_ok, kCmp_ok', kCmpR_some, ev_chn, kChn_ok, kChn_ok', kChn2_some, ev_and, kAnd_ok, ev_or, kOr_ok, ev_not, kNot_ok, ev_neg, kNeg_ok, ev_ite, kIteE_ok, es_nil, es_cons, kEs_ok, kEs_ok', ev_tup, ev_lst, kTup_ok, kLst_ok, ev_prim, kPrim_ok, ev_mix, kMix_ok, kMix_ok', kMix2_ok, as_nil, as_val, kAs_ok, kAs_ok', as_own, kOwn_ok, kOwn_ok', kOwn2_ok, as_tmp, kTmp_ok, ev_call, kCall_val, kCall_own, kV_ok, kV_exc, kCallR_ok, ev_callk, kCk_ok, kCk_ok', ev_comp, it_val, it_rng1, it_rng2, kI_ok, kI1_ok, kI2_ok, kI2_ok', ex_skip, ex_brk, ex_cnt, ex_seq, kSeq_nx, kSeq_rt, kSeq_bk, kSeq_ct, kSeq_exc, ex_asg, kAsg_ok, srof, put_eq, kPut_t, free_non, free_val, free_own, bind_name, bind_tup, bind_lst, all_nil, all_cons, kAll_some, ex_new, kNew_ok, ex_app, kApp_ok, kApp_ok', kApp2_ok, ex_put, kSto_ok, kSto1_ok, kSto2_ok, kSto3_0, ex_exp, kExp_ok, ex_ret, kRet_ok, ex_ite, kIte_ok, ex_for, kFor_ok, ex_whl, fin_nx, fin_rt, bn_add, bn_sub, bn_cat, bn_rep2, cp_lt, cp_le, cp_gt, cp_ge, cp_eq, cp_is, cp_nis, cp_ne, kNe_some, av_val, av_tmp, av_own, avO_own, pm_eq, pg_nil, pg_inl, pg_inr, pd_nil, pd_inl, pd_inr, gd_0, gd_s, nw_nil, nw_val, nw_tmp, nw_own, no_nil, no_val, no_tmp, no_own, lt_nil, lt_inl, lt_inr, lentK_t, lentK_f, io_own, io_val, io_tmp, io_none, bk_nil, bk_cons, b1_none, b1_some, backO_own, at_0, at_1, at_2, at_3, at_4, pr_idx_t, pr_idx_l, pr_idx_f, pr_len_t, pr_len_l, pr_len_f, pr_int, pr_int_t, pr_int_f, pr_abs, pr_min, pr_max, dr_ok, eq_int, eq_bl, List.cons_append, List.nil_append, List.append_nil, List.append_assoc, List.length_cons, List.length_nil, List.set_cons_zero, List.set_cons_succ, List.take_succ_cons, List.take_zero, List.take_nil, List.replicate_succ, List.replicate_zero, List.map_cons, List.map_nil, List.getElem?_cons_zero, List.getElem?_cons_succ, is0_non, is0_bl, is0_int, is0_str, is0_tup, is0_lst, is1_non, is1_bl, is1_int, is1_str, is1_tup, is1_lst, is2_non, is2_bl, is2_int, is2_str, is2_tup, is2_lst, is3_non, is3_bl, is3_int, is3_str, is3_tup, is3_lst, is4_non, is4_bl, is4_int, is4_str, is4_tup, is4_lst, ev_make, kMake_ok, kMk_ok, pr_fld0, pr_fld1, pr_fld2, pr_isc, pr_drop1, yes_eq, co_nil, co_cons, kCo1_ok, kCo2_ok, kCo3_ok, kCo4_ok, ev_comp2, kC2_ok, kC2e_ok, ns_non, clr_eq', kClr_t, iv_non, iv_val, cl_nil, cl_cons, kCl_b, kCl2_ok, kCl3_some, kComp_ok2, kCm_ok, pr_int_b, it_rng3, kI3_ok, kI3_ok', cp_in, cp_nin, isn_non, isn_tup, forL_nil, forL_cons, kFl_ok, kFb_nx, kFb_ct, kFb_bk, kFb_rt, sq_t, sq_l, kWhl_ok, kWb_nx, kWb_ct, kWb_bk, kWb_rt, lineN, cond_true, cond_false, Bool.cond_decide, Bool.not_true, Bool.not_false, Bool.and_true, Bool.true_and, Bool.and_false, Bool.false_and, Nat.zero_add, beq_self_eq_true, decide_true, decide_false, if_true, if_false, Bool.true_eq_false, Bool.false_eq_true, reduceIte, Nat.reduceAdd, Nat.reduceSub, Nat.reduceMul, Nat.reduceLeDiff, Nat.reduceBEq, Nat.reduceEqDiff, Int.reduceToNat, Int.reduceNeg, Nat.reduceLT, Nat.sub_self, u_b13l0, q, hc, q2, hc2]
    · have hc : ¬ CM y x < 0 := fun w => h ((cm_lt y x).mp w)
      have e : mn x y = x := if_neg h
      rw [e]
      by_cases h2 : z < y
      · have hc2 := gt.mpr h2
        have e2 : mx z y = y := if_pos h2
        rw [e2]
        simp only [getS_0, getS_s, ev_var, rdS_val, rdS_own, ev_cst, of_some, of_some', ev_bin, kBin_ok, kBin_ok', ev_cmp, kCmp_ok, kCmp_ok', kCmpR_some, ev_chn, kChn_ok, kChn_ok', kChn2_some, ev_and, kAnd_ok, ev_or, kOr_ok, ev_not, kNot_ok, ev_neg, kNeg_ok, ev_ite, kIteE_ok, es_nil, es_cons, kEs_ok, kEs_ok', ev_tup, ev_lst, kTup_ok, kLst_ok, ev_prim, kPrim_ok, ev_mix, kMix_ok, kMix_ok', kMix2_ok, as_nil, as_val, kAs_ok, kAs_ok', as_own, kOwn_ok, kOwn_ok', kOwn2_ok, as_tmp, kTmp_ok, ev_call, kCall_val, kCall_own, kV_ok, kV_exc, kCallR_ok, ev_callk, kCk_ok, kCk_ok', ev_comp, it_val, it_rng1, it_rng2, kI_ok, kI1_ok, kI2_ok, kI2_ok', ex_skip, ex_brk, ex_cnt, ex_seq, kSeq_nx, kSeq_rt, kSeq_bk, kSeq_ct, kSeq_exc, ex_asg, kAsg_ok, srof, put_eq, kPut_t, free_non, free_val, free_own, bind_name, bind_tup, bind_lst, all_nil, all_cons, kAll_some, ex_new, kNew_ok, ex_app, kApp_ok, kApp_ok', kApp2_ok, ex_put, kSto_ok, kSto1_ok, kSto2_ok, kSto3_0, ex_exp, kExp_ok, ex_ret, kRet_ok, ex_ite, kIte_ok, ex_for, kFor_ok, ex_whl, fin_nx, fin_rt, bn_add, bn_sub, bn_cat, bn_rep2, cp_lt, cp_le, cp_gt, cp_ge, cp_eq, cp_is, cp_nis, cp_ne, kNe_some, av_val, av_tmp, av_own, avO_own, pm_eq, pg_nil, pg_inl, pg_inr, pd_nil, pd_inl, pd_inr, gd_0, gd_s, nw_nil, nw_val, nw_tmp, nw_own, no_nil, no_val, no_tmp, no_own, lt_nil, lt_inl, lt_inr, lentK_t, lentK_f, io_own, io_val, io_tmp, io_none, bk_nil, bk_cons, b1_none, b1_some, backO_own, at_0, at_1, at_2, at_3, at_4, pr_idx_t, pr_idx_l, pr_idx_f, pr_len_t, pr_len_l, pr_len_f, pr_int, pr_int_t, pr_int_f, pr_abs, pr_min, pr_max, dr_ok, eq_int, eq_bl, List.cons_append, List.nil_append, List.append_nil, List.append_assoc, List.length_cons, List.length_nil, List.set_cons_zero, List.set_cons_succ, List.take_succ_cons, List.take_zero, List.take_nil, List.replicate_succ, List.replicate_zero, List.map_cons, List.map_nil, List.getElem?_cons_zero, List.getElem?_cons_succ, is0_non, is0_bl, is0_int, is0_str, is0_tup, is0_lst, is1_non, is1_bl, is1_int, is1_str, is1_tup, is1_lst, is2_non, is2_bl, is2_int, is2_str, is2_tup, is2_lst, is3_non, is3_bl, is3_int, is3_str, is3_tup, is3_lst, is4_non, is4_bl, is4_int, is4_str, is4_tup, is4_lst, ev_make, kMake_ok, kMk_ok, pr_fld0, pr_fld1, pr_fld2, pr_isc, pr_drop1, yes_eq, co_nil, co_cons, kCo1_ok, kCo2_ok, kCo3_ok, kCo4_ok, ev_comp2, kC2_ok, kC2e_ok, ns_non, clr_eq', kClr_t, iv_non, iv_val, cl_nil, cl_cons, kCl_b, kCl2_ok, kCl3_some, kComp_ok2, kCm_ok, pr_int_b, it_rng3, kI3_ok, kI3_ok', cp_in, cp_nin, isn_non, isn_tup, forL_nil, forL_cons, kFl_ok, kFb_nx, kFb_ct, kFb_bk, kFb_rt, sq_t, sq_l, kWhl_ok, kWb_nx, kWb_ct, kWb_bk, kWb_rt, lineN, cond_true, cond_false, Bool.cond_decide, Bool.not_true, Bool.not_false, Bool.and_true, Bool.true_and, Bool.and_false, Bool.false_and, Nat.zero_add, beq_self_eq_true, decide_true, decide_false, if_true, if_false, Bool.true_eq_false, Bool.false_eq_true, reduceIte, Nat.reduceAdd, Nat.reduceSub, Nat.reduceMul, Nat.reduceLeDiff, Nat.reduceBEq, Nat.reduceEqDiff, Int.reduceToNat, Int.reduceNeg, Nat.reduceLT, Nat.sub_self, u_b13l0, q, hc, q2, hc2]
      · have hc2 : ¬ 0 < CM y z := fun w => h2 (gt.mp w)
        have e2 : mx z y = z := if_neg h2
        rw [e2]
        simp only [getS_0, getS_s, ev_var, rdS_val, rdS_own, ev_cst, of_some, of_some', ev_bin, kBin_ok, kBin_ok', ev_cmp, kCmp_ok, kCmp_ok', kCmpR_some, ev_chn, kChn_ok, kChn_ok', kChn2_some, ev_and, kAnd_ok, ev_or, kOr_ok, ev_not, kNot_ok, ev_neg, kNeg_ok, ev_ite, kIteE_ok, es_nil, es_cons, kEs_ok, kEs_ok', ev_tup, ev_lst, kTup_ok, kLst_ok, ev_prim, kPrim_ok, ev_mix, kMix_ok, kMix_ok', kMix2_ok, as_nil, as_val, kAs_ok, kAs_ok', as_own, kOwn_ok, kOwn_ok', kOwn2_ok, as_tmp, kTmp_ok, ev_call, kCall_val, kCall_own, kV_ok, kV_exc, kCallR_ok, ev_callk, kCk_ok, kCk_ok', ev_comp, it_val, it_rng1, it_rng2, kI_ok, kI1_ok, kI2_ok, kI2_ok', ex_skip, ex_brk, ex_cnt, ex_seq, kSeq_nx, kSeq_rt, kSeq_bk, kSeq_ct, kSeq_exc, ex_asg, kAsg_ok, srof, put_eq, kPut_t, free_non, free_val, free_own, bind_name, bind_tup, bind_lst, all_nil, all_cons, kAll_some, ex_new, kNew_ok, ex_app, kApp_ok, kApp_ok', kApp2_ok, ex_put, kSto_ok, kSto1_ok, kSto2_ok, kSto3_0, ex_exp, kExp_ok, ex_ret, kRet_ok, ex_ite, kIte_ok, ex_for, kFor_ok, ex_whl, fin_nx, fin_rt, bn_add, bn_sub, bn_cat, bn_rep2, cp_lt, cp_le, cp_gt, cp_ge, cp_eq, cp_is, cp_nis, cp_ne, kNe_some, av_val, av_tmp, av_own, avO_own, pm_eq, pg_nil, pg_inl, pg_inr, pd_nil, pd_inl, pd_inr, gd_0, gd_s, nw_nil, nw_val, nw_tmp, nw_own, no_nil, no_val, no_tmp, no_own, lt_nil, lt_inl, lt_inr, lentK_t, lentK_f, io_own, io_val, io_tmp, io_none, bk_nil, bk_cons, b1_none, b1_some, backO_own, at_0, at_1, at_2, at_3, at_4, pr_idx_t, pr_idx_l, pr_idx_f, pr_len_t, pr_len_l, pr_len_f, pr_int, pr_int_t, pr_int_f, pr_abs, pr_min, pr_max, dr_ok, eq_int, eq_bl, List.cons_append, List.nil_append, List.append_nil, List.append_assoc, List.length_cons, List.length_nil, List.set_cons_zero, List.set_cons_succ, List.take_succ_cons, List.take_zero, List.take_nil, List.replicate_succ, List.replicate_zero, List.map_cons, List.map_nil, List.getElem?_cons_zero, List.getElem?_cons_succ, is0_non, is0_bl, is0_int, is0_str, is0_tup, is0_lst, is1_non, is1_bl, is1_int, is1_str, is1_tup, is1_lst, is2_non, is2_bl, is2_int, is2_str, is2_tup, is2_lst, is3_non, is3_bl, is3_int, is3_str, is3_tup, is3_lst, is4_non, is4_bl, is4_int, is4_str, is4_tup, is4_lst, ev_make, kMake_ok, kMk_ok, pr_fld0, pr_fld1, pr_fld2, pr_isc, pr_drop1, yes_eq, co_nil, co_cons, kCo1_ok, kCo2_ok, kCo3_ok, kCo4_ok, ev_comp2, kC2_ok, kC2e_ok, ns_non, clr_eq', kClr_t, iv_non, iv_val, cl_nil, cl_cons, kCl_b, kCl2_ok, kCl3_some, kComp_ok2, kCm_ok, pr_int_b, it_rng3, kI3_ok, kI3_ok', cp_in, cp_nin, isn_non, isn_tup, forL_nil, forL_cons, kFl_ok, kFb_nx, kFb_ct, kFb_bk, kFb_rt, sq_t, sq_l, kWhl_ok, kWb_nx, kWb_ct, kWb_bk, kWb_rt, lineN, cond_true, cond_false, Bool.cond_decide, Bool.not_true, Bool.not_false, Bool.and_true, Bool.true_and, Bool.and_false, Bool.false_and, Nat.zero_add, beq_self_eq_true, decide_true, decide_false, if_true, if_false, Bool.true_eq_false, Bool.false_eq_true, reduceIte, Nat.reduceAdd, Nat.reduceSub, Nat.reduceMul, Nat.reduceLeDiff, Nat.reduceBEq, Nat.reduceEqDiff, Int.reduceToNat, Int.reduceNeg, Nat.reduceLT, Nat.sub_self, u_b13l0, q, hc, q2, hc2]
  have self1 : mn a a = a := by unfold mn; split <;> rfl
  have self2 : mx a a = a := by unfold mx; split <;> rfl
  have s0 := stp a a a (.val (.lst [num 1600 a, num 1600 b, num 1600 c, num 1600 d])) ha ha ha
  rw [self1, self2] at s0
  have s1 := stp a a b (.val (.lst [num 1600 a, num 1600 b, num 1600 c, num 1600 d])) ha ha hb
  have s2 := stp (mn a b) (mx a b) c (.val (.lst [num 1600 a, num 1600 b, num 1600 c, num 1600 d])) (mnb ha hb) (mxb ha hb) hc
  have s3 := stp (mn (mn a b) c) (mx (mx a b) c) d (.val (.lst [num 1600 a, num 1600 b, num 1600 c, num 1600 d])) (mnb (mnb ha hb) hc) (mxb (mxb ha hb) hc) hd
  rw [rn13]
  simp only [getS_0, getS_s, ev_var, rdS_val, rdS_own, ev_cst, of_some, of_some', ev_bin, kBin_ok, kBin_ok', ev_cmp, kCmp_ok, kCmp_ok', kCmpR_some, ev_chn, kChn_ok, kChn_ok', kChn2_some, ev_and, kAnd_ok, ev_or, kOr_ok, ev_not, kNot_ok, ev_neg, kNeg_ok, ev_ite, kIteE_ok, es_nil, es_cons, kEs_ok, kEs_ok', ev_tup, ev_lst, kTup_ok, kLst_ok, ev_prim, kPrim_ok, ev_mix, kMix_ok, kMix_ok', kMix2_ok, as_nil, as_val, kAs_ok, kAs_ok', as_own, kOwn_ok, kOwn_ok', kOwn2_ok, as_tmp, kTmp_ok, ev_call, kCall_val, kCall_own, kV_ok, kV_exc, kCallR_ok, ev_callk, kCk_ok, kCk_ok', ev_comp, it_val, it_rng1, it_rng2, kI_ok, kI1_ok, kI2_ok, kI2_ok', ex_skip, ex_brk, ex_cnt, ex_seq, kSeq_nx, kSeq_rt, kSeq_bk, kSeq_ct, kSeq_exc, ex_asg, kAsg_ok, srof, put_eq, kPut_t, free_non, free_val, free_own, bind_name, bind_tup, bind_lst, all_nil, all_cons, kAll_some, ex_new, kNew_ok, ex_app, kApp_ok, kApp_ok', kApp2_ok, ex_put, kSto_ok, kSto1_ok, kSto2_ok, kSto3_0, ex_exp, kExp_ok, ex_ret, kRet_ok, ex_ite, kIte_ok, ex_for, kFor_ok, ex_whl, fin_nx, fin_rt, bn_add, bn_sub, bn_cat, bn_rep2, cp_lt, cp_le, cp_gt, cp_ge, cp_eq, cp_is, cp_nis, cp_ne, kNe_some, av_val, av_tmp, av_own, avO_own, pm_eq, pg_nil, pg_inl, pg_inr, pd_nil, pd_inl, pd_inr, gd_0, gd_s, nw_nil, nw_val, nw_tmp, nw_own, no_nil, no_val, no_tmp, no_own, lt_nil, lt_inl, lt_inr, lentK_t, lentK_f, io_own, io_val, io_tmp, io_none, bk_nil, bk_cons, b1_none, b1_some, backO_own, at_0, at_1, at_2, at_3, at_4, pr_idx_t, pr_idx_l, pr_idx_f, pr_len_t, pr_len_l, pr_len_f, pr_int, pr_int_t, pr_int_f, pr_abs, pr_min, pr_max, dr_ok, eq_int, eq_bl, List.cons_append, List.nil_append, List.append_nil, List.append_assoc, List.length_cons, List.length_nil, List.set_cons_zero, List.set_cons_succ, List.take_succ_cons, List.take_zero, List.take_nil, List.replicate_succ, List.replicate_zero, List.map_cons, List.map_nil, List.getElem?_cons_zero, List.getElem?_cons_succ, is0_non, is0_bl, is0_int, is0_str, is0_tup, is0_lst, is1_non, is1_bl, is1_int, is1_str, is1_tup, is1_lst, is2_non, is2_bl, is2_int, is2_str, is2_tup, is2_lst, is3_non, is3_bl, is3_int, is3_str, is3_tup, is3_lst, is4_non, is4_bl, is4_int, is4_str, is4_tup, is4_lst, ev_make, kMake_ok, kMk_ok, pr_fld0, pr_fld1, pr_fld2, pr_isc, pr_drop1, yes_eq, co_nil, co_cons, kCo1_ok, kCo2_ok, kCo3_ok, kCo4_ok, ev_comp2, kC2_ok, kC2e_ok, ns_non, clr_eq', kClr_t, iv_non, iv_val, cl_nil, cl_cons, kCl_b, kCl2_ok, kCl3_some, kComp_ok2, kCm_ok, pr_int_b, it_rng3, kI3_ok, kI3_ok', cp_in, cp_nin, isn_non, isn_tup, forL_nil, forL_cons, kFl_ok, kFb_nx, kFb_ct, kFb_bk, kFb_rt, sq_t, sq_l, kWhl_ok, kWb_nx, kWb_ct, kWb_bk, kWb_rt, lineN, cond_true, cond_false, Bool.cond_decide, Bool.not_true, Bool.not_false, Bool.and_true, Bool.true_and, Bool.and_false, Bool.false_and, Nat.zero_add, beq_self_eq_true, decide_true, decide_false, if_true, if_false, Bool.true_eq_false, Bool.false_eq_true, reduceIte, Nat.reduceAdd, Nat.reduceSub, Nat.reduceMul, Nat.reduceLeDiff, Nat.reduceBEq, Nat.reduceEqDiff, Int.reduceToNat, Int.reduceNeg, Nat.reduceLT, Nat.sub_self, u_b13, s0, s1, s2, s3]
theorem mn_b {x y : Int} {n : Nat} (h1 : x.natAbs < 2 ^ n) (h2 : y.natAbs < 2 ^ n) : (mn x y).natAbs < 2 ^ n := by unfold mn; split <;> assumption
theorem mx_b {x y : Int} {n : Nat} (h1 : x.natAbs < 2 ^ n) (h2 : y.natAbs < 2 ^ n) : (mx x y).natAbs < 2 ^ n := by unfold mx; split <;> assumption
theorem ends_eq (a b c d : Int) : mn (mn (mn a b) c) d = mn (mn (mn a c) b) d ∧ mx (mx (mx a b) c) d = mx (mx (mx a c) b) d ∧ - mn (mn (mn (-a) (-b)) (-c)) (-d) = mx (mx (mx a b) c) d ∧ mn (mn (mn a b) c) d ≤ mx (mx (mx a b) c) d := by
  unfold mn mx
  refine ⟨?_, ?_, ?_, ?_⟩
  · repeat' split
    all_goals omega
  · repeat' split
    all_goals omega
  · repeat' split
    all_goals omega
  · repeat' split
    all_goals omega
theorem mul4 {x y : Int} (hx : Wo x) (hy : Wo y) : (x * y).natAbs < 2 ^ 4020 := mul_lt hx.b hy.b
theorem rProductOf {k : Nat} {A B C E : Int} (hA : Wo A) (hB : Wo B) (hC : Wo C) (hE : Wo E) : dropR (run T FUEL (k + 4) 23 [.val (st 800 A B), .val (st 800 C E)]) = .ok (st 1600 (mn (mn (mn (A * C) (A * E)) (B * C)) (B * E)) (mx (mx (mx (A * C) (A * E)) (B * C)) (B * E))) [] := by
  have a : ∀ l, dropR (run T FUEL (k + 3) 15 [.val (.ins 0 l)]) = .ok .non [] := fun l => rLook
  have p1 : dropR (run T FUEL (k + 3) 20 [.val (num 800 A), .val (num 800 C)]) = _ := rProd (k := k + 1) hA hC
  have p2 : dropR (run T FUEL (k + 3) 20 [.val (num 800 A), .val (num 800 E)]) = _ := rProd (k := k + 1) hA hE
  have p3 : dropR (run T FUEL (k + 3) 20 [.val (num 800 B), .val (num 800 C)]) = _ := rProd (k := k + 1) hB hC
  have p4 : dropR (run T FUEL (k + 3) 20 [.val (num 800 B), .val (num 800 E)]) = _ := rProd (k := k + 1) hB hE
  have b1 := mul4 hA hC
  have b2 := mul4 hA hE
  have b3 := mul4 hB hC
  have b4 := mul4 hB hE
  generalize A * C = x1 at *
  generalize A * E = x2 at *
  generalize B * C = x3 at *
  generalize B * E = x4 at *
  have l1 : dropR (run T FUEL (k + 3) 21 [.val (.lst [num 1600 x1, num 1600 x2, num 1600 x3, num 1600 x4])]) = _ := rLeast (by decide) b1 b2 b3 b4
  have l2 : dropR (run T FUEL (k + 3) 21 [.val (.lst [num 1600 (-x1), num 1600 (-x2), num 1600 (-x3), num 1600 (-x4)])]) = _ := rLeast (n := 4020) (by decide) (by rw [Int.natAbs_neg]; exact b1) (by rw [Int.natAbs_neg]; exact b2) (by rw [Int.natAbs_neg]; exact b3) (by rw [Int.natAbs_neg]; exact b4)
  have m : ∀ V, dropR (run T FUEL (k + 3) 22 [.val (num 1600 V)]) = .ok (num 1600 (-V)) [] := fun V => rMinus (k := k + 2)
  obtain ⟨_, _, e3, e4⟩ := ends_eq x1 x2 x3 x4
  have mnb : (mn (mn (mn x1 x2) x3) x4).natAbs < 2 ^ 4020 := mn_b (mn_b (mn_b b1 b2) b3) b4
  have mxb : (mx (mx (mx x1 x2) x3) x4).natAbs < 2 ^ 4020 := mx_b (mx_b (mx_b b1 b2) b3) b4
  have i : dropR (run T FUEL (k + 3) 12 [.non, .val (num 1600 (mn (mn (mn x1 x2) x3) x4)), .val (num 1600 (mx (mx (mx x1 x2) x3) x4))]) = _ := rInit (by decide) (by decide) (by decide) mnb mxb e4
  rw [rn23]
  unfold st
  simp only [getS_0, getS_s, ev_var, rdS_val, rdS_own, ev_cst, of_some, of_some', ev_bin, kBin_ok, kBin_ok', ev_cmp, kCmp_ok, kCmp_ok', kCmpR_some, ev_chn, kChn_ok, kChn_ok', kChn2_some, ev_and, kAnd_ok, ev_or, kOr_ok, ev_not, kNot_ok, ev_neg, kNeg_ok, ev_ite, kIteE_ok, es_nil, es_cons, kEs_ok, kEs_ok', ev_tup, ev_lst, kTup_ok, kLst_ok, ev_prim, kPrim_ok, ev_mix, kMix_ok, kMix_ok', kMix2_ok, as_nil, as_val, kAs_ok, kAs_ok', as_own, kOwn_ok, kOwn_ok', kOwn2_ok, as_tmp, kTmp_ok, ev_call, kCall_val, kCall_own, kV_ok, kV_exc, kCallR_ok, ev_callk, kCk_ok, kCk_ok', ev_comp, it_val, it_rng1, it_rng2, kI_ok, kI1_ok, kI2_ok, kI2_ok', ex_skip, ex_brk, ex_cnt, ex_seq, kSeq_nx, kSeq_rt, kSeq_bk, kSeq_ct, kSeq_exc, ex_asg, kAsg_ok, srof, put_eq, kPut_t, free_non, free_val, free_own, bind_name, bind_tup, bind_lst, all_nil, all_cons, kAll_some, ex_new, kNew_ok, ex_app, kApp_ok, kApp_ok', kApp2_ok, ex_put, kSto_ok, kSto1_ok, kSto2_ok, kSto3_0, ex_exp, kExp_ok, ex_ret, kRet_ok, ex_ite, kIte_ok, ex_for, kFor_ok, ex_whl, fin_nx, fin_rt, bn_add, bn_sub, bn_cat, bn_rep2, cp_lt, cp_le, cp_gt, cp_ge, cp_eq, cp_is, cp_nis, cp_ne, kNe_some, av_val, av_tmp, av_own, avO_own, pm_eq, pg_nil, pg_inl, pg_inr, pd_nil, pd_inl, pd_inr, gd_0, gd_s, nw_nil, nw_val, nw_tmp, nw_own, no_nil, no_val, no_tmp, no_own, lt_nil, lt_inl, lt_inr, lentK_t, lentK_f, io_own, io_val, io_tmp, io_none, bk_nil, bk_cons, b1_none, b1_some, backO_own, at_0, at_1, at_2, at_3, at_4, pr_idx_t, pr_idx_l, pr_idx_f, pr_len_t, pr_len_l, pr_len_f, pr_int, pr_int_t, pr_int_f, pr_abs, pr_min, pr_max, dr_ok, eq_int, eq_bl, List.cons_append, List.nil_append, List.append_nil, List.append_assoc, List.length_cons, List.length_nil, List.set_cons_zero, List.set_cons_succ, List.take_succ_cons, List.take_zero, List.take_nil, List.replicate_succ, List.replicate_zero, List.map_cons, List.map_nil, List.getElem?_cons_zero, List.getElem?_cons_succ, is0_non, is0_bl, is0_int, is0_str, is0_tup, is0_lst, is1_non, is1_bl, is1_int, is1_str, is1_tup, is1_lst, is2_non, is2_bl, is2_int, is2_str, is2_tup, is2_lst, is3_non, is3_bl, is3_int, is3_str, is3_tup, is3_lst, is4_non, is4_bl, is4_int, is4_str, is4_tup, is4_lst, ev_make, kMake_ok, kMk_ok, pr_fld0, pr_fld1, pr_fld2, pr_isc, pr_drop1, yes_eq, co_nil, co_cons, kCo1_ok, kCo2_ok, kCo3_ok, kCo4_ok, ev_comp2, kC2_ok, kC2e_ok, ns_non, clr_eq', kClr_t, iv_non, iv_val, cl_nil, cl_cons, kCl_b, kCl2_ok, kCl3_some, kComp_ok2, kCm_ok, pr_int_b, it_rng3, kI3_ok, kI3_ok', cp_in, cp_nin, isn_non, isn_tup, forL_nil, forL_cons, kFl_ok, kFb_nx, kFb_ct, kFb_bk, kFb_rt, sq_t, sq_l, kWhl_ok, kWb_nx, kWb_ct, kWb_bk, kWb_rt, lineN, cond_true, cond_false, Bool.cond_decide, Bool.not_true, Bool.not_false, Bool.and_true, Bool.true_and, Bool.and_false, Bool.false_and, Nat.zero_add, beq_self_eq_true, decide_true, decide_false, if_true, if_false, Bool.true_eq_false, Bool.false_eq_true, reduceIte, Nat.reduceAdd, Nat.reduceSub, Nat.reduceMul, Nat.reduceLeDiff, Nat.reduceBEq, Nat.reduceEqDiff, Int.reduceToNat, Int.reduceNeg, Nat.reduceLT, Nat.sub_self, u_b23, a, p1, p2, p3, p4, l1, m, l2, e3, i]
end Q16

set_option Elab.async false
set_option linter.all false
set_option maxRecDepth 100000
set_option maxHeartbeats 1000000
namespace Q16
open PySem Rf
theorem toPy_num (B V : Int) : toPy (num B V) = some (.tuple [.int (NM V), .int (NE V (-B))]) := by
  simp [num, toPy, toPys]
theorem eq_pp (B C V W : Int) : eqD (.tup [num B V, num C W]) (.tup [num B V, num C W]) = some true := by
  simp [eqD, toPy, toPys, toPy_num, SeqAt.shaped, PyData.canLay0, PyData.canLayAll0, PyData.depth, PyData.depthAll, PyData.eqv, PyData.eqvAll]
theorem rGood {k : Nat} {A B C E : Int} (hA : Wo A) (hB : Wo B) (hC : Wo C) (hE : Wo E) (h1 : A ≤ B) (h2 : C ≤ E) : dropR (run T FUEL (k + 5) 24 [.val (.tup [num 800 A, num 800 B]), .val (.tup [num 800 C, num 800 E])]) = .ok (.bl true) [] := by
  have i1 : dropR (run T FUEL (k + 4) 12 [.non, .val (num 800 A), .val (num 800 B)]) = _ := rInit (k := k + 1) (by decide) (by decide) (by decide) hA.b hB.b h1
  have i2 : dropR (run T FUEL (k + 4) 12 [.non, .val (num 800 C), .val (num 800 E)]) = _ := rInit (k := k + 1) (by decide) (by decide) (by decide) hC.b hE.b h2
  have s1 : dropR (run T FUEL (k + 4) 14 [.val (num 800 A), .val (num 800 C), .val (.int 1)]) = _ := rSum (k := k + 2) hA hC
  have s2 : dropR (run T FUEL (k + 4) 14 [.val (num 800 B), .val (num 800 E), .val (.int 1)]) = _ := rSum (k := k + 2) hB hE
  have o1 : dropR (run T FUEL (k + 4) 18 [.val (st 800 A B), .val (st 800 C E)]) = _ := rSumOf hA hB hC hE h1 h2
  have o2 : dropR (run T FUEL (k + 4) 18 [.val (st 800 C E), .val (st 800 A B)]) = _ := rSumOf hC hE hA hB h2 h1
  rw [Int.add_comm C A, Int.add_comm E B] at o2
  have t1 : dropR (run T FUEL (k + 4) 19 [.val (num 800 A), .val (num 800 C)]) = _ := rTimes (k := k + 2) hA hC
  have t2 : dropR (run T FUEL (k + 4) 19 [.val (num 800 B), .val (num 800 C)]) = _ := rTimes (k := k + 2) hB hC
  have t3 : dropR (run T FUEL (k + 4) 19 [.val (num 800 A), .val (num 800 E)]) = _ := rTimes (k := k + 2) hA hE
  have t4 : dropR (run T FUEL (k + 4) 19 [.val (num 800 B), .val (num 800 E)]) = _ := rTimes (k := k + 2) hB hE
  have p1 : dropR (run T FUEL (k + 4) 23 [.val (st 800 A B), .val (st 800 C E)]) = _ := rProductOf hA hB hC hE
  have p2 : dropR (run T FUEL (k + 4) 23 [.val (st 800 C E), .val (st 800 A B)]) = _ := rProductOf hC hE hA hB
  have en : dropR (run T FUEL (k + 4) 13 [.val (.lst [num 1600 (A * C), num 1600 (B * C), num 1600 (A * E), num 1600 (B * E)])]) = _ := rEnds (k := k + 1) (n := 4020) (by decide) (mul4 hA hC) (mul4 hB hC) (mul4 hA hE) (mul4 hB hE)
  obtain ⟨e1, e2, _, _⟩ := ends_eq (A * C) (A * E) (B * C) (B * E)
  rw [e1, e2] at p1
  rw [Int.mul_comm C A, Int.mul_comm C B, Int.mul_comm E A, Int.mul_comm E B] at p2
  generalize mn (mn (mn (A * C) (B * C)) (A * E)) (B * E) = lo at *
  generalize mx (mx (mx (A * C) (B * C)) (A * E)) (B * E) = hi at *
  generalize A * C = x1 at *
  generalize A * E = x2 at *
  generalize B * C = x3 at *
  generalize B * E = x4 at *
  generalize A + C = y1 at *
  generalize B + E = y2 at *
  unfold st at *
  rw [rn24]
  simp only [getS_0, getS_s, ev_var, rdS_val, rdS_own, ev_cst, of_some, of_some', ev_bin, kBin_ok, kBin_ok', ev_cmp, kCmp_ok, kCmp_ok', kCmpR_some, ev_chn, kChn_ok, kChn_ok', kChn2_some, ev_and, kAnd_ok, ev_or, kOr_ok, ev_not, kNot_ok, ev_neg, kNeg_ok, ev_ite, kIteE_ok, es_nil, es_cons, kEs_ok, kEs_ok', ev_tup, ev_lst, kTup_ok, kLst_ok, ev_prim, kPrim_ok, ev_mix, kMix_ok, kMix_ok', kMix2_ok, as_nil, as_val, kAs_ok, kAs_ok', as_own, kOwn_ok, kOwn_ok', kOwn2_ok, as_tmp, kTmp_ok, ev_call, kCall_val, kCall_own, kV_ok, kV_exc, kCallR_ok, ev_callk, kCk_ok, kCk_ok', ev_comp, it_val, it_rng1, it_rng2, kI_ok, kI1_ok, kI2_ok, kI2_ok', ex_skip, ex_brk, ex_cnt, ex_seq, kSeq_nx, kSeq_rt, kSeq_bk, kSeq_ct, kSeq_exc, ex_asg, kAsg_ok, srof, put_eq, kPut_t, free_non, free_val, free_own, bind_name, bind_tup, bind_lst, all_nil, all_cons, kAll_some, ex_new, kNew_ok, ex_app, kApp_ok, kApp_ok', kApp2_ok, ex_put, kSto_ok, kSto1_ok, kSto2_ok, kSto3_0, ex_exp, kExp_ok, ex_ret, kRet_ok, ex_ite, kIte_ok, ex_for, kFor_ok, ex_whl, fin_nx, fin_rt, bn_add, bn_sub, bn_cat, bn_rep2, cp_lt, cp_le, cp_gt, cp_ge, cp_eq, cp_is, cp_nis, cp_ne, kNe_some, av_val, av_tmp, av_own, avO_own, pm_eq, pg_nil, pg_inl, pg_inr, pd_nil, pd_inl, pd_inr, gd_0, gd_s, nw_nil, nw_val, nw_tmp, nw_own, no_nil, no_val, no_tmp, no_own, lt_nil, lt_inl, lt_inr, lentK_t, lentK_f, io_own, io_val, io_tmp, io_none, bk_nil, bk_cons, b1_none, b1_some, backO_own, at_0, at_1, at_2, at_3, at_4, pr_idx_t, pr_idx_l, pr_idx_f, pr_len_t, pr_len_l, pr_len_f, pr_int, pr_int_t, pr_int_f, pr_abs, pr_min, pr_max, dr_ok, eq_int, eq_bl, List.cons_append, List.nil_append, List.append_nil, List.append_assoc, List.length_cons, List.length_nil, List.set_cons_zero, List.set_cons_succ, List.take_succ_cons, List.take_zero, List.take_nil, List.replicate_succ, List.replicate_zero, List.map_cons, List.map_nil, List.getElem?_cons_zero, List.getElem?_cons_succ, is0_non, is0_bl, is0_int, is0_str, is0_tup, is0_lst, is1_non, is1_bl, is1_int, is1_str, is1_tup, is1_lst, is2_non, is2_bl, is2_int, is2_str, is2_tup, is2_lst, is3_non, is3_bl, is3_int, is3_str, is3_tup, is3_lst, is4_non, is4_bl, is4_int, is4_str, is4_tup, is4_lst, ev_make, kMake_ok, kMk_ok, pr_fld0, pr_fld1, pr_fld2, pr_isc, pr_drop1, yes_eq, co_nil, co_cons, kCo1_ok, kCo2_ok, kCo3_ok, kCo4_ok, ev_comp2, kC2_ok, kC2e_ok, ns_non, clr_eq', kClr_t, iv_non, iv_val, cl_nil, cl_cons, kCl_b, kCl2_ok, kCl3_some, kComp_ok2, kCm_ok, pr_int_b, it_rng3, kI3_ok, kI3_ok', cp_in, cp_nin, isn_non, isn_tup, forL_nil, forL_cons, kFl_ok, kFb_nx, kFb_ct, kFb_bk, kFb_rt, sq_t, sq_l, kWhl_ok, kWb_nx, kWb_ct, kWb_bk, kWb_rt, lineN, cond_true, cond_false, Bool.cond_decide, Bool.not_true, Bool.not_false, Bool.and_true, Bool.true_and, Bool.and_false, Bool.false_and, Nat.zero_add, beq_self_eq_true, decide_true, decide_false, if_true, if_false, Bool.true_eq_false, Bool.false_eq_true, reduceIte, Nat.reduceAdd, Nat.reduceSub, Nat.reduceMul, Nat.reduceLeDiff, Nat.reduceBEq, Nat.reduceEqDiff, Int.reduceToNat, Int.reduceNeg, Nat.reduceLT, Nat.sub_self, u_b24, i1, i2, s1, s2, o1, o2, u_b24l1, eq_pp, t1, t2, t3, t4, en, p1, p2, u_b24l0]
/-! ### pairs -/
theorem tup_num {X p B : Int} (h : -B ≤ p) : (.tup [.int (NM X), .int (NE X p)] : D) = num B (AT X p (-B)) := by
  unfold num AT
  obtain ⟨a, b⟩ := nf_scale X (-B) (p - -B).toNat
  rw [a, b, show -B + ((p - -B).toNat : Int) = p by omega]
theorem wo_of {X p : Int} {b : Nat} (hb : X.natAbs < 2 ^ b) (hb2 : b ≤ 205) (h1 : -800 ≤ p) (h2 : p ≤ 1000) : Wo (AT X p (-800)) := by
  refine ⟨lt_big (b := b + 1800) (at_bound hb (by omega)) (by omega), ?_⟩
  unfold AT
  rw [(nf_scale X 0 _).1]
  exact lt_big (nm_bound hb) (by omega)
theorem to_num {m e : Int} (n1 : NM m = m) (n2 : ∀ x, NE m x = if m = 0 then 0 else x) (n3 : m = 0 → e = 0) (e0 : -800 ≤ e) : (.tup [.int m, .int e] : D) = num 800 (AT m e (-800)) := by
  have h := tup_num (X := m) (p := e) (B := 800) e0
  have q : NE m e = e := by
    rw [n2]
    by_cases hm : m = 0
    · rw [if_pos hm, n3 hm]
    · rw [if_neg hm]
  rw [n1, q] at h
  exact h
theorem rPair {k : Nat} {c : Int} (hc : 0 ≤ c) : ∃ A B c' : Int, run T FUEL (k + 3) 5 [.own true [.int c]] = .ok (.tup [num 800 A, num 800 B]) [.own true [.int c']] ∧ 0 ≤ c' ∧ Wo A ∧ Wo B ∧ A ≤ B := by
  obtain ⟨m, e, c1, hn, c10, _, ⟨n1, n2⟩, n3, mb, e0, e1⟩ := sp_number (T := T) (F := FUEL) (k := k) (f := 2) (ft := 0) (fo := 1) rfl rfl rfl hF hc
  obtain ⟨n, q, c2, hn', c20, _, ⟨n1', n2'⟩, n3', mb', e0', e1'⟩ := sp_number (T := T) (F := FUEL) (k := k) (f := 2) (ft := 0) (fo := 1) rfl rfl rfl hF c10
  obtain ⟨d, c3, t3, d0, d1, c30⟩ := tkx (k := k + 1) c2 3 (by decide) (by decide +kernel) c20
  have n797 : (0 : Int) - 797 = -797 := rfl
  have eA := to_num n1 n2 n3 e0
  have wA : Wo (AT m e (-800)) := wo_of (lt_big mb (show 201 ≤ 205 by decide)) (by decide) e0 e1
  have fin : ∀ (n q c2 : Int) (dn : D), dn = num 800 (AT n q (-800)) → Wo (AT n q (-800)) → 0 ≤ c2 → ∀ X, (∀ (r : D), (exS ⟨run T FUEL (k + 2), FUEL⟩ (.seq (.ite (.cmp .gt (.call 4 [.inl 0, .inl 1] (.val (.var 1) (.val (.var 2) .nil))) (.cst (.int (0)))) (.seq (.ret (.tup (.cons (.var 2) (.cons (.var 1) .nil)))) .skip) .skip) (.seq (.ret (.tup (.cons (.var 1) (.cons (.var 2) .nil)))) .skip)) [.own true [.int c2], .val (.tup [.int m, .int e]), .val dn] = .rt r [.own true [.int c2], .val (.tup [.int m, .int e]), .val dn]) → X = Res.ok r [S.own true [.int c2]]) →
      ∃ A B c' : Int, X = .ok (.tup [num 800 A, num 800 B]) [.own true [.int c']] ∧ 0 ≤ c' ∧ Wo A ∧ Wo B ∧ A ≤ B := fun n q c2 dn en wn h0 X hX => by
    have cp : dropR (run T FUEL (k + 2) 4 [.val (.tup [.int m, .int e]), .val dn]) = .ok (.int (CM (AT m e (-800)) (AT n q (-800)))) [] := by
      rw [eA, en]
      exact rLCmp (by decide) (by decide) (b := 2010) (by decide) wA.b wn.b
    have gt := cm_le (AT m e (-800)) (AT n q (-800))
    by_cases h : 0 < CM (AT m e (-800)) (AT n q (-800))
    · refine ⟨AT n q (-800), AT m e (-800), c2, ?_, h0, wn, wA, by omega⟩
      rw [← eA, ← en]
      exact hX _ (by simp only [getS_0, getS_s, ev_var, rdS_val, rdS_own, ev_cst, of_some, of_some', ev_bin, kBin_ok, kBin_ok', ev_cmp, kCmp_ok, kCmp_ok', kCmpR_some, ev_chn, kChn_ok, kChn_ok', kChn2_some, ev_and, kAnd_ok, ev_or, kOr_ok, ev_not, kNot_ok, ev_neg, kNeg_ok, ev_ite, kIteE_ok, es_nil, es_cons, kEs_ok, kEs_ok', ev_tup, ev_lst, kTup_ok, kLst_ok, ev_prim, kPrim_ok, ev_mix, kMix_ok, kMix_ok', kMix2_ok, as_nil, as_val, kAs_ok, kAs_ok', as_own, kOwn_ok, kOwn_ok', kOwn2_ok, as_tmp, kTmp_ok, ev_call, kCall_val, kCall_own, kV_ok, kV_exc, kCallR_ok, ev_callk, kCk_ok, kCk_ok', ev_comp, it_val, it_rng1, it_rng2, kI_ok, kI1_ok, kI2_ok, kI2_ok', ex_skip, ex_brk, ex_cnt, ex_seq, kSeq_nx, kSeq_rt, kSeq_bk, kSeq_ct, kSeq_exc, ex_asg, kAsg_ok, srof, put_eq, kPut_t, free_non, free_val, free_own, bind_name, bind_tup, bind_lst, all_nil, all_cons, kAll_some, ex_new, kNew_ok, ex_app, kApp_ok, kApp_ok', kApp2_ok, ex_put, kSto_ok, kSto1_ok, kSto2_ok, kSto3_0, ex_exp, kExp_ok, ex_ret, kRet_ok, ex_ite, kIte_ok, ex_for, kFor_ok, ex_whl, fin_nx, fin_rt, bn_add, bn_sub, bn_cat, bn_rep2, cp_lt, cp_le, cp_gt, cp_ge, cp_eq, cp_is, cp_nis, cp_ne, kNe_some, av_val, av_tmp, av_own, avO_own, pm_eq, pg_nil, pg_inl, pg_inr, pd_nil, pd_inl, pd_inr, gd_0, gd_s, nw_nil, nw_val, nw_tmp, nw_own, no_nil, no_val, no_tmp, no_own, lt_nil, lt_inl, lt_inr, lentK_t, lentK_f, io_own, io_val, io_tmp, io_none, bk_nil, bk_cons, b1_none, b1_some, backO_own, at_0, at_1, at_2, at_3, at_4, pr_idx_t, pr_idx_l, pr_idx_f, pr_len_t, pr_len_l, pr_len_f, pr_int, pr_int_t, pr_int_f, pr_abs, pr_min, pr_max, dr_ok, eq_int, eq_bl, List.cons_append, List.nil_append, List.append_nil, List.append_assoc, List.length_cons, List.length_nil, List.set_cons_zero, List.set_cons_succ, List.take_succ_cons, List.take_zero, List.take_nil, List.replicate_succ, List.replicate_zero, List.map_cons, List.map_nil, List.getElem?_cons_zero, List.getElem?_cons_succ, is0_non, is0_bl, is0_int, is0_str, is0_tup, is0_lst, is1_non, is1_bl, is1_int, is1_str, is1_tup, is1_lst, is2_non, is2_bl, is2_int, is2_str, is2_tup, is2_lst, is3_non, is3_bl, is3_int, is3_str, is3_tup, is3_lst, is4_non, is4_bl, is4_int, is4_str, is4_tup, is4_lst, ev_make, kMake_ok, kMk_ok, pr_fld0, pr_fld1, pr_fld2, pr_isc, pr_drop1, yes_eq, co_nil, co_cons, kCo1_ok, kCo2_ok, kCo3_ok, kCo4_ok, ev_comp2, kC2_ok, kC2e_ok, ns_non, clr_eq', kClr_t, iv_non, iv_val, cl_nil, cl_cons, kCl_b, kCl2_ok, kCl3_some, kComp_ok2, kCm_ok, pr_int_b, it_rng3, kI3_ok, kI3_ok', cp_in, cp_nin, isn_non, isn_tup, forL_nil, forL_cons, kFl_ok, kFb_nx, kFb_ct, kFb_bk, kFb_rt, sq_t, sq_l, kWhl_ok, kWb_nx, kWb_ct, kWb_bk, kWb_rt, lineN, cond_true, cond_false, Bool.cond_decide, Bool.not_true, Bool.not_false, Bool.and_true, Bool.true_and, Bool.and_false, Bool.false_and, Nat.zero_add, beq_self_eq_true, decide_true, decide_false, if_true, if_false, Bool.true_eq_false, Bool.false_eq_true, reduceIte, Nat.reduceAdd, Nat.reduceSub, Nat.reduceMul, Nat.reduceLeDiff, Nat.reduceBEq, Nat.reduceEqDiff, Int.reduceToNat, Int.reduceNeg, Nat.reduceLT, Nat.sub_self, cp, h])
    · refine ⟨AT m e (-800), AT n q (-800), c2, ?_, h0, wA, wn, by omega⟩
      rw [← eA, ← en]
      exact hX _ (by simp only [getS_0, getS_s, ev_var, rdS_val, rdS_own, ev_cst, of_some, of_some', ev_bin, kBin_ok, kBin_ok', ev_cmp, kCmp_ok, kCmp_ok', kCmpR_some, ev_chn, kChn_ok, kChn_ok', kChn2_some, ev_and, kAnd_ok, ev_or, kOr_ok, ev_not, kNot_ok, ev_neg, kNeg_ok, ev_ite, kIteE_ok, es_nil, es_cons, kEs_ok, kEs_ok', ev_tup, ev_lst, kTup_ok, kLst_ok, ev_prim, kPrim_ok, ev_mix, kMix_ok, kMix_ok', kMix2_ok, as_nil, as_val, kAs_ok, kAs_ok', as_own, kOwn_ok, kOwn_ok', kOwn2_ok, as_tmp, kTmp_ok, ev_call, kCall_val, kCall_own, kV_ok, kV_exc, kCallR_ok, ev_callk, kCk_ok, kCk_ok', ev_comp, it_val, it_rng1, it_rng2, kI_ok, kI1_ok, kI2_ok, kI2_ok', ex_skip, ex_brk, ex_cnt, ex_seq, kSeq_nx, kSeq_rt, kSeq_bk, kSeq_ct, kSeq_exc, ex_asg, kAsg_ok, srof, put_eq, kPut_t, free_non, free_val, free_own, bind_name, bind_tup, bind_lst, all_nil, all_cons, kAll_some, ex_new, kNew_ok, ex_app, kApp_ok, kApp_ok', kApp2_ok, ex_put, kSto_ok, kSto1_ok, kSto2_ok, kSto3_0, ex_exp, kExp_ok, ex_ret, kRet_ok, ex_ite, kIte_ok, ex_for, kFor_ok, ex_whl, fin_nx, fin_rt, bn_add, bn_sub, bn_cat, bn_rep2, cp_lt, cp_le, cp_gt, cp_ge, cp_eq, cp_is, cp_nis, cp_ne, kNe_some, av_val, av_tmp, av_own, avO_own, pm_eq, pg_nil, pg_inl, pg_inr, pd_nil, pd_inl, pd_inr, gd_0, gd_s, nw_nil, nw_val, nw_tmp, nw_own, no_nil, no_val, no_tmp, no_own, lt_nil, lt_inl, lt_inr, lentK_t, lentK_f, io_own, io_val, io_tmp, io_none, bk_nil, bk_cons, b1_none, b1_some, backO_own, at_0, at_1, at_2, at_3, at_4, pr_idx_t, pr_idx_l, pr_idx_f, pr_len_t, pr_len_l, pr_len_f, pr_int, pr_int_t, pr_int_f, pr_abs, pr_min, pr_max, dr_ok, eq_int, eq_bl, List.cons_append, List.nil_append, List.append_nil, List.append_assoc, List.length_cons, List.length_nil, List.set_cons_zero, List.set_cons_succ, List.take_succ_cons, List.take_zero, List.take_nil, List.replicate_succ, List.replicate_zero, List.map_cons, List.map_nil, List.getElem?_cons_zero, List.getElem?_cons_succ, is0_non, is0_bl, is0_int, is0_str, is0_tup, is0_lst, is1_non, is1_bl, is1_int, is1_str, is1_tup, is1_lst, is2_non, is2_bl, is2_int, is2_str, is2_tup, is2_lst, is3_non, is3_bl, is3_int, is3_str, is3_tup, is3_lst, is4_non, is4_bl, is4_int, is4_str, is4_tup, is4_lst, ev_make, kMake_ok, kMk_ok, pr_fld0, pr_fld1, pr_fld2, pr_isc, pr_drop1, yes_eq, co_nil, co_cons, kCo1_ok, kCo2_ok, kCo3_ok, kCo4_ok, ev_comp2, kC2_ok, kC2e_ok, ns_non, clr_eq', kClr_t, iv_non, iv_val, cl_nil, cl_cons, kCl_b, kCl2_ok, kCl3_some, kComp_ok2, kCm_ok, pr_int_b, it_rng3, kI3_ok, kI3_ok', cp_in, cp_nin, isn_non, isn_tup, forL_nil, forL_cons, kFl_ok, kFb_nx, kFb_ct, kFb_bk, kFb_rt, sq_t, sq_l, kWhl_ok, kWb_nx, kWb_ct, kWb_bk, kWb_rt, lineN, cond_true, cond_false, Bool.cond_decide, Bool.not_true, Bool.not_false, Bool.and_true, Bool.true_and, Bool.and_false, Bool.false_and, Nat.zero_add, beq_self_eq_true, decide_true, decide_false, if_true, if_false, Bool.true_eq_false, Bool.false_eq_true, reduceIte, Nat.reduceAdd, Nat.reduceSub, Nat.reduceMul, Nat.reduceLeDiff, Nat.reduceBEq, Nat.reduceEqDiff, Int.reduceToNat, Int.reduceNeg, Nat.reduceLT, Nat.sub_self, cp, h])
  by_cases hd : d = 0
  · by_cases he : -797 < e
    · obtain ⟨t, c4, t4, z0, z1, c40⟩ := tkx (k := k + 1) c3 9 (by decide) (by decide +kernel) c30
      have mk : mulOk m 8 = true := mul_ok mb (show (8 : Int).natAbs < 2 ^ 4 by decide) (by decide)
      have xb : (m * 8 + t).natAbs < 2 ^ 205 := by omega
      have od : dropR (run T FUEL (k + 2) 1 [.val (.int (m * 8 + t)), .val (.int (e - 3))]) = _ := rOdd (k := k + 1) (lt_big xb (by decide))
      refine fin (m * 8 + t) (e - 3) c4 _ (tup_num (X := m * 8 + t) (p := e - 3) (B := 800) (by omega)) (wo_of xb (by decide) (by omega) (by omega)) c40 _ fun r hr => ?_
      subst hd
      rw [rn5]
      simp only [getS_0, getS_s, ev_var, rdS_val, rdS_own, ev_cst, of_some, of_some', ev_bin, kBin_ok, kBin_ok', ev_cmp, kCmp_ok, kCmp_ok', kCmpR_some, ev_chn, kChn_ok, kChn_ok', kChn2_some, ev_and, kAnd_ok, ev_or, kOr_ok, ev_not, kNot_ok, ev_neg, kNeg_ok, ev_ite, kIteE_ok, es_nil, es_cons, kEs_ok, kEs_ok', ev_tup, ev_lst, kTup_ok, kLst_ok, ev_prim, kPrim_ok, ev_mix, kMix_ok, kMix_ok', kMix2_ok, as_nil, as_val, kAs_ok, kAs_ok', as_own, kOwn_ok, kOwn_ok', kOwn2_ok, as_tmp, kTmp_ok, ev_call, kCall_val, kCall_own, kV_ok, kV_exc, kCallR_ok, ev_callk, kCk_ok, kCk_ok', ev_comp, it_val, it_rng1, it_rng2, kI_ok, kI1_ok, kI2_ok, kI2_ok', ex_skip, ex_brk, ex_cnt, ex_seq, kSeq_nx, kSeq_rt, kSeq_bk, kSeq_ct, kSeq_exc, ex_asg, kAsg_ok, srof, put_eq, kPut_t, free_non, free_val, free_own, bind_name, bind_tup, bind_lst, all_nil, all_cons, kAll_some, ex_new, kNew_ok, ex_app, kApp_ok, kApp_ok', kApp2_ok, ex_put, kSto_ok, kSto1_ok, kSto2_ok, kSto3_0, ex_exp, kExp_ok, ex_ret, kRet_ok, ex_ite, kIte_ok, ex_for, kFor_ok, ex_whl, fin_nx, fin_rt, bn_add, bn_sub, bn_cat, bn_rep2, cp_lt, cp_le, cp_gt, cp_ge, cp_eq, cp_is, cp_nis, cp_ne, kNe_some, av_val, av_tmp, av_own, avO_own, pm_eq, pg_nil, pg_inl, pg_inr, pd_nil, pd_inl, pd_inr, gd_0, gd_s, nw_nil, nw_val, nw_tmp, nw_own, no_nil, no_val, no_tmp, no_own, lt_nil, lt_inl, lt_inr, lentK_t, lentK_f, io_own, io_val, io_tmp, io_none, bk_nil, bk_cons, b1_none, b1_some, backO_own, at_0, at_1, at_2, at_3, at_4, pr_idx_t, pr_idx_l, pr_idx_f, pr_len_t, pr_len_l, pr_len_f, pr_int, pr_int_t, pr_int_f, pr_abs, pr_min, pr_max, dr_ok, eq_int, eq_bl, List.cons_append, List.nil_append, List.append_nil, List.append_assoc, List.length_cons, List.length_nil, List.set_cons_zero, List.set_cons_succ, List.take_succ_cons, List.take_zero, List.take_nil, List.replicate_succ, List.replicate_zero, List.map_cons, List.map_nil, List.getElem?_cons_zero, List.getElem?_cons_succ, is0_non, is0_bl, is0_int, is0_str, is0_tup, is0_lst, is1_non, is1_bl, is1_int, is1_str, is1_tup, is1_lst, is2_non, is2_bl, is2_int, is2_str, is2_tup, is2_lst, is3_non, is3_bl, is3_int, is3_str, is3_tup, is3_lst, is4_non, is4_bl, is4_int, is4_str, is4_tup, is4_lst, ev_make, kMake_ok, kMk_ok, pr_fld0, pr_fld1, pr_fld2, pr_isc, pr_drop1, yes_eq, co_nil, co_cons, kCo1_ok, kCo2_ok, kCo3_ok, kCo4_ok, ev_comp2, kC2_ok, kC2e_ok, ns_non, clr_eq', kClr_t, iv_non, iv_val, cl_nil, cl_cons, kCl_b, kCl2_ok, kCl3_some, kComp_ok2, kCm_ok, pr_int_b, it_rng3, kI3_ok, kI3_ok', cp_in, cp_nin, isn_non, isn_tup, forL_nil, forL_cons, kFl_ok, kFb_nx, kFb_ct, kFb_bk, kFb_rt, sq_t, sq_l, kWhl_ok, kWb_nx, kWb_ct, kWb_bk, kWb_rt, lineN, cond_true, cond_false, Bool.cond_decide, Bool.not_true, Bool.not_false, Bool.and_true, Bool.true_and, Bool.and_false, Bool.false_and, Nat.zero_add, beq_self_eq_true, decide_true, decide_false, if_true, if_false, Bool.true_eq_false, Bool.false_eq_true, reduceIte, Nat.reduceAdd, Nat.reduceSub, Nat.reduceMul, Nat.reduceLeDiff, Nat.reduceBEq, Nat.reduceEqDiff, Int.reduceToNat, Int.reduceNeg, Nat.reduceLT, Nat.sub_self, u_b5, hn, hn', t3, n797, he, t4, bn_mul, mk, od, hr]
    · refine fin n q c3 _ (to_num n1' n2' n3' e0') (wo_of (lt_big mb' (show 201 ≤ 205 by decide)) (by decide) e0' e1') c30 _ fun r hr => ?_
      subst hd
      rw [rn5]
      simp only [getS_0, getS_s, ev_var, rdS_val, rdS_own, ev_cst, of_some, of_some', ev_bin, kBin_ok, kBin_ok', ev_cmp, kCmp_ok, kCmp_ok', kCmpR_some, ev_chn, kChn_ok, kChn_ok', kChn2_some, ev_and, kAnd_ok, ev_or, kOr_ok, ev_not, kNot_ok, ev_neg, kNeg_ok, ev_ite, kIteE_ok, es_nil, es_cons, kEs_ok, kEs_ok', ev_tup, ev_lst, kTup_ok, kLst_ok, ev_prim, kPrim_ok, ev_mix, kMix_ok, kMix_ok', kMix2_ok, as_nil, as_val, kAs_ok, kAs_ok', as_own, kOwn_ok, kOwn_ok', kOwn2_ok, as_tmp, kTmp_ok, ev_call, kCall_val, kCall_own, kV_ok, kV_exc, kCallR_ok, ev_callk, kCk_ok, kCk_ok', ev_comp, it_val, it_rng1, it_rng2, kI_ok, kI1_ok, kI2_ok, kI2_ok', ex_skip, ex_brk, ex_cnt, ex_seq, kSeq_nx, kSeq_rt, kSeq_bk, kSeq_ct, kSeq_exc, ex_asg, kAsg_ok, srof, put_eq, kPut_t, free_non, free_val, free_own, bind_name, bind_tup, bind_lst, all_nil, all_cons, kAll_some, ex_new, kNew_ok, ex_app, kApp_ok, kApp_ok', kApp2_ok, ex_put, kSto_ok, kSto1_ok, kSto2_ok, kSto3_0, ex_exp, kExp_ok, ex_ret, kRet_ok, ex_ite, kIte_ok, ex_for, kFor_ok, ex_whl, fin_nx, fin_rt, bn_add, bn_sub, bn_cat, bn_rep2, cp_lt, cp_le, cp_gt, cp_ge, cp_eq, cp_is, cp_nis, cp_ne, kNe_some, av_val, av_tmp, av_own, avO_own, pm_eq, pg_nil, pg_inl, pg_inr, pd_nil, pd_inl, pd_inr, gd_0, gd_s, nw_nil, nw_val, nw_tmp, nw_own, no_nil, no_val, no_tmp, no_own, lt_nil, lt_inl, lt_inr, lentK_t, lentK_f, io_own, io_val, io_tmp, io_none, bk_nil, bk_cons, b1_none, b1_some, backO_own, at_0, at_1, at_2, at_3, at_4, pr_idx_t, pr_idx_l, pr_idx_f, pr_len_t, pr_len_l, pr_len_f, pr_int, pr_int_t, pr_int_f, pr_abs, pr_min, pr_max, dr_ok, eq_int, eq_bl, List.cons_append, List.nil_append, List.append_nil, List.append_assoc, List.length_cons, List.length_nil, List.set_cons_zero, List.set_cons_succ, List.take_succ_cons, List.take_zero, List.take_nil, List.replicate_succ, List.replicate_zero, List.map_cons, List.map_nil, List.getElem?_cons_zero, List.getElem?_cons_succ, is0_non, is0_bl, is0_int, is0_str, is0_tup, is0_lst, is1_non, is1_bl, is1_int, is1_str, is1_tup, is1_lst, is2_non, is2_bl, is2_int, is2_str, is2_tup, is2_lst, is3_non, is3_bl, is3_int, is3_str, is3_tup, is3_lst, is4_non, is4_bl, is4_int, is4_str, is4_tup, is4_lst, ev_make, kMake_ok, kMk_ok, pr_fld0, pr_fld1, pr_fld2, pr_isc, pr_drop1, yes_eq, co_nil, co_cons, kCo1_ok, kCo2_ok, kCo3_ok, kCo4_ok, ev_comp2, kC2_ok, kC2e_ok, ns_non, clr_eq', kClr_t, iv_non, iv_val, cl_nil, cl_cons, kCl_b, kCl2_ok, kCl3_some, kComp_ok2, kCm_ok, pr_int_b, it_rng3, kI3_ok, kI3_ok', cp_in, cp_nin, isn_non, isn_tup, forL_nil, forL_cons, kFl_ok, kFb_nx, kFb_ct, kFb_bk, kFb_rt, sq_t, sq_l, kWhl_ok, kWb_nx, kWb_ct, kWb_bk, kWb_rt, lineN, cond_true, cond_false, Bool.cond_decide, Bool.not_true, Bool.not_false, Bool.and_true, Bool.true_and, Bool.and_false, Bool.false_and, Nat.zero_add, beq_self_eq_true, decide_true, decide_false, if_true, if_false, Bool.true_eq_false, Bool.false_eq_true, reduceIte, Nat.reduceAdd, Nat.reduceSub, Nat.reduceMul, Nat.reduceLeDiff, Nat.reduceBEq, Nat.reduceEqDiff, Int.reduceToNat, Int.reduceNeg, Nat.reduceLT, Nat.sub_self, u_b5, hn, hn', t3, n797, he, hr]
  · have hd' : (d == 0) = false := by simpa using hd
    refine fin n q c3 _ (to_num n1' n2' n3' e0') (wo_of (lt_big mb' (show 201 ≤ 205 by decide)) (by decide) e0' e1') c30 _ fun r hr => ?_
    rw [rn5]
    simp only [getS_0, getS_s, ev_var, rdS_val, rdS_own, ev_cst, of_some, of_some', ev_bin, kBin_ok, kBin_ok', ev_cmp, kCmp_ok, kCmp_ok', kCmpR_some, ev_chn, kChn_ok, kChn_ok', kChn2_some, ev_and, kAnd_ok, ev_or, kOr_ok, ev_not, kNot_ok, ev_neg, kNeg_ok, ev_ite, kIteE_ok, es_nil, es_cons, kEs_ok, kEs_ok', ev_tup, ev_lst, kTup_ok, kLst_ok, ev_prim, kPrim_ok, ev_mix, kMix_ok, kMix_ok', kMix2_ok, as_nil, as_val, kAs_ok, kAs_ok', as_own, kOwn_ok, kOwn_ok', kOwn2_ok, as_tmp, kTmp_ok, ev_call, kCall_val, kCall_own, kV_ok, kV_exc, kCallR_ok, ev_callk, kCk_ok, kCk_ok', ev_comp, it_val, it_rng1, it_rng2, kI_ok, kI1_ok, kI2_ok, kI2_ok', ex_skip, ex_brk, ex_cnt, ex_seq, kSeq_nx, kSeq_rt, kSeq_bk, kSeq_ct, kSeq_exc, ex_asg, kAsg_ok, srof, put_eq, kPut_t, free_non, free_val, free_own, bind_name, bind_tup, bind_lst, all_nil, all_cons, kAll_some, ex_new, kNew_ok, ex_app, kApp_ok, kApp_ok', kApp2_ok, ex_put, kSto_ok, kSto1_ok, kSto2_ok, kSto3_0, ex_exp, kExp_ok, ex_ret, kRet_ok, ex_ite, kIte_ok, ex_for, kFor_ok, ex_whl, fin_nx, fin_rt, bn_add, bn_sub, bn_cat, bn_rep2, cp_lt, cp_le, cp_gt, cp_ge, cp_eq, cp_is, cp_nis, cp_ne, kNe_some, av_val, av_tmp, av_own, avO_own, pm_eq, pg_nil, pg_inl, pg_inr, pd_nil, pd_inl, pd_inr, gd_0, gd_s, nw_nil, nw_val, nw_tmp, nw_own, no_nil, no_val, no_tmp, no_own, lt_nil, lt_inl, lt_inr, lentK_t, lentK_f, io_own, io_val, io_tmp, io_none, bk_nil, bk_cons, b1_none, b1_some, backO_own, at_0, at_1, at_2, at_3, at_4, pr_idx_t, pr_idx_l, pr_idx_f, pr_len_t, pr_len_l, pr_len_f, pr_int, pr_int_t, pr_int_f, pr_abs, pr_min, pr_max, dr_ok, eq_int, eq_bl, List.cons_append, List.nil_append, List.append_nil, List.append_assoc, List.length_cons, List.length_nil, List.set_cons_zero, List.set_cons_succ, List.take_succ_cons, List.take_zero, List.take_nil, List.replicate_succ, List.replicate_zero, List.map_cons, List.map_nil, List.getElem?_cons_zero, List.getElem?_cons_succ, is0_non, is0_bl, is0_int, is0_str, is0_tup, is0_lst, is1_non, is1_bl, is1_int, is1_str, is1_tup, is1_lst, is2_non, is2_bl, is2_int, is2_str, is2_tup, is2_lst, is3_non, is3_bl, is3_int, is3_str, is3_tup, is3_lst, is4_non, is4_bl, is4_int, is4_str, is4_tup, is4_lst, ev_make, kMake_ok, kMk_ok, pr_fld0, pr_fld1, pr_fld2, pr_isc, pr_drop1, yes_eq, co_nil, co_cons, kCo1_ok, kCo2_ok, kCo3_ok, kCo4_ok, ev_comp2, kC2_ok, kC2e_ok, ns_non, clr_eq', kClr_t, iv_non, iv_val, cl_nil, cl_cons, kCl_b, kCl2_ok, kCl3_some, kComp_ok2, kCm_ok, pr_int_b, it_rng3, kI3_ok, kI3_ok', cp_in, cp_nin, isn_non, isn_tup, forL_nil, forL_cons, kFl_ok, kFb_nx, kFb_ct, kFb_bk, kFb_rt, sq_t, sq_l, kWhl_ok, kWb_nx, kWb_ct, kWb_bk, kWb_rt, lineN, cond_true, cond_false, Bool.cond_decide, Bool.not_true, Bool.not_false, Bool.and_true, Bool.true_and, Bool.and_false, Bool.false_and, Nat.zero_add, beq_self_eq_true, decide_true, decide_false, if_true, if_false, Bool.true_eq_false, Bool.false_eq_true, reduceIte, Nat.reduceAdd, Nat.reduceSub, Nat.reduceMul, Nat.reduceLeDiff, Nat.reduceBEq, Nat.reduceEqDiff, Int.reduceToNat, Int.reduceNeg, Nat.reduceLT, Nat.sub_self, u_b5, hn, hn', t3, hd', hr]
/-! ### the law -/
def PairOk (d : D) : Prop := ∃ A B, d = .tup [num 800 A, num 800 B] ∧ Wo A ∧ Wo B ∧ A ≤ B
theorem in1 {k : Nat} {d : D} (hd : PairOk d) (s a1 a2 a3 a4 a5 a6 : S) : ∀ (L : List D), (∀ x ∈ L, PairOk x) → ∀ {a8 : S}, free a8 = true →
    ∃ a8', forL (bindT (.name 8)) (exS ⟨run T FUEL (k + 5), FUEL⟩ b25l0) L [s, a1, a2, a3, a4, a5, a6, .val d, a8] = .nx [s, a1, a2, a3, a4, a5, a6, .val d, a8'] ∧ free a8' = true := by
  intro L
  induction L with
  | nil => exact fun _ _ h => ⟨_, rfl, h⟩
  | cons x L ih =>
    intro hL a8 h8
    obtain ⟨A, B, rfl, wA, wB, h1⟩ := hd
    obtain ⟨C, E, rfl, wC, wE, h2⟩ := hL x List.mem_cons_self
    obtain ⟨a8', e, g⟩ := ih (fun y hy => hL y (List.mem_cons_of_mem _ hy)) (a8 := .val (.tup [num 800 C, num 800 E])) rfl
    refine ⟨a8', ?_, g⟩
    have q : dropR (run T FUEL (k + 5) 24 [.val (.tup [num 800 A, num 800 B]), .val (.tup [num 800 C, num 800 E])]) = _ := rGood wA wB wC wE h1 h2
    rw [forL_nx (r1 := [s, a1, a2, a3, a4, a5, a6, .val (.tup [num 800 A, num 800 B]), .val (.tup [num 800 C, num 800 E])]) (r2 := [s, a1, a2, a3, a4, a5, a6, .val (.tup [num 800 A, num 800 B]), .val (.tup [num 800 C, num 800 E])])]
    · exact e
    · simp only [getS_0, getS_s, ev_var, rdS_val, rdS_own, ev_cst, of_some, of_some', ev_bin, kBin_ok, kBin_ok', ev_cmp, kCmp_ok, kCmp_ok', kCmpR_some, ev_chn, kChn_ok, kChn_ok', kChn2_some, ev_and, kAnd_ok, ev_or, kOr_ok, ev_not, kNot_ok, ev_neg, kNeg_ok, ev_ite, kIteE_ok, es_nil, es_cons, kEs_ok, kEs_ok', ev_tup, ev_lst, kTup_ok, kLst_ok, ev_prim, kPrim_ok, ev_mix, kMix_ok, kMix_ok', kMix2_ok, as_nil, as_val, kAs_ok, kAs_ok', as_own, kOwn_ok, kOwn_ok', kOwn2_ok, as_tmp, kTmp_ok, ev_call, kCall_val, kCall_own, kV_ok, kV_exc, kCallR_ok, ev_callk, kCk_ok, kCk_ok', ev_comp, it_val, it_rng1, it_rng2, kI_ok, kI1_ok, kI2_ok, kI2_ok', ex_skip, ex_brk, ex_cnt, ex_seq, kSeq_nx, kSeq_rt, kSeq_bk, kSeq_ct, kSeq_exc, ex_asg, kAsg_ok, srof, put_eq, kPut_t, free_non, free_val, free_own, bind_name, bind_tup, bind_lst, all_nil, all_cons, kAll_some, ex_new, kNew_ok, ex_app, kApp_ok, kApp_ok', kApp2_ok, ex_put, kSto_ok, kSto1_ok, kSto2_ok, kSto3_0, ex_exp, kExp_ok, ex_ret, kRet_ok, ex_ite, kIte_ok, ex_for, kFor_ok, ex_whl, fin_nx, fin_rt, bn_add, bn_sub, bn_cat, bn_rep2, cp_lt, cp_le, cp_gt, cp_ge, cp_eq, cp_is, cp_nis, cp_ne, kNe_some, av_val, av_tmp, av_own, avO_own, pm_eq, pg_nil, pg_inl, pg_inr, pd_nil, pd_inl, pd_inr, gd_0, gd_s, nw_nil, nw_val, nw_tmp, nw_own, no_nil, no_val, no_tmp, no_own, lt_nil, lt_inl, lt_inr, lentK_t, lentK_f, io_own, io_val, io_tmp, io_none, bk_nil, bk_cons, b1_none, b1_some, backO_own, at_0, at_1, at_2, at_3, at_4, pr_idx_t, pr_idx_l, pr_idx_f, pr_len_t, pr_len_l, pr_len_f, pr_int, pr_int_t, pr_int_f, pr_abs, pr_min, pr_max, dr_ok, eq_int, eq_bl, List.cons_append, List.nil_append, List.append_nil, List.append_assoc, List.length_cons, List.length_nil, List.set_cons_zero, List.set_cons_succ, List.take_succ_cons, List.take_zero, List.take_nil, List.replicate_succ, List.replicate_zero, List.map_cons, List.map_nil, List.getElem?_cons_zero, List.getElem?_cons_succ, is0_non, is0_bl, is0_int, is0_str, is0_tup, is0_lst, is1_non, is1_bl, is1_int, is1_str, is1_tup, is1_lst, is2_non, is2_bl, is2_int, is2_str, is2_tup, is2_lst, is3_non, is3_bl, is3_int, is3_str, is3_tup, is3_lst, is4_non, is4_bl, is4_int, is4_str, is4_tup, is4_lst, ev_make, kMake_ok, kMk_ok, pr_fld0, pr_fld1, pr_fld2, pr_isc, pr_drop1, yes_eq, co_nil, co_cons, kCo1_ok, kCo2_ok, kCo3_ok, kCo4_ok, ev_comp2, kC2_ok, kC2e_ok, ns_non, clr_eq', kClr_t, iv_non, iv_val, cl_nil, cl_cons, kCl_b, kCl2_ok, kCl3_some, kComp_ok2, kCm_ok, pr_int_b, it_rng3, kI3_ok, kI3_ok', cp_in, cp_nin, isn_non, isn_tup, forL_nil, forL_cons, kFl_ok, kFb_nx, kFb_ct, kFb_bk, kFb_rt, sq_t, sq_l, kWhl_ok, kWb_nx, kWb_ct, kWb_bk, kWb_rt, lineN, cond_true, cond_false, Bool.cond_decide, Bool.not_true, Bool.not_false, Bool.and_true, Bool.true_and, Bool.and_false, Bool.false_and, Nat.zero_add, beq_self_eq_true, decide_true, decide_false, if_true, if_false, Bool.true_eq_false, Bool.false_eq_true, reduceIte, Nat.reduceAdd, Nat.reduceSub, Nat.reduceMul, Nat.reduceLeDiff, Nat.reduceBEq, Nat.reduceEqDiff, Int.reduceToNat, Int.reduceNeg, Nat.reduceLT, Nat.sub_self, h8]
    · simp only [getS_0, getS_s, ev_var, rdS_val, rdS_own, ev_cst, of_some, of_some', ev_bin, kBin_ok, kBin_ok', ev_cmp, kCmp_ok, kCmp_ok', kCmpR_some, ev_chn, kChn_ok, kChn_ok', kChn2_some, ev_and, kAnd_ok, ev_or, kOr_ok, ev_not, kNot_ok, ev_neg, kNeg_ok, ev_ite, kIteE_ok, es_nil, es_cons, kEs_ok, kEs_ok', ev_tup, ev_lst, kTup_ok, kLst_ok, ev_prim, kPrim_ok, ev_mix, kMix_ok, kMix_ok', kMix2_ok, as_nil, as_val, kAs_ok, kAs_ok', as_own, kOwn_ok, kOwn_ok', kOwn2_ok, as_tmp, kTmp_ok, ev_call, kCall_val, kCall_own, kV_ok, kV_exc, kCallR_ok, ev_callk, kCk_ok, kCk_ok', ev_comp, it_val, it_rng1, it_rng2, kI_ok, kI1_ok, kI2_ok, kI2_ok', ex_skip, ex_brk, ex_cnt, ex_seq, kSeq_nx, kSeq_rt, kSeq_bk, kSeq_ct, kSeq_exc, ex_asg, kAsg_ok, srof, put_eq, kPut_t, free_non, free_val, free_own, bind_name, bind_tup, bind_lst, all_nil, all_cons, kAll_some, ex_new, kNew_ok, ex_app, kApp_ok, kApp_ok', kApp2_ok, ex_put, kSto_ok, kSto1_ok, kSto2_ok, kSto3_0, ex_exp, kExp_ok, ex_ret, kRet_ok, ex_ite, kIte_ok, ex_for, kFor_ok, ex_whl, fin_nx, fin_rt, bn_add, bn_sub, bn_cat, bn_rep2, cp_lt, cp_le, cp_gt, cp_ge, cp_eq, cp_is, cp_nis, cp_ne, kNe_some, av_val, av_tmp, av_own, avO_own, pm_eq, pg_nil, pg_inl, pg_inr, pd_nil, pd_inl, pd_inr, gd_0, gd_s, nw_nil, nw_val, nw_tmp, nw_own, no_nil, no_val, no_tmp, no_own, lt_nil, lt_inl, lt_inr, lentK_t, lentK_f, io_own, io_val, io_tmp, io_none, bk_nil, bk_cons, b1_none, b1_some, backO_own, at_0, at_1, at_2, at_3, at_4, pr_idx_t, pr_idx_l, pr_idx_f, pr_len_t, pr_len_l, pr_len_f, pr_int, pr_int_t, pr_int_f, pr_abs, pr_min, pr_max, dr_ok, eq_int, eq_bl, List.cons_append, List.nil_append, List.append_nil, List.append_assoc, List.length_cons, List.length_nil, List.set_cons_zero, List.set_cons_succ, List.take_succ_cons, List.take_zero, List.take_nil, List.replicate_succ, List.replicate_zero, List.map_cons, List.map_nil, List.getElem?_cons_zero, List.getElem?_cons_succ, is0_non, is0_bl, is0_int, is0_str, is0_tup, is0_lst, is1_non, is1_bl, is1_int, is1_str, is1_tup, is1_lst, is2_non, is2_bl, is2_int, is2_str, is2_tup, is2_lst, is3_non, is3_bl, is3_int, is3_str, is3_tup, is3_lst, is4_non, is4_bl, is4_int, is4_str, is4_tup, is4_lst, ev_make, kMake_ok, kMk_ok, pr_fld0, pr_fld1, pr_fld2, pr_isc, pr_drop1, yes_eq, co_nil, co_cons, kCo1_ok, kCo2_ok, kCo3_ok, kCo4_ok, ev_comp2, kC2_ok, kC2e_ok, ns_non, clr_eq', kClr_t, iv_non, iv_val, cl_nil, cl_cons, kCl_b, kCl2_ok, kCl3_some, kComp_ok2, kCm_ok, pr_int_b, it_rng3, kI3_ok, kI3_ok', cp_in, cp_nin, isn_non, isn_tup, forL_nil, forL_cons, kFl_ok, kFb_nx, kFb_ct, kFb_bk, kFb_rt, sq_t, sq_l, kWhl_ok, kWb_nx, kWb_ct, kWb_bk, kWb_rt, lineN, cond_true, cond_false, Bool.cond_decide, Bool.not_true, Bool.not_false, Bool.and_true, Bool.true_and, Bool.and_false, Bool.false_and, Nat.zero_add, beq_self_eq_true, decide_true, decide_false, if_true, if_false, Bool.true_eq_false, Bool.false_eq_true, reduceIte, Nat.reduceAdd, Nat.reduceSub, Nat.reduceMul, Nat.reduceLeDiff, Nat.reduceBEq, Nat.reduceEqDiff, Int.reduceToNat, Int.reduceNeg, Nat.reduceLT, Nat.sub_self, u_b25l0, q]
theorem in2 {k : Nat} {L0 : List D} (h0 : ∀ x ∈ L0, PairOk x) (s a1 a2 a3 a4 a5 : S) : ∀ (L : List D), (∀ x ∈ L, PairOk x) → ∀ {a7 a8 : S}, free a7 = true → free a8 = true →
    ∃ a7' a8', forL (bindT (.name 7)) (exS ⟨run T FUEL (k + 5), FUEL⟩ b25l1) L [s, a1, a2, a3, a4, a5, .val (.lst L0), a7, a8] = .nx [s, a1, a2, a3, a4, a5, .val (.lst L0), a7', a8'] ∧ free a7' = true ∧ free a8' = true := by
  intro L
  induction L with
  | nil => exact fun _ _ _ h h' => ⟨_, _, rfl, h, h'⟩
  | cons x L ih =>
    intro hL a7 a8 h7 h8
    obtain ⟨a8', e1, g1⟩ := in1 (k := k) (hL x List.mem_cons_self) s a1 a2 a3 a4 a5 (.val (.lst L0)) L0 h0 h8
    obtain ⟨a7'', a8'', e2, g2, g3⟩ := ih (fun y hy => hL y (List.mem_cons_of_mem _ hy)) (a7 := .val x) (a8 := a8') rfl g1
    refine ⟨a7'', a8'', ?_, g2, g3⟩
    rw [forL_nx (r1 := [s, a1, a2, a3, a4, a5, .val (.lst L0), .val x, a8]) (r2 := [s, a1, a2, a3, a4, a5, .val (.lst L0), .val x, a8'])]
    · exact e2
    · simp only [getS_0, getS_s, ev_var, rdS_val, rdS_own, ev_cst, of_some, of_some', ev_bin, kBin_ok, kBin_ok', ev_cmp, kCmp_ok, kCmp_ok', kCmpR_some, ev_chn, kChn_ok, kChn_ok', kChn2_some, ev_and, kAnd_ok, ev_or, kOr_ok, ev_not, kNot_ok, ev_neg, kNeg_ok, ev_ite, kIteE_ok, es_nil, es_cons, kEs_ok, kEs_ok', ev_tup, ev_lst, kTup_ok, kLst_ok, ev_prim, kPrim_ok, ev_mix, kMix_ok, kMix_ok', kMix2_ok, as_nil, as_val, kAs_ok, kAs_ok', as_own, kOwn_ok, kOwn_ok', kOwn2_ok, as_tmp, kTmp_ok, ev_call, kCall_val, kCall_own, kV_ok, kV_exc, kCallR_ok, ev_callk, kCk_ok, kCk_ok', ev_comp, it_val, it_rng1, it_rng2, kI_ok, kI1_ok, kI2_ok, kI2_ok', ex_skip, ex_brk, ex_cnt, ex_seq, kSeq_nx, kSeq_rt, kSeq_bk, kSeq_ct, kSeq_exc, ex_asg, kAsg_ok, srof, put_eq, kPut_t, free_non, free_val, free_own, bind_name, bind_tup, bind_lst, all_nil, all_cons, kAll_some, ex_new, kNew_ok, ex_app, kApp_ok, kApp_ok', kApp2_ok, ex_put, kSto_ok, kSto1_ok, kSto2_ok, kSto3_0, ex_exp, kExp_ok, ex_ret, kRet_ok, ex_ite, kIte_ok, ex_for, kFor_ok, ex_whl, fin_nx, fin_rt, bn_add, bn_sub, bn_cat, bn_rep2, cp_lt, cp_le, cp_gt, cp_ge, cp_eq, cp_is, cp_nis, cp_ne, kNe_some, av_val, av_tmp, av_own, avO_own, pm_eq, pg_nil, pg_inl, pg_inr, pd_nil, pd_inl, pd_inr, gd_0, gd_s, nw_nil, nw_val, nw_tmp, nw_own, no_nil, no_val, no_tmp, no_own, lt_nil, lt_inl, lt_inr, lentK_t, lentK_f, io_own, io_val, io_tmp, io_none, bk_nil, bk_cons, b1_none, b1_some, backO_own, at_0, at_1, at_2, at_3, at_4, pr_idx_t, pr_idx_l, pr_idx_f, pr_len_t, pr_len_l, pr_len_f, pr_int, pr_int_t, pr_int_f, pr_abs, pr_min, pr_max, dr_ok, eq_int, eq_bl, List.cons_append, List.nil_append, List.append_nil, List.append_assoc, List.length_cons, List.length_nil, List.set_cons_zero, List.set_cons_succ, List.take_succ_cons, List.take_zero, List.take_nil, List.replicate_succ, List.replicate_zero, List.map_cons, List.map_nil, List.getElem?_cons_zero, List.getElem?_cons_succ, is0_non, is0_bl, is0_int, is0_str, is0_tup, is0_lst, is1_non, is1_bl, is1_int, is1_str, is1_tup, is1_lst, is2_non, is2_bl, is2_int, is2_str, is2_tup, is2_lst, is3_non, is3_bl, is3_int, is3_str, is3_tup, is3_lst, is4_non, is4_bl, is4_int, is4_str, is4_tup, is4_lst, ev_make, kMake_ok, kMk_ok, pr_fld0, pr_fld1, pr_fld2, pr_isc, pr_drop1, yes_eq, co_nil, co_cons, kCo1_ok, kCo2_ok, kCo3_ok, kCo4_ok, ev_comp2, kC2_ok, kC2e_ok, ns_non, clr_eq', kClr_t, iv_non, iv_val, cl_nil, cl_cons, kCl_b, kCl2_ok, kCl3_some, kComp_ok2, kCm_ok, pr_int_b, it_rng3, kI3_ok, kI3_ok', cp_in, cp_nin, isn_non, isn_tup, forL_nil, forL_cons, kFl_ok, kFb_nx, kFb_ct, kFb_bk, kFb_rt, sq_t, sq_l, kWhl_ok, kWb_nx, kWb_ct, kWb_bk, kWb_rt, lineN, cond_true, cond_false, Bool.cond_decide, Bool.not_true, Bool.not_false, Bool.and_true, Bool.true_and, Bool.and_false, Bool.false_and, Nat.zero_add, beq_self_eq_true, decide_true, decide_false, if_true, if_false, Bool.true_eq_false, Bool.false_eq_true, reduceIte, Nat.reduceAdd, Nat.reduceSub, Nat.reduceMul, Nat.reduceLeDiff, Nat.reduceBEq, Nat.reduceEqDiff, Int.reduceToNat, Int.reduceNeg, Nat.reduceLT, Nat.sub_self, h7]
    · simp only [getS_0, getS_s, ev_var, rdS_val, rdS_own, ev_cst, of_some, of_some', ev_bin, kBin_ok, kBin_ok', ev_cmp, kCmp_ok, kCmp_ok', kCmpR_some, ev_chn, kChn_ok, kChn_ok', kChn2_some, ev_and, kAnd_ok, ev_or, kOr_ok, ev_not, kNot_ok, ev_neg, kNeg_ok, ev_ite, kIteE_ok, es_nil, es_cons, kEs_ok, kEs_ok', ev_tup, ev_lst, kTup_ok, kLst_ok, ev_prim, kPrim_ok, ev_mix, kMix_ok, kMix_ok', kMix2_ok, as_nil, as_val, kAs_ok, kAs_ok', as_own, kOwn_ok, kOwn_ok', kOwn2_ok, as_tmp, kTmp_ok, ev_call, kCall_val, kCall_own, kV_ok, kV_exc, kCallR_ok, ev_callk, kCk_ok, kCk_ok', ev_comp, it_val, it_rng1, it_rng2, kI_ok, kI1_ok, kI2_ok, kI2_ok', ex_skip, ex_brk, ex_cnt, ex_seq, kSeq_nx, kSeq_rt, kSeq_bk, kSeq_ct, kSeq_exc, ex_asg, kAsg_ok, srof, put_eq, kPut_t, free_non, free_val, free_own, bind_name, bind_tup, bind_lst, all_nil, all_cons, kAll_some, ex_new, kNew_ok, ex_app, kApp_ok, kApp_ok', kApp2_ok, ex_put, kSto_ok, kSto1_ok, kSto2_ok, kSto3_0, ex_exp, kExp_ok, ex_ret, kRet_ok, ex_ite, kIte_ok, ex_for, kFor_ok, ex_whl, fin_nx, fin_rt, bn_add, bn_sub, bn_cat, bn_rep2, cp_lt, cp_le, cp_gt, cp_ge, cp_eq, cp_is, cp_nis, cp_ne, kNe_some, av_val, av_tmp, av_own, avO_own, pm_eq, pg_nil, pg_inl, pg_inr, pd_nil, pd_inl, pd_inr, gd_0, gd_s, nw_nil, nw_val, nw_tmp, nw_own, no_nil, no_val, no_tmp, no_own, lt_nil, lt_inl, lt_inr, lentK_t, lentK_f, io_own, io_val, io_tmp, io_none, bk_nil, bk_cons, b1_none, b1_some, backO_own, at_0, at_1, at_2, at_3, at_4, pr_idx_t, pr_idx_l, pr_idx_f, pr_len_t, pr_len_l, pr_len_f, pr_int, pr_int_t, pr_int_f, pr_abs, pr_min, pr_max, dr_ok, eq_int, eq_bl, List.cons_append, List.nil_append, List.append_nil, List.append_assoc, List.length_cons, List.length_nil, List.set_cons_zero, List.set_cons_succ, List.take_succ_cons, List.take_zero, List.take_nil, List.replicate_succ, List.replicate_zero, List.map_cons, List.map_nil, List.getElem?_cons_zero, List.getElem?_cons_succ, is0_non, is0_bl, is0_int, is0_str, is0_tup, is0_lst, is1_non, is1_bl, is1_int, is1_str, is1_tup, is1_lst, is2_non, is2_bl, is2_int, is2_str, is2_tup, is2_lst, is3_non, is3_bl, is3_int, is3_str, is3_tup, is3_lst, is4_non, is4_bl, is4_int, is4_str, is4_tup, is4_lst, ev_make, kMake_ok, kMk_ok, pr_fld0, pr_fld1, pr_fld2, pr_isc, pr_drop1, yes_eq, co_nil, co_cons, kCo1_ok, kCo2_ok, kCo3_ok, kCo4_ok, ev_comp2, kC2_ok, kC2e_ok, ns_non, clr_eq', kClr_t, iv_non, iv_val, cl_nil, cl_cons, kCl_b, kCl2_ok, kCl3_some, kComp_ok2, kCm_ok, pr_int_b, it_rng3, kI3_ok, kI3_ok', cp_in, cp_nin, isn_non, isn_tup, kFl_ok, kFb_nx, kFb_ct, kFb_bk, kFb_rt, sq_t, sq_l, kWhl_ok, kWb_nx, kWb_ct, kWb_bk, kWb_rt, lineN, cond_true, cond_false, Bool.cond_decide, Bool.not_true, Bool.not_false, Bool.and_true, Bool.true_and, Bool.and_false, Bool.false_and, Nat.zero_add, beq_self_eq_true, decide_true, decide_false, if_true, if_false, Bool.true_eq_false, Bool.false_eq_true, reduceIte, Nat.reduceAdd, Nat.reduceSub, Nat.reduceMul, Nat.reduceLeDiff, Nat.reduceBEq, Nat.reduceEqDiff, Int.reduceToNat, Int.reduceNeg, Nat.reduceLT, Nat.sub_self, u_b25l1, e1]
def Inv (s : S) (r : List S) : Prop := ∃ a1 a2 a3 a4 a5 a6 a7 a8, r = [s, a1, a2, a3, a4, a5, a6, a7, a8] ∧ free a1 = true ∧ free a2 = true ∧ free a3 = true ∧ free a4 = true ∧ free a5 = true ∧ free a6 = true ∧ free a7 = true ∧ free a8 = true
theorem nm_negs (W : Int) : 0 - NM W = NM (-W) ∧ ∀ e, NE (-W) e = NE W e := by
  by_cases h : W = 0
  · subst h; exact ⟨rfl, fun _ => rfl⟩
  · obtain ⟨a1, a2⟩ := nm_spec h
    have e : -W = (0 - NM W) * 2 ^ v2 W := by rw [Int.zero_sub, Int.neg_mul, ← a2]
    obtain ⟨d0, d1, d2⟩ := nm_of (q := 0 - NM W) (by omega) e
    refine ⟨d1.symm, fun x => ?_⟩
    rw [d2]
    unfold NE
    rw [if_neg h]
theorem nm_nonneg {m : Int} (h : 0 ≤ m) : 0 ≤ NM m := by
  unfold NM
  split
  · decide
  · exact Int.ediv_nonneg h (Int.le_of_lt (pow2_pos _))
theorem abs_num (B W : Int) : (.tup [.int ((NM W).natAbs : Int), .int (NE W (-B))] : D) = num B (W.natAbs : Int) := by
  unfold num
  by_cases h : 0 ≤ W
  · have h2 := nm_nonneg h
    rw [Int.natAbs_of_nonneg h, Int.natAbs_of_nonneg h2]
  · obtain ⟨e1, e2⟩ := nm_negs W
    have h3 : ((W.natAbs : Nat) : Int) = -W := by omega
    have h4 : 0 ≤ NM (-W) := nm_nonneg (by omega)
    have h5 : ((NM W).natAbs : Int) = NM (-W) := by omega
    rw [h3, h5, e2]
theorem neg_num (B W : Int) : (.tup [.int (0 - NM W), .int (NE W (-B))] : D) = num B (-W) := by
  unfold num
  obtain ⟨e1, e2⟩ := nm_negs W
  rw [e1, e2]
theorem idx_num0 {B V : Int} : prim .idx [num B V, .int 0] = some (.int (NM V)) := by
  show L2.atI [D.int (NM V), D.int (NE V (-B))] 0 = _
  exact at_0
theorem idx_num1 {B V : Int} : prim .idx [num B V, .int 1] = some (.int (NE V (-B))) := by
  show L2.atI [D.int (NM V), D.int (NE V (-B))] 1 = _
  exact at_1
theorem wo_abs {V : Int} (h : Wo V) : Wo (V.natAbs : Int) := by
  refine ⟨by simpa using h.b, ?_⟩
  by_cases q : 0 ≤ V
  · rw [Int.natAbs_of_nonneg q]; exact h.m
  · have h3 : ((V.natAbs : Nat) : Int) = -V := by omega
    rw [h3, ← (nm_negs V).1, show (0 - NM V).natAbs = (NM V).natAbs by omega]
    exact h.m
theorem wo_neg {V : Int} (h : Wo V) : Wo (-V) := by
  refine ⟨by rw [Int.natAbs_neg]; exact h.b, ?_⟩
  rw [← (nm_negs V).1, show (0 - NM V).natAbs = (NM V).natAbs by omega]
  exact h.m
theorem pr_ab {i : Int} : prim .abs [.int i] = some (.int i.natAbs) := by
  show some (D.int (if i < 0 then -i else i)) = _
  congr 2
  split <;> omega
theorem zero_num : (.tup [.int 0, .int 0] : D) = num 800 0 := rfl
theorem body {ns : List Int} {j : Int} (h0 : 0 ≤ j) (h1 : j < 4) {r : List S} (hi : Inv (.val (.frz (ns.map .int))) r) :
    ∃ r1 r2, bindT (.name 1) (.int j) r = some r1 ∧ exS ⟨run T FUEL 19, FUEL⟩ b25l2 r1 = .nx r2 ∧ Inv (.val (.frz (ns.map .int))) r2 := by
  obtain ⟨a1, a2, a3, a4, a5, a6, a7, a8, rfl, g1, g2, g3, g4, g5, g6, g7, g8⟩ := hi
  obtain ⟨c, hc, c0, c1⟩ := sp_cell (T := T) (F := FUEL) (k := 17) (f := 7) (g := 6) rfl rfl ns j h0 (by omega)
  obtain ⟨A, B, c2, p1, c20, wA, wB, hAB⟩ := rPair (k := 16) c0
  obtain ⟨C, E, c3, p2, c30, wC, wE, hCE⟩ := rPair (k := 16) c20
  have ab := abs_num 800 B
  have wS := wo_abs wB
  have nS : 0 ≤ ((B.natAbs : Nat) : Int) := Int.natCast_nonneg _
  generalize ((B.natAbs : Nat) : Int) = s at *
  have ng := neg_num 800 s
  have hL : ∀ d ∈ ([.tup [num 800 A, num 800 B], .tup [num 800 C, num 800 E], .tup [num 800 (-s), num 800 s], .tup [num 800 0, num 800 s], .tup [num 800 (-s), num 800 0], .tup [num 800 s, num 800 s]] : List D), PairOk d := by
    intro d hd
    simp only [List.mem_cons, List.not_mem_nil, or_false] at hd
    rcases hd with rfl | rfl | rfl | rfl | rfl | rfl
    · exact ⟨_, _, rfl, wA, wB, hAB⟩
    · exact ⟨_, _, rfl, wC, wE, hCE⟩
    · exact ⟨_, _, rfl, wo_neg wS, wS, by omega⟩
    · exact ⟨_, _, rfl, Wo.zero, wS, nS⟩
    · exact ⟨_, _, rfl, wo_neg wS, Wo.zero, by omega⟩
    · exact ⟨_, _, rfl, wS, wS, Int.le_refl _⟩
  generalize hLL : ([.tup [num 800 A, num 800 B], .tup [num 800 C, num 800 E], .tup [num 800 (-s), num 800 s], .tup [num 800 0, num 800 s], .tup [num 800 (-s), num 800 0], .tup [num 800 s, num 800 s]] : List D) = L at hL
  obtain ⟨a7', a8', e, f7, f8⟩ := in2 (k := 14) hL (.val (.frz (ns.map .int))) (.val (.int j)) (.own false [.int c3]) (.val (.tup [num 800 A, num 800 B])) (.val (.tup [num 800 C, num 800 E])) (.val (num 800 s)) L hL g7 g8
  have nF : ∀ (x y : D), (.tup [x, y] : D) = .tup [x, y] := fun _ _ => rfl
  refine ⟨_, _, by simp only [getS_0, getS_s, ev_var, rdS_val, rdS_own, ev_cst, of_some, of_some', ev_bin, kBin_ok, kBin_ok', ev_cmp, kCmp_ok, kCmp_ok', kCmpR_some, ev_chn, kChn_ok, kChn_ok', kChn2_some, ev_and, kAnd_ok, ev_or, kOr_ok, ev_not, kNot_ok, ev_neg, kNeg_ok, ev_ite, kIteE_ok, es_nil, es_cons, kEs_ok, kEs_ok', ev_tup, ev_lst, kTup_ok, kLst_ok, ev_prim, kPrim_ok, ev_mix, kMix_ok, kMix_ok', kMix2_ok, as_nil, as_val, kAs_ok, kAs_ok', as_own, kOwn_ok, kOwn_ok', kOwn2_ok, as_tmp, kTmp_ok, ev_call, kCall_val, kCall_own, kV_ok, kV_exc, kCallR_ok, ev_callk, kCk_ok, kCk_ok', ev_comp, it_val, it_rng1, it_rng2, kI_ok, kI1_ok, kI2_ok, kI2_ok', ex_skip, ex_brk, ex_cnt, ex_seq, kSeq_nx, kSeq_rt, kSeq_bk, kSeq_ct, kSeq_exc, ex_asg, kAsg_ok, srof, put_eq, kPut_t, free_non, free_val, free_own, bind_name, bind_tup, bind_lst, all_nil, all_cons, kAll_some, ex_new, kNew_ok, ex_app, kApp_ok, kApp_ok', kApp2_ok, ex_put, kSto_ok, kSto1_ok, kSto2_ok, kSto3_0, ex_exp, kExp_ok, ex_ret, kRet_ok, ex_ite, kIte_ok, ex_for, kFor_ok, ex_whl, fin_nx, fin_rt, bn_add, bn_sub, bn_cat, bn_rep2, cp_lt, cp_le, cp_gt, cp_ge, cp_eq, cp_is, cp_nis, cp_ne, kNe_some, av_val, av_tmp, av_own, avO_own, pm_eq, pg_nil, pg_inl, pg_inr, pd_nil, pd_inl, pd_inr, gd_0, gd_s, nw_nil, nw_val, nw_tmp, nw_own, no_nil, no_val, no_tmp, no_own, lt_nil, lt_inl, lt_inr, lentK_t, lentK_f, io_own, io_val, io_tmp, io_none, bk_nil, bk_cons, b1_none, b1_some, backO_own, at_0, at_1, at_2, at_3, at_4, pr_idx_t, pr_idx_l, pr_idx_f, pr_len_t, pr_len_l, pr_len_f, pr_int, pr_int_t, pr_int_f, pr_abs, pr_min, pr_max, dr_ok, eq_int, eq_bl, List.cons_append, List.nil_append, List.append_nil, List.append_assoc, List.length_cons, List.length_nil, List.set_cons_zero, List.set_cons_succ, List.take_succ_cons, List.take_zero, List.take_nil, List.replicate_succ, List.replicate_zero, List.map_cons, List.map_nil, List.getElem?_cons_zero, List.getElem?_cons_succ, is0_non, is0_bl, is0_int, is0_str, is0_tup, is0_lst, is1_non, is1_bl, is1_int, is1_str, is1_tup, is1_lst, is2_non, is2_bl, is2_int, is2_str, is2_tup, is2_lst, is3_non, is3_bl, is3_int, is3_str, is3_tup, is3_lst, is4_non, is4_bl, is4_int, is4_str, is4_tup, is4_lst, ev_make, kMake_ok, kMk_ok, pr_fld0, pr_fld1, pr_fld2, pr_isc, pr_drop1, yes_eq, co_nil, co_cons, kCo1_ok, kCo2_ok, kCo3_ok, kCo4_ok, ev_comp2, kC2_ok, kC2e_ok, ns_non, clr_eq', kClr_t, iv_non, iv_val, cl_nil, cl_cons, kCl_b, kCl2_ok, kCl3_some, kComp_ok2, kCm_ok, pr_int_b, it_rng3, kI3_ok, kI3_ok', cp_in, cp_nin, isn_non, isn_tup, forL_nil, forL_cons, kFl_ok, kFb_nx, kFb_ct, kFb_bk, kFb_rt, sq_t, sq_l, kWhl_ok, kWb_nx, kWb_ct, kWb_bk, kWb_rt, lineN, cond_true, cond_false, Bool.cond_decide, Bool.not_true, Bool.not_false, Bool.and_true, Bool.true_and, Bool.and_false, Bool.false_and, Nat.zero_add, beq_self_eq_true, decide_true, decide_false, if_true, if_false, Bool.true_eq_false, Bool.false_eq_true, reduceIte, Nat.reduceAdd, Nat.reduceSub, Nat.reduceMul, Nat.reduceLeDiff, Nat.reduceBEq, Nat.reduceEqDiff, Int.reduceToNat, Int.reduceNeg, Nat.reduceLT, Nat.sub_self, g1]; rfl, by simp only [getS_0, getS_s, ev_var, rdS_val, rdS_own, ev_cst, of_some, of_some', ev_bin, kBin_ok, kBin_ok', ev_cmp, kCmp_ok, kCmp_ok', kCmpR_some, ev_chn, kChn_ok, kChn_ok', kChn2_some, ev_and, kAnd_ok, ev_or, kOr_ok, ev_not, kNot_ok, ev_neg, kNeg_ok, ev_ite, kIteE_ok, es_nil, es_cons, kEs_ok, kEs_ok', ev_tup, ev_lst, kTup_ok, kLst_ok, ev_prim, kPrim_ok, ev_mix, kMix_ok, kMix_ok', kMix2_ok, as_nil, as_val, kAs_ok, kAs_ok', as_own, kOwn_ok, kOwn_ok', kOwn2_ok, as_tmp, kTmp_ok, ev_call, kCall_val, kCall_own, kV_ok, kV_exc, kCallR_ok, ev_callk, kCk_ok, kCk_ok', ev_comp, it_val, it_rng1, it_rng2, kI_ok, kI1_ok, kI2_ok, kI2_ok', ex_skip, ex_brk, ex_cnt, ex_seq, kSeq_nx, kSeq_rt, kSeq_bk, kSeq_ct, kSeq_exc, ex_asg, kAsg_ok, srof, put_eq, kPut_t, free_non, free_val, free_own, bind_name, bind_tup, bind_lst, all_nil, all_cons, kAll_some, ex_new, kNew_ok, ex_app, kApp_ok, kApp_ok', kApp2_ok, ex_put, kSto_ok, kSto1_ok, kSto2_ok, kSto3_0, ex_exp, kExp_ok, ex_ret, kRet_ok, ex_ite, kIte_ok, ex_for, kFor_ok, ex_whl, fin_nx, fin_rt, bn_add, bn_sub, bn_cat, bn_rep2, cp_lt, cp_le, cp_gt, cp_ge, cp_eq, cp_is, cp_nis, cp_ne, kNe_some, av_val, av_tmp, av_own, avO_own, pm_eq, pg_nil, pg_inl, pg_inr, pd_nil, pd_inl, pd_inr, gd_0, gd_s, nw_nil, nw_val, nw_tmp, nw_own, no_nil, no_val, no_tmp, no_own, lt_nil, lt_inl, lt_inr, lentK_t, lentK_f, io_own, io_val, io_tmp, io_none, bk_nil, bk_cons, b1_none, b1_some, backO_own, at_0, at_1, at_2, at_3, at_4, pr_idx_t, pr_idx_l, pr_idx_f, pr_len_t, pr_len_l, pr_len_f, pr_int, pr_int_t, pr_int_f, pr_min, pr_max, dr_ok, eq_int, eq_bl, List.cons_append, List.nil_append, List.append_nil, List.append_assoc, List.length_cons, List.length_nil, List.set_cons_zero, List.set_cons_succ, List.take_succ_cons, List.take_zero, List.take_nil, List.replicate_succ, List.replicate_zero, List.map_cons, List.map_nil, List.getElem?_cons_zero, List.getElem?_cons_succ, is0_non, is0_bl, is0_int, is0_str, is0_tup, is0_lst, is1_non, is1_bl, is1_int, is1_str, is1_tup, is1_lst, is2_non, is2_bl, is2_int, is2_str, is2_tup, is2_lst, is3_non, is3_bl, is3_int, is3_str, is3_tup, is3_lst, is4_non, is4_bl, is4_int, is4_str, is4_tup, is4_lst, ev_make, kMake_ok, kMk_ok, pr_fld0, pr_fld1, pr_fld2, pr_isc, pr_drop1, yes_eq, co_nil, co_cons, kCo1_ok, kCo2_ok, kCo3_ok, kCo4_ok, ev_comp2, kC2_ok, kC2e_ok, ns_non, clr_eq', kClr_t, iv_non, iv_val, cl_nil, cl_cons, kCl_b, kCl2_ok, kCl3_some, kComp_ok2, kCm_ok, pr_int_b, it_rng3, kI3_ok, kI3_ok', cp_in, cp_nin, isn_non, isn_tup, kFl_ok, kFb_nx, kFb_ct, kFb_bk, kFb_rt, sq_t, sq_l, kWhl_ok, kWb_nx, kWb_ct, kWb_bk, kWb_rt, lineN, cond_true, cond_false, Bool.cond_decide, Bool.not_true, Bool.not_false, Bool.and_true, Bool.true_and, Bool.and_false, Bool.false_and, Nat.zero_add, beq_self_eq_true, decide_true, decide_false, if_true, if_false, Bool.true_eq_false, Bool.false_eq_true, reduceIte, Nat.reduceAdd, Nat.reduceSub, Nat.reduceMul, Nat.reduceLeDiff, Nat.reduceBEq, Nat.reduceEqDiff, Int.reduceToNat, Int.reduceNeg, Nat.reduceLT, Nat.sub_self, u_b25l2, hc, g2, p1, g3, p2, g4, idx_num0, idx_num1, pr_ab, ab, g5, ng, zero_num, g6, hLL, e]; rfl, ?_⟩
  exact ⟨_, _, _, _, _, _, _, _, rfl, rfl, rfl, rfl, rfl, rfl, rfl, f7, f8⟩
theorem law_holds : ∀ ns : List Int, ns.length ≤ 63 → ∃ outs, run T FUEL 20 25 [.val (.frz (ns.map .int))] = .ok (.bl true) outs := by
  intro ns _
  rw [rn25]
  have ro : rngOk 4 = true := rfl
  obtain ⟨r', e, a1, a2, a3, a4, a5, a6, a7, a8, rfl, _⟩ := forL_all (t := bindT (.name 1)) (b := exS ⟨run T FUEL 19, FUEL⟩ b25l2) (I := Inv (.val (.frz (ns.map .int)))) (xs := rng 0 4)
    (fun x hx r hr => by
      obtain ⟨i, rfl, i0, i1⟩ := rng_mem hx
      exact body i0 (by omega) hr) (r := [.val (.frz (ns.map .int)), .non, .non, .non, .non, .non, .non, .non, .non]) ⟨_, _, _, _, _, _, _, _, rfl, rfl, rfl, rfl, rfl, rfl, rfl, rfl, rfl⟩
  refine ⟨[.val (.frz (ns.map .int))], ?_⟩
  simp only [getS_0, getS_s, ev_var, rdS_val, rdS_own, ev_cst, of_some, of_some', ev_bin, kBin_ok, kBin_ok', ev_cmp, kCmp_ok, kCmp_ok', kCmpR_some, ev_chn, kChn_ok, kChn_ok', kChn2_some, ev_and, kAnd_ok, ev_or, kOr_ok, ev_not, kNot_ok, ev_neg, kNeg_ok, ev_ite, kIteE_ok, es_nil, es_cons, kEs_ok, kEs_ok', ev_tup, ev_lst, kTup_ok, kLst_ok, ev_prim, kPrim_ok, ev_mix, kMix_ok, kMix_ok', kMix2_ok, as_nil, as_val, kAs_ok, kAs_ok', as_own, kOwn_ok, kOwn_ok', kOwn2_ok, as_tmp, kTmp_ok, ev_call, kCall_val, kCall_own, kV_ok, kV_exc, kCallR_ok, ev_callk, kCk_ok, kCk_ok', ev_comp, it_val, it_rng1, it_rng2, kI_ok, kI1_ok, kI2_ok, kI2_ok', ex_skip, ex_brk, ex_cnt, ex_seq, kSeq_nx, kSeq_rt, kSeq_bk, kSeq_ct, kSeq_exc, ex_asg, kAsg_ok, srof, put_eq, kPut_t, free_non, free_val, free_own, bind_name, bind_tup, bind_lst, all_nil, all_cons, kAll_some, ex_new, kNew_ok, ex_app, kApp_ok, kApp_ok', kApp2_ok, ex_put, kSto_ok, kSto1_ok, kSto2_ok, kSto3_0, ex_exp, kExp_ok, ex_ret, kRet_ok, ex_ite, kIte_ok, ex_for, kFor_ok, ex_whl, fin_nx, fin_rt, bn_add, bn_sub, bn_cat, bn_rep2, cp_lt, cp_le, cp_gt, cp_ge, cp_eq, cp_is, cp_nis, cp_ne, kNe_some, av_val, av_tmp, av_own, avO_own, pm_eq, pg_nil, pg_inl, pg_inr, pd_nil, pd_inl, pd_inr, gd_0, gd_s, nw_nil, nw_val, nw_tmp, nw_own, no_nil, no_val, no_tmp, no_own, lt_nil, lt_inl, lt_inr, lentK_t, lentK_f, io_own, io_val, io_tmp, io_none, bk_nil, bk_cons, b1_none, b1_some, backO_own, at_0, at_1, at_2, at_3, at_4, pr_idx_t, pr_idx_l, pr_idx_f, pr_len_t, pr_len_l, pr_len_f, pr_int, pr_int_t, pr_int_f, pr_abs, pr_min, pr_max, dr_ok, eq_int, eq_bl, List.cons_append, List.nil_append, List.append_nil, List.append_assoc, List.length_cons, List.length_nil, List.set_cons_zero, List.set_cons_succ, List.take_succ_cons, List.take_zero, List.take_nil, List.replicate_succ, List.replicate_zero, List.map_cons, List.map_nil, List.getElem?_cons_zero, List.getElem?_cons_succ, is0_non, is0_bl, is0_int, is0_str, is0_tup, is0_lst, is1_non, is1_bl, is1_int, is1_str, is1_tup, is1_lst, is2_non, is2_bl, is2_int, is2_str, is2_tup, is2_lst, is3_non, is3_bl, is3_int, is3_str, is3_tup, is3_lst, is4_non, is4_bl, is4_int, is4_str, is4_tup, is4_lst, ev_make, kMake_ok, kMk_ok, pr_fld0, pr_fld1, pr_fld2, pr_isc, pr_drop1, yes_eq, co_nil, co_cons, kCo1_ok, kCo2_ok, kCo3_ok, kCo4_ok, ev_comp2, kC2_ok, kC2e_ok, ns_non, clr_eq', kClr_t, iv_non, iv_val, cl_nil, cl_cons, kCl_b, kCl2_ok, kCl3_some, kComp_ok2, kCm_ok, pr_int_b, it_rng3, kI3_ok, kI3_ok', cp_in, cp_nin, isn_non, isn_tup, forL_nil, forL_cons, kFl_ok, kFb_nx, kFb_ct, kFb_bk, kFb_rt, sq_t, sq_l, kWhl_ok, kWb_nx, kWb_ct, kWb_bk, kWb_rt, lineN, cond_true, cond_false, Bool.cond_decide, Bool.not_true, Bool.not_false, Bool.and_true, Bool.true_and, Bool.and_false, Bool.false_and, Nat.zero_add, beq_self_eq_true, decide_true, decide_false, if_true, if_false, Bool.true_eq_false, Bool.false_eq_true, reduceIte, Nat.reduceAdd, Nat.reduceSub, Nat.reduceMul, Nat.reduceLeDiff, Nat.reduceBEq, Nat.reduceEqDiff, Int.reduceToNat, Int.reduceNeg, Nat.reduceLT, Nat.sub_self, u_b25, kI1_ok ro, e]
end Q16

set_option Elab.async false
set_option linter.all false
set_option maxRecDepth 100000
set_option maxHeartbeats 2000000
namespace Q16
open PySem PySem.Spec PyProof.Rows L2 Rf
set_option maxHeartbeats 0 in
theorem all_mk {P : Program} {w : World} {K : PySem.W.Frag} {h : Heap} {mg : Str → Option Value} {fa : Addr} {fuel : Nat} (hlaw : ∀ ns : List Int, ns.length ≤ 63 → ∃ outs, run T fuel 20 25 [.val (.frz (ns.map .int))] = .ok (.bl true) outs) (X : K.In h) (G : h.Ns mainGlobals mg) (hfa : mg "law" = some (.ref fa))
    {f0 : Addr} {od0 an0 : Option Addr} {sl0 : Array (Option Value)} {oc0 dv0 kV0 dc0 pm0 cd0 ct0 : Value}
    {f1 : Addr} {od1 an1 : Option Addr} {sl1 : Array (Option Value)} {oc1 dv1 kV1 dc1 pm1 cd1 ct1 : Value}
    {f2 : Addr} {od2 an2 : Option Addr} {sl2 : Array (Option Value)} {oc2 dv2 kV2 dc2 pm2 cd2 ct2 : Value}
    {f3 : Addr} {od3 an3 : Option Addr} {sl3 : Array (Option Value)} {oc3 dv3 kV3 dc3 pm3 cd3 ct3 : Value}
    {f4 : Addr} {od4 an4 : Option Addr} {sl4 : Array (Option Value)} {oc4 dv4 kV4 dc4 pm4 cd4 ct4 : Value}
    {f5 : Addr} {od5 an5 : Option Addr} {sl5 : Array (Option Value)} {oc5 dv5 kV5 dc5 pm5 cd5 ct5 : Value}
    {f6 : Addr} {od6 an6 : Option Addr} {sl6 : Array (Option Value)} {oc6 dv6 kV6 dc6 pm6 cd6 ct6 : Value}
    {f7 : Addr} {od7 an7 : Option Addr} {sl7 : Array (Option Value)} {oc7 dv7 kV7 dc7 pm7 cd7 ct7 : Value}
    {f8 : Addr} {od8 an8 : Option Addr} {sl8 : Array (Option Value)} {oc8 dv8 kV8 dc8 pm8 cd8 ct8 : Value}
    {f9 : Addr} {od9 an9 : Option Addr} {sl9 : Array (Option Value)} {oc9 dv9 kV9 dc9 pm9 cd9 ct9 : Value}
    {f10 : Addr} {od10 an10 : Option Addr} {sl10 : Array (Option Value)} {oc10 dv10 kV10 dc10 pm10 cd10 ct10 : Value}
    {f11 : Addr} {od11 an11 : Option Addr} {sl11 : Array (Option Value)} {oc11 dv11 kV11 dc11 pm11 cd11 ct11 : Value}
    {f12 : Addr} {od12 an12 : Option Addr} {sl12 : Array (Option Value)} {oc12 dv12 kV12 dc12 pm12 cd12 ct12 : Value}
    {f13 : Addr} {od13 an13 : Option Addr} {sl13 : Array (Option Value)} {oc13 dv13 kV13 dc13 pm13 cd13 ct13 : Value}
    {f14 : Addr} {od14 an14 : Option Addr} {sl14 : Array (Option Value)} {oc14 dv14 kV14 dc14 pm14 cd14 ct14 : Value}
    {f15 : Addr} {od15 an15 : Option Addr} {sl15 : Array (Option Value)} {oc15 dv15 kV15 dc15 pm15 cd15 ct15 : Value}
    {f16 : Addr} {od16 an16 : Option Addr} {sl16 : Array (Option Value)} {oc16 dv16 kV16 dc16 pm16 cd16 ct16 : Value}
    {f17 : Addr} {od17 an17 : Option Addr} {sl17 : Array (Option Value)} {oc17 dv17 kV17 dc17 pm17 cd17 ct17 : Value}
    {f18 : Addr} {od18 an18 : Option Addr} {sl18 : Array (Option Value)} {oc18 dv18 kV18 dc18 pm18 cd18 ct18 : Value}
    {f19 : Addr} {od19 an19 : Option Addr} {sl19 : Array (Option Value)} {oc19 dv19 kV19 dc19 pm19 cd19 ct19 : Value}
    {f20 : Addr} {od20 an20 : Option Addr} {sl20 : Array (Option Value)} {oc20 dv20 kV20 dc20 pm20 cd20 ct20 : Value}
    {f21 : Addr} {od21 an21 : Option Addr} {sl21 : Array (Option Value)} {oc21 dv21 kV21 dc21 pm21 cd21 ct21 : Value}
    {f22 : Addr} {od22 an22 : Option Addr} {sl22 : Array (Option Value)} {oc22 dv22 kV22 dc22 pm22 cd22 ct22 : Value}
    {f23 : Addr} {od23 an23 : Option Addr} {sl23 : Array (Option Value)} {oc23 dv23 kV23 dc23 pm23 cd23 ct23 : Value}
    {f24 : Addr} {od24 an24 : Option Addr} {sl24 : Array (Option Value)} {oc24 dv24 kV24 dc24 pm24 cd24 ct24 : Value}
    {f25 : Addr} {od25 an25 : Option Addr} {sl25 : Array (Option Value)} {oc25 dv25 kV25 dc25 pm25 cd25 ct25 : Value}
    {D0 : Addr}
    {t_NOUGHT : Addr} {o_NOUGHT : Obj} {i_NOUGHT : Array Value} {n_NOUGHT : Nat} {tk_NOUGHT_0 tk_NOUGHT_1 : Tok}
    (cm0 : PySem.W.nsIn K mainGlobals "Stretch" = some (some (.ref D0))) (pg0 : PySem.W.plainGet K D0 Str.empty = true) (hd0 : PySem.W.hasDictIn K D0 = true) (po0 : PySem.W.plainOver K D0 = true) (sa0 : PySem.W.findIn K (.ref D0) "__setattr__" = some (some (.builtin "object.__setattr__"))) (mk0 : PySem.W.makesIn K D0 = true) (kc0 : PySem.W.keepIn K (.ref D0) = true) (ha0 : PySem.W.findIn K (.ref D0) "__class__" = some (some (.builtin "object.__class__"))) (hn0 : PySem.W.specialIn K (.builtin "object.__class__") "__get__" = some (some (.builtin "getset_descriptor.__get__"))) (ht0 : PySem.W.takesIn K (.builtin "object.__class__") = some true) (hm0 : PySem.W.mroIn K D0 (.type "object") = some true) (tc0 : PySem.W.typeIn K (.ref D0) = some (.type "type")) (ic0 : PySem.W.isClsIn K D0 = true) (kt0_NoneType : PySem.W.subIn K (.type "NoneType") (.ref D0) = some false) (kt0_bool : PySem.W.subIn K (.type "bool") (.ref D0) = some false) (kt0_int : PySem.W.subIn K (.type "int") (.ref D0) = some false) (kt0_str : PySem.W.subIn K (.type "str") (.ref D0) = some false) (kt0_tuple : PySem.W.subIn K (.type "tuple") (.ref D0) = some false) (kt0_list : PySem.W.subIn K (.type "list") (.ref D0) = some false) (nf0_low : PySem.W.findIn K (.ref D0) "low" = some none) (nf0_high : PySem.W.findIn K (.ref D0) "high" = some none)
    (a0 : PySem.W.nsIn K mainGlobals "_law_take" = some (some (.ref f0))) (l0 : K.lookup f0 = some ⟨oc0, od0, .func (PySem.W.fnOf "_law_take" "_law_take" (defArgs s0) (defBody s0) (defScope s0) dv0 kV0 dc0 pm0 an0 cd0 ct0), sl0⟩) (c0 : PySem.W.codeIn K cd0 "_law_take" = true) (k0 : PySem.W.keepIn K (.ref f0) = true)
    (a1 : PySem.W.nsIn K mainGlobals "_law_odd" = some (some (.ref f1))) (l1 : K.lookup f1 = some ⟨oc1, od1, .func (PySem.W.fnOf "_law_odd" "_law_odd" (defArgs s1) (defBody s1) (defScope s1) dv1 kV1 dc1 pm1 an1 cd1 ct1), sl1⟩) (c1 : PySem.W.codeIn K cd1 "_law_odd" = true) (k1 : PySem.W.keepIn K (.ref f1) = true)
    (a2 : PySem.W.nsIn K mainGlobals "_law_number" = some (some (.ref f2))) (l2 : K.lookup f2 = some ⟨oc2, od2, .func (PySem.W.fnOf "_law_number" "_law_number" (defArgs s2) (defBody s2) (defScope s2) dv2 kV2 dc2 pm2 an2 cd2 ct2), sl2⟩) (c2 : PySem.W.codeIn K cd2 "_law_number" = true) (k2 : PySem.W.keepIn K (.ref f2) = true)
    (a3 : PySem.W.nsIn K mainGlobals "_law_at" = some (some (.ref f3))) (l3 : K.lookup f3 = some ⟨oc3, od3, .func (PySem.W.fnOf "_law_at" "_law_at" (defArgs s3) (defBody s3) (defScope s3) dv3 kV3 dc3 pm3 an3 cd3 ct3), sl3⟩) (c3 : PySem.W.codeIn K cd3 "_law_at" = true) (k3 : PySem.W.keepIn K (.ref f3) = true)
    (a4 : PySem.W.nsIn K mainGlobals "_law_compared" = some (some (.ref f4))) (l4 : K.lookup f4 = some ⟨oc4, od4, .func (PySem.W.fnOf "_law_compared" "_law_compared" (defArgs s4) (defBody s4) (defScope s4) dv4 kV4 dc4 pm4 an4 cd4 ct4), sl4⟩) (c4 : PySem.W.codeIn K cd4 "_law_compared" = true) (k4 : PySem.W.keepIn K (.ref f4) = true)
    (a5 : PySem.W.nsIn K mainGlobals "_law_pair" = some (some (.ref f5))) (l5 : K.lookup f5 = some ⟨oc5, od5, .func (PySem.W.fnOf "_law_pair" "_law_pair" (defArgs s5) (defBody s5) (defScope s5) dv5 kV5 dc5 pm5 an5 cd5 ct5), sl5⟩) (c5 : PySem.W.codeIn K cd5 "_law_pair" = true) (k5 : PySem.W.keepIn K (.ref f5) = true)
    (a6 : PySem.W.nsIn K mainGlobals "_law_mixed" = some (some (.ref f6))) (l6 : K.lookup f6 = some ⟨oc6, od6, .func (PySem.W.fnOf "_law_mixed" "_law_mixed" (defArgs s6) (defBody s6) (defScope s6) dv6 kV6 dc6 pm6 an6 cd6 ct6), sl6⟩) (c6 : PySem.W.codeIn K cd6 "_law_mixed" = true) (k6 : PySem.W.keepIn K (.ref f6) = true)
    (a7 : PySem.W.nsIn K mainGlobals "_law_cell" = some (some (.ref f7))) (l7 : K.lookup f7 = some ⟨oc7, od7, .func (PySem.W.fnOf "_law_cell" "_law_cell" (defArgs s7) (defBody s7) (defScope s7) dv7 kV7 dc7 pm7 an7 cd7 ct7), sl7⟩) (c7 : PySem.W.codeIn K cd7 "_law_cell" = true) (k7 : PySem.W.keepIn K (.ref f7) = true)
    (a8 : PySem.W.nsIn K mainGlobals "at_power" = some (some (.ref f8))) (l8 : K.lookup f8 = some ⟨oc8, od8, .func (PySem.W.fnOf "at_power" "at_power" (defArgs s8) (defBody s8) (defScope s8) dv8 kV8 dc8 pm8 an8 cd8 ct8), sl8⟩) (c8 : PySem.W.codeIn K cd8 "at_power" = true) (k8 : PySem.W.keepIn K (.ref f8) = true)
    (a9 : PySem.W.nsIn K mainGlobals "compared" = some (some (.ref f9))) (l9 : K.lookup f9 = some ⟨oc9, od9, .func (PySem.W.fnOf "compared" "compared" (defArgs s9) (defBody s9) (defScope s9) dv9 kV9 dc9 pm9 an9 cd9 ct9), sl9⟩) (c9 : PySem.W.codeIn K cd9 "compared" = true) (k9 : PySem.W.keepIn K (.ref f9) = true)
    (a10 : PySem.W.nsIn K mainGlobals "is_whole" = some (some (.ref f10))) (l10 : K.lookup f10 = some ⟨oc10, od10, .func (PySem.W.fnOf "is_whole" "is_whole" (defArgs s10) (defBody s10) (defScope s10) dv10 kV10 dc10 pm10 an10 cd10 ct10), sl10⟩) (c10 : PySem.W.codeIn K cd10 "is_whole" = true) (k10 : PySem.W.keepIn K (.ref f10) = true)
    (a11 : PySem.W.nsIn K mainGlobals "is_number" = some (some (.ref f11))) (l11 : K.lookup f11 = some ⟨oc11, od11, .func (PySem.W.fnOf "is_number" "is_number" (defArgs s11) (defBody s11) (defScope s11) dv11 kV11 dc11 pm11 an11 cd11 ct11), sl11⟩) (c11 : PySem.W.codeIn K cd11 "is_number" = true) (k11 : PySem.W.keepIn K (.ref f11) = true)
    (a12 : PySem.W.findIn K (.ref D0) "__init__" = some (some (.ref f12))) (i12 : PySem.W.isFn K (.ref f12) = true) (l12 : K.lookup f12 = some ⟨oc12, od12, .func (PySem.W.fnOf "__init__" "Stretch.__init__" (defArgs s12) (defBody s12) (defScope s12) dv12 kV12 dc12 pm12 an12 cd12 ct12), sl12⟩) (c12 : PySem.W.codeIn K cd12 "Stretch.__init__" = true) (k12 : PySem.W.keepIn K (.ref f12) = true)
    (a13 : PySem.W.nsIn K mainGlobals "_law_ends" = some (some (.ref f13))) (l13 : K.lookup f13 = some ⟨oc13, od13, .func (PySem.W.fnOf "_law_ends" "_law_ends" (defArgs s13) (defBody s13) (defScope s13) dv13 kV13 dc13 pm13 an13 cd13 ct13), sl13⟩) (c13 : PySem.W.codeIn K cd13 "_law_ends" = true) (k13 : PySem.W.keepIn K (.ref f13) = true)
    (a14 : PySem.W.nsIn K mainGlobals "_law_sum" = some (some (.ref f14))) (l14 : K.lookup f14 = some ⟨oc14, od14, .func (PySem.W.fnOf "_law_sum" "_law_sum" (defArgs s14) (defBody s14) (defScope s14) dv14 kV14 dc14 pm14 an14 cd14 ct14), sl14⟩) (c14 : PySem.W.codeIn K cd14 "_law_sum" = true) (k14 : PySem.W.keepIn K (.ref f14) = true)
    (a15 : PySem.W.nsIn K mainGlobals "look_at_stretch" = some (some (.ref f15))) (l15 : K.lookup f15 = some ⟨oc15, od15, .func (PySem.W.fnOf "look_at_stretch" "look_at_stretch" (defArgs s15) (defBody s15) (defScope s15) dv15 kV15 dc15 pm15 an15 cd15 ct15), sl15⟩) (c15 : PySem.W.codeIn K cd15 "look_at_stretch" = true) (k15 : PySem.W.keepIn K (.ref f15) = true)
    (a16 : PySem.W.nsIn K mainGlobals "dot" = some (some (.ref f16))) (l16 : K.lookup f16 = some ⟨oc16, od16, .func (PySem.W.fnOf "dot" "dot" (defArgs s16) (defBody s16) (defScope s16) dv16 kV16 dc16 pm16 an16 cd16 ct16), sl16⟩) (c16 : PySem.W.codeIn K cd16 "dot" = true) (k16 : PySem.W.keepIn K (.ref f16) = true)
    (a17 : PySem.W.nsIn K mainGlobals "added" = some (some (.ref f17))) (l17 : K.lookup f17 = some ⟨oc17, od17, .func (PySem.W.fnOf "added" "added" (defArgs s17) (defBody s17) (defScope s17) dv17 kV17 dc17 pm17 an17 cd17 ct17), sl17⟩) (c17 : PySem.W.codeIn K cd17 "added" = true) (k17 : PySem.W.keepIn K (.ref f17) = true)
    (a18 : PySem.W.nsIn K mainGlobals "sum_of" = some (some (.ref f18))) (l18 : K.lookup f18 = some ⟨oc18, od18, .func (PySem.W.fnOf "sum_of" "sum_of" (defArgs s18) (defBody s18) (defScope s18) dv18 kV18 dc18 pm18 an18 cd18 ct18), sl18⟩) (c18 : PySem.W.codeIn K cd18 "sum_of" = true) (k18 : PySem.W.keepIn K (.ref f18) = true)
    (a19 : PySem.W.nsIn K mainGlobals "_law_times" = some (some (.ref f19))) (l19 : K.lookup f19 = some ⟨oc19, od19, .func (PySem.W.fnOf "_law_times" "_law_times" (defArgs s19) (defBody s19) (defScope s19) dv19 kV19 dc19 pm19 an19 cd19 ct19), sl19⟩) (c19 : PySem.W.codeIn K cd19 "_law_times" = true) (k19 : PySem.W.keepIn K (.ref f19) = true)
    (a20 : PySem.W.nsIn K mainGlobals "product" = some (some (.ref f20))) (l20 : K.lookup f20 = some ⟨oc20, od20, .func (PySem.W.fnOf "product" "product" (defArgs s20) (defBody s20) (defScope s20) dv20 kV20 dc20 pm20 an20 cd20 ct20), sl20⟩) (c20 : PySem.W.codeIn K cd20 "product" = true) (k20 : PySem.W.keepIn K (.ref f20) = true)
    (a21 : PySem.W.nsIn K mainGlobals "least_of" = some (some (.ref f21))) (l21 : K.lookup f21 = some ⟨oc21, od21, .func (PySem.W.fnOf "least_of" "least_of" (defArgs s21) (defBody s21) (defScope s21) dv21 kV21 dc21 pm21 an21 cd21 ct21), sl21⟩) (c21 : PySem.W.codeIn K cd21 "least_of" = true) (k21 : PySem.W.keepIn K (.ref f21) = true)
    (a22 : PySem.W.nsIn K mainGlobals "minus" = some (some (.ref f22))) (l22 : K.lookup f22 = some ⟨oc22, od22, .func (PySem.W.fnOf "minus" "minus" (defArgs s22) (defBody s22) (defScope s22) dv22 kV22 dc22 pm22 an22 cd22 ct22), sl22⟩) (c22 : PySem.W.codeIn K cd22 "minus" = true) (k22 : PySem.W.keepIn K (.ref f22) = true)
    (a23 : PySem.W.nsIn K mainGlobals "product_of" = some (some (.ref f23))) (l23 : K.lookup f23 = some ⟨oc23, od23, .func (PySem.W.fnOf "product_of" "product_of" (defArgs s23) (defBody s23) (defScope s23) dv23 kV23 dc23 pm23 an23 cd23 ct23), sl23⟩) (c23 : PySem.W.codeIn K cd23 "product_of" = true) (k23 : PySem.W.keepIn K (.ref f23) = true)
    (a24 : PySem.W.nsIn K mainGlobals "_law_good" = some (some (.ref f24))) (l24 : K.lookup f24 = some ⟨oc24, od24, .func (PySem.W.fnOf "_law_good" "_law_good" (defArgs s24) (defBody s24) (defScope s24) dv24 kV24 dc24 pm24 an24 cd24 ct24), sl24⟩) (c24 : PySem.W.codeIn K cd24 "_law_good" = true) (k24 : PySem.W.keepIn K (.ref f24) = true)
    (a25 : PySem.W.nsIn K mainGlobals "law" = some (some (.ref f25))) (l25 : K.lookup f25 = some ⟨oc25, od25, .func (PySem.W.fnOf "law" "law" (defArgs s25) (defBody s25) (defScope s25) dv25 kV25 dc25 pm25 an25 cd25 ct25), sl25⟩) (c25 : PySem.W.codeIn K cd25 "law" = true) (k25 : PySem.W.keepIn K (.ref f25) = true)
    (z_int : PySem.W.nsIn K mainGlobals "int" = some none)
    (z_min : PySem.W.nsIn K mainGlobals "min" = some none)
    (z_range : PySem.W.nsIn K mainGlobals "range" = some none)
    (z_len : PySem.W.nsIn K mainGlobals "len" = some none)
    (z_isinstance : PySem.W.nsIn K mainGlobals "isinstance" = some none)
    (z_bool : PySem.W.nsIn K mainGlobals "bool" = some none)
    (z_tuple : PySem.W.nsIn K mainGlobals "tuple" = some none)
    (z_abs : PySem.W.nsIn K mainGlobals "abs" = some none)
    (g_NOUGHT : PySem.W.nsIn K mainGlobals "NOUGHT" = some (some (.ref t_NOUGHT))) (h_NOUGHT : K.lookup t_NOUGHT = some o_NOUGHT) (y_NOUGHT : o_NOUGHT.cls = .type "tuple") (q_NOUGHT : o_NOUGHT.data = .seq i_NOUGHT n_NOUGHT) (v_NOUGHT : i_NOUGHT.toList = [.int (0) tk_NOUGHT_0, .int (0) tk_NOUGHT_1])
    (dd0 : dv0 = .none)
    (dd1 : dv1 = .none)
    (dd2 : dv2 = .none)
    (dd3 : dv3 = .none)
    (dd4 : dv4 = .none)
    (dd5 : dv5 = .none)
    (dd6 : dv6 = .none)
    (dd7 : dv7 = .none)
    (dd8 : dv8 = .none)
    (dd9 : dv9 = .none)
    (dd10 : dv10 = .none)
    (dd11 : dv11 = .none)
    (dd12 : dv12 = .none)
    (dd13 : dv13 = .none)
    (dd14 : dv14 = .none)
    (dd15 : dv15 = .none)
    (dd16 : dv16 = .none)
    (dd17 : dv17 = .none)
    (dd18 : dv18 = .none)
    (dd19 : dv19 = .none)
    (dd20 : dv20 = .none)
    (dd21 : dv21 = .none)
    (dd22 : dv22 = .none)
    (dd23 : dv23 = .none)
    (dd24 : dv24 = .none)
    (dd25 : dv25 = .none) :
    ∃ fd : FuncData, (∀ (s : Shared) (v : Value), BindsTo s fd ⟨[v], []⟩ [("_law_script", v)]) ∧ ∀ base : Heap, K.In base → base.Ns mainGlobals mg → FnOk P w K mg base (L2N.CX P w) 40 fa fd ["_law_script"] (spLaw K) := by
  have e := hfa.symm.trans (PySem.W.mg_of X G a25)
  cases e
  have F0 : FunD K "_law_take" "_law_take" (defArgs s0) (defBody s0) (defScope s0) [] [] f0 _ := ⟨⟨oc0, od0, dv0, kV0, dc0, pm0, an0, cd0, ct0, sl0, rfl, l0, c0, .inl ⟨rfl, dd0⟩, .inl rfl⟩, k0⟩
  have F1 : FunD K "_law_odd" "_law_odd" (defArgs s1) (defBody s1) (defScope s1) [] [] f1 _ := ⟨⟨oc1, od1, dv1, kV1, dc1, pm1, an1, cd1, ct1, sl1, rfl, l1, c1, .inl ⟨rfl, dd1⟩, .inl rfl⟩, k1⟩
  have F2 : FunD K "_law_number" "_law_number" (defArgs s2) (defBody s2) (defScope s2) [] [] f2 _ := ⟨⟨oc2, od2, dv2, kV2, dc2, pm2, an2, cd2, ct2, sl2, rfl, l2, c2, .inl ⟨rfl, dd2⟩, .inl rfl⟩, k2⟩
  have F3 : FunD K "_law_at" "_law_at" (defArgs s3) (defBody s3) (defScope s3) [] [] f3 _ := ⟨⟨oc3, od3, dv3, kV3, dc3, pm3, an3, cd3, ct3, sl3, rfl, l3, c3, .inl ⟨rfl, dd3⟩, .inl rfl⟩, k3⟩
  have F4 : FunD K "_law_compared" "_law_compared" (defArgs s4) (defBody s4) (defScope s4) [] [] f4 _ := ⟨⟨oc4, od4, dv4, kV4, dc4, pm4, an4, cd4, ct4, sl4, rfl, l4, c4, .inl ⟨rfl, dd4⟩, .inl rfl⟩, k4⟩
  have F5 : FunD K "_law_pair" "_law_pair" (defArgs s5) (defBody s5) (defScope s5) [] [] f5 _ := ⟨⟨oc5, od5, dv5, kV5, dc5, pm5, an5, cd5, ct5, sl5, rfl, l5, c5, .inl ⟨rfl, dd5⟩, .inl rfl⟩, k5⟩
  have F6 : FunD K "_law_mixed" "_law_mixed" (defArgs s6) (defBody s6) (defScope s6) [] [] f6 _ := ⟨⟨oc6, od6, dv6, kV6, dc6, pm6, an6, cd6, ct6, sl6, rfl, l6, c6, .inl ⟨rfl, dd6⟩, .inl rfl⟩, k6⟩
  have F7 : FunD K "_law_cell" "_law_cell" (defArgs s7) (defBody s7) (defScope s7) [] [] f7 _ := ⟨⟨oc7, od7, dv7, kV7, dc7, pm7, an7, cd7, ct7, sl7, rfl, l7, c7, .inl ⟨rfl, dd7⟩, .inl rfl⟩, k7⟩
  have F8 : FunD K "at_power" "at_power" (defArgs s8) (defBody s8) (defScope s8) [] [] f8 _ := ⟨⟨oc8, od8, dv8, kV8, dc8, pm8, an8, cd8, ct8, sl8, rfl, l8, c8, .inl ⟨rfl, dd8⟩, .inl rfl⟩, k8⟩
  have F9 : FunD K "compared" "compared" (defArgs s9) (defBody s9) (defScope s9) [] [] f9 _ := ⟨⟨oc9, od9, dv9, kV9, dc9, pm9, an9, cd9, ct9, sl9, rfl, l9, c9, .inl ⟨rfl, dd9⟩, .inl rfl⟩, k9⟩
  have F10 : FunD K "is_whole" "is_whole" (defArgs s10) (defBody s10) (defScope s10) [] [] f10 _ := ⟨⟨oc10, od10, dv10, kV10, dc10, pm10, an10, cd10, ct10, sl10, rfl, l10, c10, .inl ⟨rfl, dd10⟩, .inl rfl⟩, k10⟩
  have F11 : FunD K "is_number" "is_number" (defArgs s11) (defBody s11) (defScope s11) [] [] f11 _ := ⟨⟨oc11, od11, dv11, kV11, dc11, pm11, an11, cd11, ct11, sl11, rfl, l11, c11, .inl ⟨rfl, dd11⟩, .inl rfl⟩, k11⟩
  have F12 : FunD K "__init__" "Stretch.__init__" (defArgs s12) (defBody s12) (defScope s12) [] [] f12 _ := ⟨⟨oc12, od12, dv12, kV12, dc12, pm12, an12, cd12, ct12, sl12, rfl, l12, c12, .inl ⟨rfl, dd12⟩, .inl rfl⟩, k12⟩
  have F13 : FunD K "_law_ends" "_law_ends" (defArgs s13) (defBody s13) (defScope s13) [] [] f13 _ := ⟨⟨oc13, od13, dv13, kV13, dc13, pm13, an13, cd13, ct13, sl13, rfl, l13, c13, .inl ⟨rfl, dd13⟩, .inl rfl⟩, k13⟩
  have F14 : FunD K "_law_sum" "_law_sum" (defArgs s14) (defBody s14) (defScope s14) [] [] f14 _ := ⟨⟨oc14, od14, dv14, kV14, dc14, pm14, an14, cd14, ct14, sl14, rfl, l14, c14, .inl ⟨rfl, dd14⟩, .inl rfl⟩, k14⟩
  have F15 : FunD K "look_at_stretch" "look_at_stretch" (defArgs s15) (defBody s15) (defScope s15) [] [] f15 _ := ⟨⟨oc15, od15, dv15, kV15, dc15, pm15, an15, cd15, ct15, sl15, rfl, l15, c15, .inl ⟨rfl, dd15⟩, .inl rfl⟩, k15⟩
  have F16 : FunD K "dot" "dot" (defArgs s16) (defBody s16) (defScope s16) [] [] f16 _ := ⟨⟨oc16, od16, dv16, kV16, dc16, pm16, an16, cd16, ct16, sl16, rfl, l16, c16, .inl ⟨rfl, dd16⟩, .inl rfl⟩, k16⟩
  have F17 : FunD K "added" "added" (defArgs s17) (defBody s17) (defScope s17) [] [] f17 _ := ⟨⟨oc17, od17, dv17, kV17, dc17, pm17, an17, cd17, ct17, sl17, rfl, l17, c17, .inl ⟨rfl, dd17⟩, .inl rfl⟩, k17⟩
  have F18 : FunD K "sum_of" "sum_of" (defArgs s18) (defBody s18) (defScope s18) [] [] f18 _ := ⟨⟨oc18, od18, dv18, kV18, dc18, pm18, an18, cd18, ct18, sl18, rfl, l18, c18, .inl ⟨rfl, dd18⟩, .inl rfl⟩, k18⟩
  have F19 : FunD K "_law_times" "_law_times" (defArgs s19) (defBody s19) (defScope s19) [] [] f19 _ := ⟨⟨oc19, od19, dv19, kV19, dc19, pm19, an19, cd19, ct19, sl19, rfl, l19, c19, .inl ⟨rfl, dd19⟩, .inl rfl⟩, k19⟩
  have F20 : FunD K "product" "product" (defArgs s20) (defBody s20) (defScope s20) [] [] f20 _ := ⟨⟨oc20, od20, dv20, kV20, dc20, pm20, an20, cd20, ct20, sl20, rfl, l20, c20, .inl ⟨rfl, dd20⟩, .inl rfl⟩, k20⟩
  have F21 : FunD K "least_of" "least_of" (defArgs s21) (defBody s21) (defScope s21) [] [] f21 _ := ⟨⟨oc21, od21, dv21, kV21, dc21, pm21, an21, cd21, ct21, sl21, rfl, l21, c21, .inl ⟨rfl, dd21⟩, .inl rfl⟩, k21⟩
  have F22 : FunD K "minus" "minus" (defArgs s22) (defBody s22) (defScope s22) [] [] f22 _ := ⟨⟨oc22, od22, dv22, kV22, dc22, pm22, an22, cd22, ct22, sl22, rfl, l22, c22, .inl ⟨rfl, dd22⟩, .inl rfl⟩, k22⟩
  have F23 : FunD K "product_of" "product_of" (defArgs s23) (defBody s23) (defScope s23) [] [] f23 _ := ⟨⟨oc23, od23, dv23, kV23, dc23, pm23, an23, cd23, ct23, sl23, rfl, l23, c23, .inl ⟨rfl, dd23⟩, .inl rfl⟩, k23⟩
  have F24 : FunD K "_law_good" "_law_good" (defArgs s24) (defBody s24) (defScope s24) [] [] f24 _ := ⟨⟨oc24, od24, dv24, kV24, dc24, pm24, an24, cd24, ct24, sl24, rfl, l24, c24, .inl ⟨rfl, dd24⟩, .inl rfl⟩, k24⟩
  have F25 : FunD K "law" "law" (defArgs s25) (defBody s25) (defScope s25) [] [] fa _ := ⟨⟨oc25, od25, dv25, kV25, dc25, pm25, an25, cd25, ct25, sl25, rfl, l25, c25, .inl ⟨rfl, dd25⟩, .inl rfl⟩, k25⟩
  let ci : CI := ⟨fun c => match c with | 0 => D0 | _ => 0, fun c => match c with | 0 => ["low", "high"] | _ => []⟩
  have K0 : ClsOk K mg ci "Stretch" 0 ["low", "high"] := ⟨rfl, by decide +kernel, PySem.W.mg_of X G cm0, ⟨pg0, hd0, po0, sa0⟩, alls_cons nf0_low (alls_cons nf0_high (alls_nil)), ha0, hn0, ht0, hm0, kit_self, fun d hd => by cases d <;> first | exact absurd rfl (hd _ _) | exact kit_oth ic0 tc0 (by first | exact kt0_NoneType | exact kt0_bool | exact kt0_int | exact kt0_str | exact kt0_tuple | exact kt0_list)⟩
  have Z : Zs K mg ci := ⟨PySem.W.mg_none_of X G z_int, PySem.W.mg_none_of X G z_min, PySem.W.mg_none_of X G z_range, PySem.W.mg_none_of X G z_len, PySem.W.mg_none_of X G z_isinstance, PySem.W.mg_none_of X G z_bool, PySem.W.mg_none_of X G z_tuple, PySem.W.mg_none_of X G z_abs, ⟨.ref t_NOUGHT, _, PySem.W.mg_of X G g_NOUGHT, rfl, fun H => .tup (.inr ⟨o_NOUGHT, i_NOUGHT, n_NOUGHT, h_NOUGHT, y_NOUGHT, q_NOUGHT, by rw [← Array.length_toList, v_NOUGHT]; rw [sizeLine_eq]; exact (by decide : (2 : Nat) ≤ 16777216), by rw [v_NOUGHT]; exact .cons ⟨_, rfl⟩ (.cons ⟨_, rfl⟩ (.nil))⟩) (.cons (.int _) (.cons (.int _) (.nil)))⟩⟩
  refine ⟨PySem.W.fnOf "law" "law" (defArgs s25) (defBody s25) (defScope s25) dv25 kV25 dc25 pm25 an25 cd25 ct25, fun s v => ?h1, fun base _ _ => ?h2⟩
  case h2 =>
    have C0 : Cal P w K mg base ci T fuel "_law_take" 0 ["_law_pile", "_law_size"] (defArgs s0) (defBody s0) (defScope s0) [] := ⟨f0, _, PySem.W.mg_of X G a0, F0, w0 Z  F0⟩
    have C1 : Cal P w K mg base ci T fuel "_law_odd" 1 ["_law_m", "_law_e"] (defArgs s1) (defBody s1) (defScope s1) [] := ⟨f1, _, PySem.W.mg_of X G a1, F1, w1 Z  F1⟩
    have C2 : Cal P w K mg base ci T fuel "_law_number" 2 ["_law_pile"] (defArgs s2) (defBody s2) (defScope s2) [] := ⟨f2, _, PySem.W.mg_of X G a2, F2, w2 Z C1 C0 F2⟩
    have C3 : Cal P w K mg base ci T fuel "_law_at" 3 ["_law_number_here", "_law_e"] (defArgs s3) (defBody s3) (defScope s3) [] := ⟨f3, _, PySem.W.mg_of X G a3, F3, w3 Z  F3⟩
    have C4 : Cal P w K mg base ci T fuel "_law_compared" 4 ["_law_one_own", "_law_other_own"] (defArgs s4) (defBody s4) (defScope s4) [] := ⟨f4, _, PySem.W.mg_of X G a4, F4, w4 Z C3 F4⟩
    have C5 : Cal P w K mg base ci T fuel "_law_pair" 5 ["_law_pile"] (defArgs s5) (defBody s5) (defScope s5) [] := ⟨f5, _, PySem.W.mg_of X G a5, F5, w5 Z C4 C0 C1 C2 F5⟩
    have C6 : Cal P w K mg base ci T fuel "_law_mixed" 6 ["_law_cell_here", "_law_k"] (defArgs s6) (defBody s6) (defScope s6) [] := ⟨f6, _, PySem.W.mg_of X G a6, F6, w6 Z  F6⟩
    have C7 : Cal P w K mg base ci T fuel "_law_cell" 7 ["_law_script", "_law_k"] (defArgs s7) (defBody s7) (defScope s7) [] := ⟨f7, _, PySem.W.mg_of X G a7, F7, w7 Z C6 F7⟩
    have C8 : Cal P w K mg base ci T fuel "at_power" 8 ["number", "e"] (defArgs s8) (defBody s8) (defScope s8) [] := ⟨f8, _, PySem.W.mg_of X G a8, F8, w8 Z  F8⟩
    have C9 : Cal P w K mg base ci T fuel "compared" 9 ["one", "other"] (defArgs s9) (defBody s9) (defScope s9) [] := ⟨f9, _, PySem.W.mg_of X G a9, F9, w9 Z C8 F9⟩
    have C10 : Cal P w K mg base ci T fuel "is_whole" 10 ["thing"] (defArgs s10) (defBody s10) (defScope s10) [] := ⟨f10, _, PySem.W.mg_of X G a10, F10, w10 Z  F10⟩
    have C11 : Cal P w K mg base ci T fuel "is_number" 11 ["thing"] (defArgs s11) (defBody s11) (defScope s11) [] := ⟨f11, _, PySem.W.mg_of X G a11, F11, w11 Z C10 F11⟩
    have C12 : MkC P w K mg base ci T fuel 0 12 2 ["self", "low", "high"] := ⟨f12, _, ⟨mk0, a12, i12, kc0⟩, F12.bindsN (ps := ["self", "low", "high"]) (fun _ _ _ _ _ _ us hl => match us, hl with | [_, _, _], _ => rfl), w12 (ci := ci) Z K0 C11 C9 F12⟩
    have C13 : Cal P w K mg base ci T fuel "_law_ends" 13 ["_law_some"] (defArgs s13) (defBody s13) (defScope s13) [] := ⟨f13, _, PySem.W.mg_of X G a13, F13, w13 Z C4 F13⟩
    have C14 : Cal P w K mg base ci T fuel "_law_sum" 14 ["_law_one_own", "_law_other_own", "_law_sign"] (defArgs s14) (defBody s14) (defScope s14) [] := ⟨f14, _, PySem.W.mg_of X G a14, F14, w14 Z C1 C3 F14⟩
    have C15 : Cal P w K mg base ci T fuel "look_at_stretch" 15 ["thing"] (defArgs s15) (defBody s15) (defScope s15) [] := ⟨f15, _, PySem.W.mg_of X G a15, F15, w15 Z K0 F15⟩
    have C16 : Cal P w K mg base ci T fuel "dot" 16 ["m", "e"] (defArgs s16) (defBody s16) (defScope s16) [] := ⟨f16, _, PySem.W.mg_of X G a16, F16, w16 Z  F16⟩
    have C17 : Cal P w K mg base ci T fuel "added" 17 ["one", "other"] (defArgs s17) (defBody s17) (defScope s17) [] := ⟨f17, _, PySem.W.mg_of X G a17, F17, w17 Z C16 C8 F17⟩
    have C18 : Cal P w K mg base ci T fuel "sum_of" 18 ["one", "other"] (defArgs s18) (defBody s18) (defScope s18) [] := ⟨f18, _, PySem.W.mg_of X G a18, F18, w18 Z K0 C12 C17 C15 F18⟩
    have C19 : Cal P w K mg base ci T fuel "_law_times" 19 ["_law_one_own", "_law_other_own"] (defArgs s19) (defBody s19) (defScope s19) [] := ⟨f19, _, PySem.W.mg_of X G a19, F19, w19 Z C1 F19⟩
    have C20 : Cal P w K mg base ci T fuel "product" 20 ["one", "other"] (defArgs s20) (defBody s20) (defScope s20) [] := ⟨f20, _, PySem.W.mg_of X G a20, F20, w20 Z C16 F20⟩
    have C21 : Cal P w K mg base ci T fuel "least_of" 21 ["some"] (defArgs s21) (defBody s21) (defScope s21) [] := ⟨f21, _, PySem.W.mg_of X G a21, F21, w21 Z C9 F21⟩
    have C22 : Cal P w K mg base ci T fuel "minus" 22 ["one"] (defArgs s22) (defBody s22) (defScope s22) [] := ⟨f22, _, PySem.W.mg_of X G a22, F22, w22 Z  F22⟩
    have C23 : Cal P w K mg base ci T fuel "product_of" 23 ["one", "other"] (defArgs s23) (defBody s23) (defScope s23) [] := ⟨f23, _, PySem.W.mg_of X G a23, F23, w23 Z K0 C12 C22 C21 C20 C15 F23⟩
    have C24 : Cal P w K mg base ci T fuel "_law_good" 24 ["_law_one_own", "_law_other_own"] (defArgs s24) (defBody s24) (defScope s24) [] := ⟨f24, _, PySem.W.mg_of X G a24, F24, w24 Z K0 C23 C13 C19 C18 C14 C12 F24⟩
    exact law_imp hlaw (w25 (ci := ci) Z C24 C5 C7 F25)
  case h1 => rw [dd25]; exact .of_eq rfl
end Q16
open PySem PySem.W PyProof.Rows
set_option maxHeartbeats 0 in
theorem PySem.Challenge.cw_oncenear_k16_sums_and_products_of_stretc_holds : PySem.Challenge.rw_oncenear_k16_sums_and_products_of_stretc.Holds := by
  w_on; o_law; k_head; (case hw => w_witness2)
  k_fill
  refine L2.walk_of (l := PySem.Challenge.rw_oncenear_k16_sums_and_products_of_stretc) (n := 63) (k := 40) (x := "_law_script") (CX := fun w => L2N.CX PySem.Challenge.rw_oncenear_k16_sums_and_products_of_stretc.prog w) (sp := fun w => Q16.spLaw _) rfl (by decide) rfl ⟨rfl, by decide, by decide⟩ (fun w h Y => PySem.W.kIn_of Y) ?F (fun _ _ a ns hl _ hS => ⟨a, ns, rfl, hS, hl, fun _ => rfl⟩) (fun _ _ _ _ _ h => ?hCX)
  case hCX =>
    obtain ⟨_, _, _, _, _, _, _, _, _, _, _, _, z⟩ := h
    exact z
  case F =>
    intro w mg fa h KX G hmg
    refine' Q16.all_mk (fuel := Q16.FUEL) Q16.law_holds KX G hmg ?cm0 ?pg0 ?hd0 ?po0 ?sa0 ?mk0 ?kc0 ?ha0 ?hn0 ?ht0 ?hm0 ?tc0 ?ic0 ?kt0_NoneType ?kt0_bool ?kt0_int ?kt0_str ?kt0_tuple ?kt0_list ?nf0_low ?nf0_high ?a0 ?l0 ?c0 ?k0 ?a1 ?l1 ?c1 ?k1 ?a2 ?l2 ?c2 ?k2 ?a3 ?l3 ?c3 ?k3 ?a4 ?l4 ?c4 ?k4 ?a5 ?l5 ?c5 ?k5 ?a6 ?l6 ?c6 ?k6 ?a7 ?l7 ?c7 ?k7 ?a8 ?l8 ?c8 ?k8 ?a9 ?l9 ?c9 ?k9 ?a10 ?l10 ?c10 ?k10 ?a11 ?l11 ?c11 ?k11 ?a12 ?i12 ?l12 ?c12 ?k12 ?a13 ?l13 ?c13 ?k13 ?a14 ?l14 ?c14 ?k14 ?a15 ?l15 ?c15 ?k15 ?a16 ?l16 ?c16 ?k16 ?a17 ?l17 ?c17 ?k17 ?a18 ?l18 ?c18 ?k18 ?a19 ?l19 ?c19 ?k19 ?a20 ?l20 ?c20 ?k20 ?a21 ?l21 ?c21 ?k21 ?a22 ?l22 ?c22 ?k22 ?a23 ?l23 ?c23 ?k23 ?a24 ?l24 ?c24 ?k24 ?a25 ?l25 ?c25 ?k25 ?z_int ?z_min ?z_range ?z_len ?z_isinstance ?z_bool ?z_tuple ?z_abs ?g_NOUGHT ?h_NOUGHT ?y_NOUGHT ?q_NOUGHT ?v_NOUGHT ?dd0 ?dd1 ?dd2 ?dd3 ?dd4 ?dd5 ?dd6 ?dd7 ?dd8 ?dd9 ?dd10 ?dd11 ?dd12 ?dd13 ?dd14 ?dd15 ?dd16 ?dd17 ?dd18 ?dd19 ?dd20 ?dd21 ?dd22 ?dd23 ?dd24 ?dd25
    (case cm0 => k_is); (case pg0 => k_is); (case hd0 => k_is); (case po0 => k_is); (case sa0 => k_is); (case mk0 => k_is); (case kc0 => k_is); (case ha0 => k_is); (case hn0 => k_is); (case ht0 => k_is); (case hm0 => k_is); (case tc0 => k_is); (case ic0 => k_is); (case kt0_NoneType => k_is); (case kt0_bool => k_is); (case kt0_int => k_is); (case kt0_str => k_is); (case kt0_tuple => k_is); (case kt0_list => k_is); (case nf0_low => k_is); (case nf0_high => k_is); (case a0 => k_is); (case l0 => k_is); (case c0 => k_is); (case k0 => k_is); (case a1 => k_is); (case l1 => k_is); (case c1 => k_is); (case k1 => k_is); (case a2 => k_is); (case l2 => k_is); (case c2 => k_is); (case k2 => k_is); (case a3 => k_is); (case l3 => k_is); (case c3 => k_is); (case k3 => k_is); (case a4 => k_is); (case l4 => k_is); (case c4 => k_is); (case k4 => k_is); (case a5 => k_is); (case l5 => k_is); (case c5 => k_is); (case k5 => k_is); (case a6 => k_is); (case l6 => k_is); (case c6 => k_is); (case k6 => k_is); (case a7 => k_is); (case l7 => k_is); (case c7 => k_is); (case k7 => k_is); (case a8 => k_is); (case l8 => k_is); (case c8 => k_is); (case k8 => k_is); (case a9 => k_is); (case l9 => k_is); (case c9 => k_is); (case k9 => k_is); (case a10 => k_is); (case l10 => k_is); (case c10 => k_is); (case k10 => k_is); (case a11 => k_is); (case l11 => k_is); (case c11 => k_is); (case k11 => k_is); (case a12 => k_is); (case i12 => k_is); (case l12 => k_is); (case c12 => k_is); (case k12 => k_is); (case a13 => k_is); (case l13 => k_is); (case c13 => k_is); (case k13 => k_is); (case a14 => k_is); (case l14 => k_is); (case c14 => k_is); (case k14 => k_is); (case a15 => k_is); (case l15 => k_is); (case c15 => k_is); (case k15 => k_is); (case a16 => k_is); (case l16 => k_is); (case c16 => k_is); (case k16 => k_is); (case a17 => k_is); (case l17 => k_is); (case c17 => k_is); (case k17 => k_is); (case a18 => k_is); (case l18 => k_is); (case c18 => k_is); (case k18 => k_is); (case a19 => k_is); (case l19 => k_is); (case c19 => k_is); (case k19 => k_is); (case a20 => k_is); (case l20 => k_is); (case c20 => k_is); (case k20 => k_is); (case a21 => k_is); (case l21 => k_is); (case c21 => k_is); (case k21 => k_is); (case a22 => k_is); (case l22 => k_is); (case c22 => k_is); (case k22 => k_is); (case a23 => k_is); (case l23 => k_is); (case c23 => k_is); (case k23 => k_is); (case a24 => k_is); (case l24 => k_is); (case c24 => k_is); (case k24 => k_is); (case a25 => k_is); (case l25 => k_is); (case c25 => k_is); (case k25 => k_is); (case z_int => k_is); (case z_min => k_is); (case z_range => k_is); (case z_len => k_is); (case z_isinstance => k_is); (case z_bool => k_is); (case z_tuple => k_is); (case z_abs => k_is); (case g_NOUGHT => k_is); (case h_NOUGHT => k_is); (case y_NOUGHT => rfl); (case q_NOUGHT => rfl); (case v_NOUGHT => rfl); (case dd0 => rfl); (case dd1 => rfl); (case dd2 => rfl); (case dd3 => rfl); (case dd4 => rfl); (case dd5 => rfl); (case dd6 => rfl); (case dd7 => rfl); (case dd8 => rfl); (case dd9 => rfl); (case dd10 => rfl); (case dd11 => rfl); (case dd12 => rfl); (case dd13 => rfl); (case dd14 => rfl); (case dd15 => rfl); (case dd16 => rfl); (case dd17 => rfl); (case dd18 => rfl); (case dd19 => rfl); (case dd20 => rfl); (case dd21 => rfl); (case dd22 => rfl); (case dd23 => rfl); (case dd24 => rfl); (case dd25 => rfl)

