import PyProof.Rows.All
import HandS.CallLocal
import HandS.Codes
import HandS.Comp
import HandS.Conv
import HandS.Defaults
import HandS.EndBits
import HandS.Ends
import HandS.Flow
import HandS.ForMost
import HandS.Head2
import HandS.HeadEnd
import HandS.HeadHook1
import HandS.HeadHook2
import HandS.IsInst
import HandS.More
import HandS.RaiseMore
import HandS.Star
import HandS.Style
import HandS.Text
import HandS.TryOnly
import HandS.TupAny
import HandS.Wide
import HandS.WideBits
import HandS.Zip
import OpenK.AllK
import PyProof.FitsInt
import PyProof.ReprLen
import PySem.Challenge.RW_crossingstold_k08_whole_since_and_lasts
import Wide.All
import Wide.FinOn

set_option Elab.async false
set_option linter.all false
/-! Ir: values D, the small language (E, C), its evaluation. -/
namespace Pv
open PySem

/-- pure values; fz: a list that is read alone (the script); ref: a list that is changed in place (a place of the store); fn: a def -/
inductive D where
  | non
  | bl (b : Bool)
  | int (i : Int)
  | str (s : Str)
  | tup (xs : List D)
  | lst (xs : List D)
  | fz (xs : List D)
  | ref (n : Nat)
  | fn (j : Nat)

abbrev Sto := List (List D)
abbrev Slot := Option (Bool × D)
abbrev Rho := List Slot

/-- targets -/
inductive Tg where
  | nm (i : Nat)
  | tp (ts : List Tg)

inductive Bi where
  | abs | len | all | any | tuple | list | sum | max2 | min2 | int | repr | isInt | isBool | isTuple | isStr
  deriving DecidableEq

inductive E where
  | cst (d : D)
  | var (i : Nat)
  | bor (i : Nat)
  | glb (j : Nat)
  | fnv (j : Nat)
  | bin (op : Operator) (a b : E)
  | neg (a : E)
  | not (a : E)
  | and (a b : E)
  | or (a b : E)
  | cmp (op : CmpOp) (a b : E)
  | chn (op op2 : CmpOp) (a b c : E)
  | ite (c a b : E)
  | tup (es : List E)
  | lst (es : List E)
  | box (es : List E)
  | star (e : E)
  | idx (a i : E)
  | slc (a : E) (lo hi : Option E)
  | rev (a : E)
  | call (f : Nat) (es : List E)
  | callk (q : Nat) (es ks : List E)
  | callv (f : E) (es : List E)
  | bi (b : Bi) (es : List E)
  | bits (a : E)
  | cmpr (own : List Nat) (tg : Tg) (it : E) (ifs : List E) (elt : E)
  | rng (es : List E)
  | zip (a b : E)
  | enu (a : E)

inductive C where
  | set (i : Nat) (e : E)
  | own (i : Nat) (e : E)
  | unp (tg : Tg) (e : E)
  | par (is : List Nat) (es : List E)
  | put (a i e : E)
  | aug (i : Nat) (op : Operator) (e : E)
  | exp (e : E)
  | app (i : Nat) (e : E)
  | ext (i : Nat) (e : E)
  | ins (i : Nat) (a b : E)
  | par2 (i : Nat) (a : Bool) (e : E) (j : Nat) (b : Bool) (f : E)
  | puto (i : Nat) (k e : E)
  | insr (i : Nat) (a b : E)
  | lnd (i : Nat) (f : Nat) (es : List E)
  | apop (i j : Nat) (e : E)
  | spop (tg : Tg) (j : Nat)
  | ite (c : E) (a b : List C)
  | for_ (tg : Tg) (it : E) (b : List C)
  | whl (c : E) (b : List C)
  | ret (e : E)
  | pas
  | brk
  | cnt
  | bad
  | frz (is : List Nat) (c : C)

structure Fn where
  name : Str
  N : List Str
  np : Nat
  body : List C
  /-- the def's own name, where it stands under another one -/
  own : Str := name

/-- a form of call with keywords: the def's number, how many by position, the names, for each parameter where its value stands -/
structure Kwf where
  f : Nat
  n : Nat
  ks : List Str
  perm : List Nat
structure Prg where
  fns : List Fn
  csts : List (Str × D)
  kws : List Kwf

/-! ### operations on values -/
mutual
def D.py : D → Option PyData
  | .non => some .none
  | .bl b => some (.bool b)
  | .int i => some (.int i)
  | .str s => some (.str s)
  | .tup xs => (pys xs).map .tuple
  | .lst xs => (pys xs).map .list
  | .fz _ => none
  | .ref _ => none
  | .fn _ => none
def pys : List D → Option (List PyData)
  | [] => some []
  | x :: xs => (D.py x).bind fun y => (pys xs).map fun ys => y :: ys
end
mutual
/-- no place of the store in it -/
def D.pure : D → Bool
  | .tup xs => pures xs
  | .lst xs => pures xs
  | .fz xs => pures xs
  | .ref _ => false
  | _ => true
def pures : List D → Bool
  | [] => true
  | x :: xs => D.pure x && pures xs
end

mutual
def eqD : D → D → Bool
  | .non, .non => true
  | .bl a, .bl b => a == b
  | .bl a, .int b => decide ((if a then 1 else 0) = b)
  | .int a, .bl b => decide (a = (if b then 1 else 0))
  | .int a, .int b => decide (a = b)
  | .str a, .str b => decide (a = b)
  | .tup xs, .tup ys => eqDs xs ys
  | .lst xs, .lst ys => eqDs xs ys
  | _, _ => false
def eqDs : List D → List D → Bool
  | [], [] => true
  | x :: xs, y :: ys => eqD x y && eqDs xs ys
  | _, _ => false
end

/-- none, bools, ints, texts -/
def D.flat : D → Bool
  | .non => true
  | .bl _ => true
  | .int _ => true
  | .str _ => true
  | _ => false

def szMul (i j : Int) : Bool := decide (i.natAbs.log2 + j.natAbs.log2 < 1000000)
def szDiv (j : Int) : Bool := decide (j ≠ 0) && decide (j.natAbs.log2 < 9000)
def szPow (i j : Int) : Bool := decide (0 ≤ j) && decide (j ≤ 1000) && decide (i.natAbs.log2 < 100000)
def szShl (i j : Int) : Bool := decide (0 ≤ j) && decide (j ≤ 1000000) && decide (i.natAbs.log2 < 1000000)

def binD : Operator → D → D → Option D
  | .Add, .int i, .int j => some (.int (i + j))
  | .Sub, .int i, .int j => some (.int (i - j))
  | .Mult, .int i, .int j => if szMul i j then some (.int (i * j)) else none
  | .FloorDiv, .int i, .int j => if szDiv j then some (.int (i.fdiv j)) else none
  | .Mod, .int i, .int j => if j = 0 then none else some (.int (i.fmod j))
  | .Pow, .int i, .int j => if szPow i j then some (.int (i ^ j.toNat)) else none
  | .LShift, .int i, .int j => if szShl i j then some (.int (i * 2 ^ j.toNat)) else none
  | .Add, .tup xs, .tup ys => if xs.length + ys.length ≤ 100000 then some (.tup (xs ++ ys)) else none
  | .Add, .lst xs, .lst ys => if xs.length + ys.length ≤ 100000 then some (.lst (xs ++ ys)) else none
  | .Add, .str xs, .str ys => if xs.length + ys.length ≤ 100000 then some (.str (xs ++ ys)) else none
  | _, _, _ => none

def isNon : D → Bool
  | .non => true
  | _ => false
def inD (x : D) (ys : List D) : Bool := ys.any fun y => eqD y x
def okPy (d : D) : Bool := match d.py with
  | some p => SeqAt.shaped p
  | none => false
def oneOf (x : Str) : Option Nat := match x.cps.toList with
  | [c] => some c
  | _ => none
def cmpD : CmpOp → D → D → Option Bool
  | .Lt, .int i, .int j => some (decide (i < j))
  | .LtE, .int i, .int j => some (decide (i ≤ j))
  | .Gt, .int i, .int j => some (decide (j < i))
  | .GtE, .int i, .int j => some (decide (j ≤ i))
  | .Eq, .int i, .int j => some (decide (i = j))
  | .NotEq, .int i, .int j => some (!decide (i = j))
  | .Eq, .str i, .str j => some (decide (i = j))
  | .NotEq, .str i, .str j => some (!decide (i = j))
  | .Eq, x, y => if okPy x && okPy y then some (eqD x y) else none
  | .NotEq, x, y => if okPy x && okPy y then some (!eqD x y) else none
  | .Is, x, .non => some (isNon x)
  | .IsNot, x, .non => some (!isNon x)
  | .In, x, .tup ys => if x.flat && ys.all D.flat then some (inD x ys) else none
  | .In, x, .lst ys => if x.flat && ys.all D.flat then some (inD x ys) else none
  | .NotIn, x, .tup ys => if x.flat && ys.all D.flat then some (!inD x ys) else none
  | .NotIn, x, .lst ys => if x.flat && ys.all D.flat then some (!inD x ys) else none
  | .In, .str x, .str z => (oneOf x).map fun c => decide (c ∈ z.cps.toList)
  | _, _, _ => none

def deB (S : Sto) : D → D
  | .ref n => match S[n]? with
    | some ds => .lst ds
    | none => .ref n
  | d => d

def wk : D → D
  | .fz xs => .lst xs
  | d => d

def boolsOf : List D → Option (List Bool)
  | [] => some []
  | .bl b :: r => (boolsOf r).map fun bs => b :: bs
  | _ :: _ => none
def intsOf : List D → Option (List Int)
  | [] => some []
  | .int b :: r => (intsOf r).map fun bs => b :: bs
  | _ :: _ => none

def isD : Bi → D → Bool
  | .isInt, .int _ => true
  | .isInt, .bl _ => true
  | .isBool, .bl _ => true
  | .isTuple, .tup _ => true
  | .isStr, .str _ => true
  | _, _ => false

def tyOk : D → Bool
  | .fn _ => false
  | .ref _ => false
  | .fz _ => false
  | _ => true
def biD : Bi → List D → Option D
  | .abs, [.int i] => some (.int (if i < 0 then -i else i))
  | .len, [.lst xs] => some (.int xs.length)
  | .len, [.tup xs] => some (.int xs.length)
  | .len, [.str x] => if x.length ≤ 100000 then some (.int x.length) else none
  | .all, [.lst xs] => (boolsOf xs).map fun bs => .bl (bs.all id)
  | .any, [.lst xs] => (boolsOf xs).map fun bs => .bl (bs.any id)
  | .tuple, [.lst xs] => some (.tup xs)
  | .tuple, [.tup xs] => some (.tup xs)
  | .list, [.lst xs] => some (.lst xs)
  | .list, [.tup xs] => some (.lst xs)
  | .sum, [.lst xs] => (intsOf xs).map fun ns => .int ns.sum
  | .max2, [.int i, .int j] => some (.int (if j > i then j else i))
  | .min2, [.int i, .int j] => some (.int (if j < i then j else i))
  | .int, [.int i] => some (.int i)
  | .int, [.bl b] => some (.int (if b then 1 else 0))
  | .repr, [x] => (x.py).bind fun p => if p.showable && decide (p.shown.length ≤ 100000) && decide (p.depth ≤ 40) then some (.str p.shown) else none
  | .isInt, [x] => if tyOk x then some (.bl (isD .isInt x)) else none
  | .isBool, [x] => if tyOk x then some (.bl (isD .isBool x)) else none
  | .isTuple, [x] => if tyOk x then some (.bl (isD .isTuple x)) else none
  | .isStr, [x] => if tyOk x then some (.bl (isD .isStr x)) else none
  | _, _ => none

def idxD : D → D → Option D
  | .lst xs, .int i => L2.atI xs i
  | .tup xs, .int i => L2.atI xs i
  | .str x, .int i => if x.length ≤ 100000 then (L2.atI x.cps.toList i).map fun c => .str ⟨#[c]⟩ else none
  | _, _ => none
def cutD {α : Type} (xs : List α) (lo hi : Option Int) : List α := (xs.drop (HT.sIx xs.length 0 lo)).take (HT.sIx xs.length xs.length hi - HT.sIx xs.length 0 lo)
def slcD : D → Option Int → Option Int → Option D
  | .lst xs, lo, hi => some (.lst (cutD xs lo hi))
  | .tup xs, lo, hi => some (.tup (cutD xs lo hi))
  | _, _, _ => none
def revD : D → Option D
  | .lst xs => some (.lst xs.reverse)
  | _ => none
def itemsD : D → Option (List D)
  | .lst xs => some xs
  | .tup xs => some xs
  | _ => none
def rangeOk (i j : Int) : Bool := decide (-(2 ^ 62) ≤ i) && decide (i < 2 ^ 62) && decide (-(2 ^ 62) ≤ j) && decide (j < 2 ^ 62) && decide (j - i < 100000)
def rangeL (lo : Int) (n : Nat) : List D := (List.range n).map fun (k : Nat) => .int (lo + k)
def rngD : List D → Option (List D)
  | [.int j] => if rangeOk 0 j then some (rangeL 0 j.toNat) else none
  | [.int i, .int j] => if rangeOk i j then some (rangeL i (j - i).toNat) else none
  | _ => none
def zipL : List D → List D → List D
  | x :: xs, y :: ys => .tup [x, y] :: zipL xs ys
  | _, _ => []
def enuL : Nat → List D → List D
  | _, [] => []
  | n, x :: xs => .tup [.int n, x] :: enuL (n + 1) xs

/-! ### targets -/
mutual
def Tg.slots : Tg → List Nat
  | .nm i => [i]
  | .tp ts => slotss ts
def slotss : List Tg → List Nat
  | [] => []
  | t :: ts => t.slots ++ slotss ts
end
mutual
def asg : Tg → D → Rho → Option Rho
  | .nm i, d, r => if i < r.length then some (r.set i (some (false, d))) else none
  | .tp ts, .tup ds, r => asgs ts ds r
  | .tp ts, .lst ds, r => asgs ts ds r
  | .tp _, _, _ => none
def asgs : List Tg → List D → Rho → Option Rho
  | [], [], r => some r
  | t :: ts, d :: ds, r => (asg t d r).bind fun r1 => asgs ts ds r1
  | _, _, _ => none
end
def wipeR (r : Rho) : List Nat → Rho
  | [] => r
  | v :: vs => (wipeR r vs).set v none

def pick {α : Type} : List Nat → List α → Option (List α)
  | [], _ => some []
  | k :: ks, xs => (xs[k]?).bind fun x => (pick ks xs).map fun r => x :: r

/-! ### expressions -/
/-- the turns of a comprehension -/
def compL (f : D → Sto → Option (Option D × Sto)) : List D → Sto → Option (List D × Sto)
  | [], S => some ([], S)
  | x :: xs, S => (f x S).bind fun p => (compL f xs p.2).map fun q => (match p.1 with | some y => y :: q.1 | none => q.1, q.2)

section
variable (P : Prg) (cf : Nat → List D → Sto → Option (D × Sto))
mutual
def evE : E → Rho → Sto → Option (D × Sto)
  | .cst d, _, S => some (d, S)
  | .var i, r, S => match r[i]? with
    | some (some (false, d)) => some (d, S)
    | _ => none
  | .bor i, r, S => match r[i]? with
    | some (some (_, d)) => some (d, S)
    | _ => none
  | .glb j, _, S => (P.csts[j]?).map fun p => (p.2, S)
  | .fnv j, _, S => some (.fn j, S)
  | .bin op a b, r, S => (evE a r S).bind fun p => (evE b r p.2).bind fun q => (binD op (deB q.2 p.1) (deB q.2 q.1)).map fun d => (d, q.2)
  | .neg a, r, S => (evE a r S).bind fun p => match p.1 with
    | .int i => some (.int (-i), p.2)
    | _ => none
  | .not a, r, S => (evE a r S).bind fun p => match p.1 with
    | .bl b => some (.bl (!b), p.2)
    | _ => none
  | .and a b, r, S => (evE a r S).bind fun p => match p.1 with
    | .bl true => evE b r p.2
    | .bl false => some (.bl false, p.2)
    | _ => none
  | .or a b, r, S => (evE a r S).bind fun p => match p.1 with
    | .bl true => some (.bl true, p.2)
    | .bl false => evE b r p.2
    | _ => none
  | .cmp op a b, r, S => (evE a r S).bind fun p => (evE b r p.2).bind fun q => (cmpD op (deB q.2 p.1) (deB q.2 q.1)).map fun d => (.bl d, q.2)
  | .chn op op2 a b c, r, S => (evE a r S).bind fun p => (evE b r p.2).bind fun q => (cmpD op p.1 q.1).bind fun d =>
      if d then (evE c r q.2).bind fun q2 => (cmpD op2 q.1 q2.1).map fun d2 => (.bl d2, q2.2) else some (.bl false, q.2)
  | .ite c a b, r, S => (evE c r S).bind fun p => match p.1 with
    | .bl true => evE a r p.2
    | .bl false => evE b r p.2
    | _ => none
  | .tup es, r, S => (evEs es r S).bind fun p => if p.1.length ≤ 100000 then some (.tup p.1, p.2) else none
  | .lst es, r, S => (evEs es r S).bind fun p => if p.1.length ≤ 100000 then some (.lst p.1, p.2) else none
  | .box es, r, S => (evEs es r S).bind fun p => if pures p.1 && decide (p.1.length ≤ 100000) then some (.ref p.2.length, p.2 ++ [p.1]) else none
  | .star _, _, _ => none
  | .idx a i, r, S => (evE a r S).bind fun p => (evE i r p.2).bind fun q => (idxD (wk (deB q.2 p.1)) q.1).map fun d => (d, q.2)
  | .slc a lo hi, r, S => (evE a r S).bind fun p => (evO lo r p.2).bind fun q => (evO hi r q.2).bind fun q2 => (slcD (wk (deB q2.2 p.1)) q.1 q2.1).map fun d => (d, q2.2)
  | .rev a, r, S => (evE a r S).bind fun p => (revD (deB p.2 p.1)).map fun d => (d, p.2)
  | .call f es, r, S => (evEs es r S).bind fun p => cf f p.1 p.2
  | .callk q es ks, r, S => (P.kws[q]?).bind fun w => (evEs es r S).bind fun p => (evEs ks r p.2).bind fun p2 => if p.1.length = w.n ∧ p2.1.length = w.ks.length then (pick w.perm (p.1 ++ p2.1)).bind fun ds => cf w.f ds p2.2 else none
  | .callv f es, r, S => (evE f r S).bind fun p => match p.1 with
    | .fn j => (evEs es r p.2).bind fun q => cf j q.1 q.2
    | _ => none
  | .bi b es, r, S => (evEs es r S).bind fun p => (biD b (p.1.map fun d => wk (deB p.2 d))).map fun d => (d, p.2)
  | .bits a, r, S => (evE a r S).bind fun p => match p.1 with
    | .int i => some (.int (Builtin.Int.intBits i : Nat), p.2)
    | _ => none
  | .cmpr own tg it ifs elt, r, S => (evE it r S).bind fun p => (itemsD (wk p.1)).bind fun xs =>
      if xs.length < 100000 then
        (compL (fun x S1 => (asg tg x (wipeR r own)).bind fun r1 => (evIfs ifs r1 S1).bind fun b => if b.1 then (evE elt r1 b.2).map fun y => (some y.1, y.2) else some (none, b.2)) xs p.2).map fun q => (.lst q.1, q.2)
      else none
  | .rng es, r, S => (evEs es r S).bind fun p => (rngD p.1).map fun xs => (.lst xs, p.2)
  | .zip a b, r, S => (evE a r S).bind fun p => (evE b r p.2).bind fun q => match wk p.1, wk q.1 with
    | .lst xs, .lst ys => some (.lst (zipL xs ys), q.2)
    | .tup xs, .tup ys => some (.lst (zipL xs ys), q.2)
    | _, _ => none
  | .enu a, r, S => (evE a r S).bind fun p => match wk p.1 with
    | .lst xs => some (.lst (enuL 0 xs), p.2)
    | _ => none
def evEs : List E → Rho → Sto → Option (List D × Sto)
  | [], _, S => some ([], S)
  | .star e :: es, r, S => (evE e r S).bind fun p => (itemsD (wk (deB p.2 p.1))).bind fun xs => (evEs es r p.2).map fun q => (xs ++ q.1, q.2)
  | e :: es, r, S => (evE e r S).bind fun p => (evEs es r p.2).map fun q => (p.1 :: q.1, q.2)
def evIfs : List E → Rho → Sto → Option (Bool × Sto)
  | [], _, S => some (true, S)
  | e :: es, r, S => (evE e r S).bind fun p => match p.1 with
    | .bl true => evIfs es r p.2
    | .bl false => some (false, p.2)
    | _ => none
def evO : Option E → Rho → Sto → Option (Option Int × Sto)
  | none, _, S => some (none, S)
  | some e, r, S => (evE e r S).bind fun p => match p.1 with
    | .int i => some (some i, p.2)
    | _ => none
end

/-! ### statements -/
inductive Out where
  | nx (r : Rho)
  | rt (d : D)
  | bk (r : Rho)
  | ct (r : Rho)

def whl (c : Rho → Sto → Option (D × Sto)) (b : Rho → Sto → Option (Out × Sto)) : Nat → Rho → Sto → Option (Out × Sto)
  | 0, _, _ => none
  | n + 1, r, S => (c r S).bind fun p => match p.1 with
    | .bl true => (b r p.2).bind fun q => match q.1 with
      | .nx r1 => whl c b n r1 q.2
      | .ct r1 => whl c b n r1 q.2
      | .bk r1 => some (.nx r1, q.2)
      | .rt d => some (.rt d, q.2)
    | .bl false => some (.nx r, p.2)
    | _ => none
def forL (tg : Tg) (b : Rho → Sto → Option (Out × Sto)) : List D → Rho → Sto → Option (Out × Sto)
  | [], r, S => some (.nx r, S)
  | x :: xs, r, S => (asg tg x r).bind fun r0 => (b r0 S).bind fun q => match q.1 with
      | .nx r1 => forL tg b xs r1 q.2
      | .ct r1 => forL tg b xs r1 q.2
      | .bk r1 => some (.nx r1, q.2)
      | .rt d => some (.rt d, q.2)

/-- the most turns of a while: a number that computing never unfolds -/
theorem most_ex : ∃ n : Nat, n = 2 ^ 2000000 := ⟨_, rfl⟩
noncomputable def most : Nat := Classical.choose most_ex
theorem most_eq : most = 2 ^ 2000000 := Classical.choose_spec most_ex

def okOwn : Bool → D → Bool
  | false, _ => true
  | true, .lst _ => true
  | true, _ => false
def frzR (r : Rho) : List Nat → Rho
  | [] => r
  | i :: is => match (frzR r is)[i]? with
    | some (some (_, d)) => (frzR r is).set i (some (false, d))
    | _ => frzR r is
def setAll (r : Rho) : List Nat → List D → Option Rho
  | [], [] => some r
  | i :: is, d :: ds => if i < r.length then setAll (r.set i (some (false, d))) is ds else none
  | _, _ => none
noncomputable section
mutual
def exS : C → Rho → Sto → Option (Out × Sto)
  | .set i e, r, S => (evE P cf e r S).bind fun p => if i < r.length then some (.nx (r.set i (some (false, p.1))), p.2) else none
  | .own i e, r, S => (evE P cf e r S).bind fun p => match p.1 with
    | .lst ds => if i < r.length then some (.nx (r.set i (some (true, .lst ds))), p.2) else none
    | _ => none
  | .unp tg e, r, S => (evE P cf e r S).bind fun p => (asg tg p.1 r).map fun r1 => (.nx r1, p.2)
  | .par is es, r, S => (evEs P cf es r S).bind fun p => (setAll r is p.1).map fun r1 => (.nx r1, p.2)
  | .put a i e, r, S => (evE P cf e r S).bind fun p => (evE P cf a r p.2).bind fun q => (evE P cf i r q.2).bind fun q2 => match q.1, q2.1 with
    | .ref n, .int k => (q2.2[n]?).bind fun ds => (L2.ixN ds.length k).bind fun j => if p.1.pure then some (.nx r, q2.2.set n (ds.set j p.1)) else none
    | _, _ => none
  | .aug i op e, r, S => match r[i]? with
    | some (some (false, d)) => (evE P cf e r S).bind fun p => match op, d, p.1 with
      | .Add, .int a, .int b => some (.nx (r.set i (some (false, .int (a + b)))), p.2)
      | .Sub, .int a, .int b => some (.nx (r.set i (some (false, .int (a - b)))), p.2)
      | _, _, _ => none
    | _ => none
  | .exp e, r, S => (evE P cf e r S).map fun p => (.nx r, p.2)
  | .app i e, r, S => (evE P cf e r S).bind fun p => match r[i]? with
    | some (some (true, .lst ds)) => if ds.length < 100000 then some (.nx (r.set i (some (true, .lst (ds ++ [p.1])))), p.2) else none
    | _ => none
  | .ext i e, r, S => (evE P cf e r S).bind fun p => match r[i]?, p.1 with
    | some (some (true, .lst ds)), .lst xs => if ds.length + xs.length < 100000 then some (.nx (r.set i (some (true, .lst (ds ++ xs)))), p.2) else none
    | _, _ => none
  | .ins i a b, r, S => (evE P cf a r S).bind fun p => (evE P cf b r p.2).bind fun q => match r[i]?, p.1 with
    | some (some (true, .lst ds)), .int k => if ds.length < 100000 ∧ 0 ≤ k ∧ k ≤ ds.length then some (.nx (r.set i (some (true, .lst (ds.take k.toNat ++ q.1 :: ds.drop k.toNat)))), q.2) else none
    | _, _ => none
  | .par2 i a e j b f, r, S => (evE P cf e r S).bind fun p => (evE P cf f r p.2).bind fun q => if okOwn a p.1 && okOwn b q.1 && decide (i < r.length ∧ j < r.length ∧ i ≠ j) then some (.nx ((r.set i (some (a, p.1))).set j (some (b, q.1))), q.2) else none
  | .puto i k e, r, S => (evE P cf e r S).bind fun p => (evE P cf k r p.2).bind fun q => match r[i]?, q.1 with
    | some (some (true, .lst ds)), .int t => (L2.ixN ds.length t).map fun j => (.nx (r.set i (some (true, .lst (ds.set j p.1)))), q.2)
    | _, _ => none
  | .insr i a b, r, S => (evE P cf a r S).bind fun p => (evE P cf b r p.2).bind fun q => match r[i]?, p.1 with
    | some (some (false, .ref n)), .int k => (q.2[n]?).bind fun ds => if ds.length < 100000 ∧ 0 ≤ k ∧ k ≤ ds.length ∧ q.1.pure = true then some (.nx r, q.2.set n (ds.take k.toNat ++ q.1 :: ds.drop k.toNat)) else none
    | _, _ => none
  | .lnd i f es, r, S => (evEs P cf es r S).bind fun p => match r[i]? with
    | some (some (true, .lst ds)) => if pures ds then (cf f (.ref p.2.length :: p.1) (p.2 ++ [ds])).bind fun q => (q.2[p.2.length]?).bind fun ys => if q.2.length = p.2.length + 1 then some (.nx (r.set i (some (true, .lst ys))), q.2.take p.2.length) else none else none
    | _ => none
  | .apop i j e, r, S => (evE P cf e r S).bind fun p => match r[i]?, r[j]?, p.1 with
    | some (some (true, .lst ds)), some (some (true, .lst ys)), .int k => (L2.ixN ys.length k).bind fun t => (ys[t]?).bind fun d => if i ≠ j ∧ ds.length < 100000 ∧ ys.length < 100000 then some (.nx ((r.set j (some (true, .lst (ys.eraseIdx t)))).set i (some (true, .lst (ds ++ [d])))), p.2) else none
    | _, _, _ => none
  | .spop tg j, r, S => match r[j]? with
    | some (some (true, .lst ys)) => (ys[ys.length - 1]?).bind fun d => (asg tg d (r.set j (some (true, .lst ys.dropLast)))).map fun r1 => (.nx r1, S)
    | _ => none
  | .ite c a b, r, S => (evE P cf c r S).bind fun p => match p.1 with
    | .bl true => exB a r p.2
    | .bl false => exB b r p.2
    | _ => none
  | .for_ tg it b, r, S => (evE P cf it r S).bind fun p => (itemsD (wk p.1)).bind fun xs => forL tg (fun r1 S1 => exB b r1 S1) xs r p.2
  | .whl c b, r, S => whl (fun r1 S1 => evE P cf c r1 S1) (fun r1 S1 => exB b r1 S1) most r S
  | .ret e, r, S => (evE P cf e r S).map fun p => (.rt p.1, p.2)
  | .pas, r, S => some (.nx r, S)
  | .brk, r, S => some (.bk r, S)
  | .cnt, r, S => some (.ct r, S)
  | .bad, _, _ => none
  | .frz is c, r, S => exS c (frzR r is) S
def exB : List C → Rho → Sto → Option (Out × Sto)
  | [], r, S => some (.nx r, S)
  | c :: cs, r, S => (exS c r S).bind fun q => match q.1 with
      | .nx r1 => exB cs r1 q.2
      | .ct r1 => some (.ct r1, q.2)
      | .bk r1 => some (.bk r1, q.2)
      | .rt d => some (.rt d, q.2)
end
end
end

def endF (n : Nat) : Option (Out × Sto) → Option (D × Sto)
  | some (.rt d, S) => if d.pure then some (d, S.take n) else match d with
    | .ref m => if m < S.length then some (.ref m, S) else none
    | _ => none
  | some (.nx _, S) => some (.non, S.take n)
  | _ => none
noncomputable section
def runF (P : Prg) (cf : Nat → List D → Sto → Option (D × Sto)) (f : Fn) (ds : List D) (S : Sto) : Option (D × Sto) :=
  if ds.length = f.np then endF S.length (exB P cf f.body (ds.map (fun d => some (false, d)) ++ List.replicate (f.N.length - f.np) none) S) else none
def callF (P : Prg) : Nat → Nat → List D → Sto → Option (D × Sto)
  | 0, _, _, _ => none
  | k + 1, f, ds, S => (P.fns[f]?).bind fun g => runF P (callF P k) g ds S
end
end Pv

set_option Elab.async false
set_option linter.all false
set_option maxRecDepth 100000
set_option maxHeartbeats 8000000
/-! SndV: the hook, to be read early. -/
namespace Pv
open PySem PySem.Spec PyProof.Rows L2
abbrev Tc : Type := Str × List He.Dv
def obsV (fa : List He.Fa) (fn : List He.DefD) (ts : List Tc) (K : PySem.W.Frag) : He.AlD := ((He.obsD fa fn K).1 && ts.all fun t => He.tupB K t.1 t.2, (He.obsD fa fn K).2)
def SaysV (fa : List He.Fa) (fn : List He.DefD) (ts : List Tc) (K : PySem.W.Frag) : Prop := obsV fa fn ts K = He.valD fn
def obsVG (n : Nat) (fa : List He.Fa) (fn : List He.DefD) (ts : List Tc) (g : Addr → Option Obj) : He.AlD := obsV fa fn ts (He.frG g (He.asD g n))
def hookV (n : Nat) (fa : List He.Fa) (fn : List He.DefD) (ts : List Tc) : PySem.W.Hook where
  α := He.AlD
  obs := fun s => obsVG n fa fn ts s.heap.get?
  val := fun _ => He.valD fn
  says := fun _ h => ∃ K : PySem.W.Frag, K.In h ∧ SaysV fa fn ts K
  of := fun _ _ e => ⟨_, He.frG_in, e⟩
  keeps := fun _ _ _ ⟨K, hK, c⟩ k => ⟨K, PySem.W.Frag.In.keeps hK k, c⟩
theorem obsVG_eq {n : Nat} {fa : List He.Fa} {fn : List He.DefD} {ts : List Tc} {g : Addr → Option Obj} {s : Shared} (h : ∀ a, g a = s.heap.get? a) : obsVG n fa fn ts g = (hookV n fa fn ts).obs s := by
  have e : g = s.heap.get? := funext h
  rw [e] <;> rfl
def ddOf (g : Fn) (st : Stmt) : He.DefD := ⟨(g.name, none), g.own, g.own, defArgs st, defBody st, defScope st, [], []⟩
/-- the head's run in parts -/
theorem split4 {σ γ δ : Type} {e : Option σ} {f : σ → Bool} {g : σ → γ} {h : σ → Bool × δ} {a c : Bool} {b : γ} {d : δ} (h1 : (e.map f) = some a) (h2 : e.map g = some b) (h3 : (e.map fun s => (h s).1) = some c) (h4 : (e.map fun s => (h s).2) = some d) :
    (e.map fun s => (f s, g s, h s)) = some (a, b, (c, d)) := by
  cases e with
  | none => cases h1
  | some s =>
    injection h1 with h1
    injection h2 with h2
    injection h3 with h3
    injection h4 with h4
    show some (f s, g s, h s) = _
    rw [h1, h2, ← h3, ← h4]
end Pv

set_option Elab.async false
set_option linter.all false
set_option maxRecDepth 100000
set_option maxHeartbeats 0
namespace Pv.K08
open PySem
def f0 : Fn := { name := "is_whole", N := ["value"], np := 1, body := [
  .ret (.and (.bi .isInt [.var 0]) (.not (.bi .isBool [.var 0])))] }
def f1 : Fn := { name := "is_tuple", N := ["value", "least", "most"], np := 3, body := [
  .ret (.and (.bi .isTuple [.var 0]) (.and (.cmp .LtE (.var 1) (.bi .len [.var 0])) (.or (.cmp .Is (.var 2) (.cst .non)) (.cmp .LtE (.bi .len [.var 0]) (.var 2)))))] }
def f2 : Fn := { name := "common", N := ["one", "other"], np := 2, body := [
  .par [0, 1] [.bi .abs [.var 0], .bi .abs [.var 1]],
  .whl (.cmp .NotEq (.var 1) (.cst (.int 0))) [.par [0, 1] [.var 1, .bin .Mod (.var 0) (.var 1)]],
  .ret (.var 0)] }
def f3 : Fn := { name := "fraction", N := ["top", "bottom", "by"], np := 2, body := [
  .set 2 (.call 2 [.var 0, .var 1]),
  .set 2 (.ite (.cmp .Gt (.var 1) (.cst (.int 0))) (.var 2) (.neg (.var 2))),
  .ret (.tup [.bin .FloorDiv (.var 0) (.var 2), .bin .FloorDiv (.var 1) (.var 2)])] }
def f4 : Fn := { name := "whole", N := ["number"], np := 1, body := [
  .ret (.tup [.var 0, .cst (.int 1)])] }
def f5 : Fn := { name := "is_fraction", N := ["value", "part"], np := 1, body := [
  .ite (.or (.not (.call 1 [.var 0, .glb 0, .glb 0])) (.not (.bi .all [.cmpr [1] (.nm 1) (.var 0) [] (.call 0 [.var 1])]))) [.ret (.cst (.bl false))] [],
  .ret (.and (.cmp .GtE (.idx (.var 0) (.cst (.int 1))) (.cst (.int 1))) (.cmp .Eq (.call 2 [.idx (.var 0) (.cst (.int 0)), .idx (.var 0) (.cst (.int 1))]) (.cst (.int 1))))] }
def f6 : Fn := { name := "plus", N := ["one", "other"], np := 2, body := [
  .ret (.call 3 [.bin .Add (.bin .Mult (.idx (.var 0) (.cst (.int 0))) (.idx (.var 1) (.cst (.int 1)))) (.bin .Mult (.idx (.var 1) (.cst (.int 0))) (.idx (.var 0) (.cst (.int 1)))), .bin .Mult (.idx (.var 0) (.cst (.int 1))) (.idx (.var 1) (.cst (.int 1)))])] }
def f7 : Fn := { name := "less_numbers", N := ["one", "other"], np := 2, body := [
  .ret (.call 3 [.bin .Sub (.bin .Mult (.idx (.var 0) (.cst (.int 0))) (.idx (.var 1) (.cst (.int 1)))) (.bin .Mult (.idx (.var 1) (.cst (.int 0))) (.idx (.var 0) (.cst (.int 1)))), .bin .Mult (.idx (.var 0) (.cst (.int 1))) (.idx (.var 1) (.cst (.int 1)))])], own := "less" }
def f8 : Fn := { name := "times", N := ["one", "other"], np := 2, body := [
  .ret (.call 3 [.bin .Mult (.idx (.var 0) (.cst (.int 0))) (.idx (.var 1) (.cst (.int 0))), .bin .Mult (.idx (.var 0) (.cst (.int 1))) (.idx (.var 1) (.cst (.int 1)))])] }
def f9 : Fn := { name := "root_floor", N := ["number", "found", "more"], np := 1, body := [
  .ite (.cmp .Eq (.var 0) (.cst (.int 0))) [.ret (.cst (.int 0))] [],
  .set 1 (.bin .LShift (.cst (.int 1)) (.bin .FloorDiv (.bin .Add (.bits (.var 0)) (.cst (.int 1))) (.glb 1))),
  .set 2 (.bin .FloorDiv (.bin .Add (.var 1) (.bin .FloorDiv (.var 0) (.var 1))) (.glb 1)),
  .whl (.cmp .Lt (.var 2) (.var 1)) [.set 1 (.var 2), .set 2 (.bin .FloorDiv (.bin .Add (.var 1) (.bin .FloorDiv (.var 0) (.var 1))) (.glb 1))],
  .ret (.var 1)] }
def f10 : Fn := { name := "sign", N := ["number"], np := 1, body := [
  .ret (.ite (.cmp .Gt (.var 0) (.cst (.int 0))) (.cst (.int 1)) (.ite (.cmp .Eq (.var 0) (.cst (.int 0))) (.cst (.int 0)) (.neg (.cst (.int 1)))))] }
def f11 : Fn := { name := "square", N := ["number"], np := 1, body := [
  .ret (.bin .Mult (.var 0) (.bi .abs [.var 0]))] }
def f12 : Fn := { name := "sign_of_one", N := ["c", "a", "d"], np := 3, body := [
  .ret (.call 10 [.bin .Add (.call 11 [.var 0]) (.bin .Mult (.call 11 [.var 1]) (.var 2))])] }
def f13 : Fn := { name := "sign_of_two", N := ["c", "a", "d", "b", "e", "roots"], np := 5, body := [
  .set 5 (.call 10 [.bin .Add (.bin .Mult (.call 11 [.var 1]) (.var 2)) (.bin .Mult (.call 11 [.var 3]) (.var 4))]),
  .ite (.or (.cmp .Eq (.var 0) (.cst (.int 0))) (.cmp .Eq (.var 5) (.cst (.int 0)))) [.ret (.ite (.cmp .Eq (.var 0) (.cst (.int 0))) (.var 5) (.call 10 [.var 0]))] [],
  .ite (.cmp .Eq (.var 5) (.call 10 [.var 0])) [.ret (.var 5)] [],
  .ret (.bin .Mult (.var 5) (.call 12 [.bin .Sub (.bin .Add (.bin .Mult (.bin .Mult (.var 1) (.var 1)) (.var 2)) (.bin .Mult (.bin .Mult (.var 3) (.var 3)) (.var 4))) (.bin .Mult (.var 0) (.var 0)), .bin .Mult (.bin .Mult (.glb 1) (.var 1)) (.var 3), .bin .Mult (.var 2) (.var 4)]))] }
def f14 : Fn := { name := "discriminant", N := ["a", "b", "c"], np := 3, body := [
  .ret (.bin .Sub (.bin .Mult (.var 1) (.var 1)) (.bin .Mult (.bin .Mult (.glb 2) (.var 0)) (.var 2)))] }
def f15 : Fn := { name := "is_root", N := ["value", "under", "a", "b", "c", "side", "number"], np := 1, body := [
  .ite (.or (.not (.call 1 [.var 0, .glb 2, .glb 2])) (.not (.bi .all [.cmpr [6] (.nm 6) (.var 0) [] (.call 0 [.var 6])]))) [.ret (.cst (.bl false))] [],
  .unp (.tp [.nm 2, .nm 3, .nm 4, .nm 5]) (.var 0),
  .ite (.or (.cmp .Lt (.var 2) (.cst (.int 1))) (.or (.cmp .NotIn (.var 5) (.tup [.cst (.int 1), .neg (.cst (.int 1))])) (.cmp .NotEq (.call 2 [.call 2 [.var 2, .var 3], .var 4]) (.cst (.int 1))))) [.ret (.cst (.bl false))] [],
  .set 1 (.call 14 [.var 2, .var 3, .var 4]),
  .ret (.and (.cmp .Gt (.var 1) (.cst (.int 0))) (.cmp .NotEq (.bin .Mult (.call 9 [.var 1]) (.call 9 [.var 1])) (.var 1)))] }
def f16 : Fn := { name := "is_moment", N := ["value"], np := 1, body := [
  .ret (.or (.call 5 [.var 0]) (.call 15 [.var 0]))] }
def f17 : Fn := { name := "moment_of_whole", N := ["a", "b", "c", "side", "under", "half", "by"], np := 4, body := [
  .ite (.cmp .Eq (.var 0) (.cst (.int 0))) [.ret (.call 3 [.neg (.var 2), .var 1])] [],
  .ite (.cmp .Lt (.var 0) (.cst (.int 0))) [.par [0, 1, 2] [.neg (.var 0), .neg (.var 1), .neg (.var 2)]] [],
  .set 4 (.call 14 [.var 0, .var 1, .var 2]),
  .ite (.cmp .Lt (.var 4) (.cst (.int 0))) [.ret (.cst .non)] [],
  .set 5 (.call 9 [.var 4]),
  .ite (.cmp .Eq (.bin .Mult (.var 5) (.var 5)) (.var 4)) [.ret (.call 3 [.bin .Sub (.bin .Mult (.var 3) (.var 5)) (.var 1), .bin .Mult (.glb 1) (.var 0)])] [],
  .set 6 (.call 2 [.call 2 [.var 0, .var 1], .var 2]),
  .ret (.tup [.bin .FloorDiv (.var 0) (.var 6), .bin .FloorDiv (.var 1) (.var 6), .bin .FloorDiv (.var 2) (.var 6), .var 3])] }
def f18 : Fn := { name := "scaled_up", N := ["numbers", "bottom", "top", "under"], np := 1, body := [
  .set 1 (.cst (.int 1)),
  .for_ (.tp [.nm 2, .nm 3]) (.var 0) [.set 1 (.bin .Mult (.bin .FloorDiv (.var 1) (.call 2 [.var 1, .var 3])) (.var 3))],
  .ret (.cmpr [2, 3] (.tp [.nm 2, .nm 3]) (.var 0) [] (.bin .Mult (.var 2) (.bin .FloorDiv (.var 1) (.var 3))))] }
def f19 : Fn := { name := "moment_by", N := ["a", "b", "c", "side", "p", "q", "r"], np := 4, body := [
  .unp (.tp [.nm 4, .nm 5, .nm 6]) (.call 18 [.lst [.var 0, .var 1, .var 2]]),
  .ret (.call 17 [.var 4, .var 5, .var 6, .var 3])] }
def f20 : Fn := { name := "told_parts", N := ["moment", "a", "b", "c", "side"], np := 1, body := [
  .ite (.cmp .Eq (.bi .len [.var 0]) (.glb 1)) [.ret (.tup [.idx (.var 0) (.cst (.int 0)), .cst (.int 0), .cst (.int 1), .idx (.var 0) (.cst (.int 1))])] [],
  .unp (.tp [.nm 1, .nm 2, .nm 3, .nm 4]) (.var 0),
  .ret (.tup [.neg (.var 2), .var 4, .call 14 [.var 1, .var 2, .var 3], .bin .Mult (.glb 1) (.var 1)])] }
def f21 : Fn := { name := "compared_moments", N := ["one", "other", "p", "s", "d", "q", "u", "v", "e", "w"], np := 2, body := [
  .ite (.cmp .Eq (.var 0) (.var 1)) [.ret (.cst (.int 0))] [],
  .unp (.tp [.nm 2, .nm 3, .nm 4, .nm 5]) (.call 20 [.var 0]),
  .unp (.tp [.nm 6, .nm 7, .nm 8, .nm 9]) (.call 20 [.var 1]),
  .ret (.call 13 [.bin .Sub (.bin .Mult (.var 2) (.var 9)) (.bin .Mult (.var 6) (.var 5)), .bin .Mult (.var 3) (.var 9), .var 4, .bin .Mult (.neg (.var 7)) (.var 5), .var 8])] }
def f22 : Fn := { name := "shifted_by", N := ["moment", "by", "twice", "last", "a", "b", "c", "side"], np := 2, body := [
  .ite (.cmp .Eq (.bi .len [.var 0]) (.glb 1)) [.ret (.call 6 [.var 0, .var 1])] [],
  .unp (.tp [.nm 4, .nm 5, .nm 6, .nm 7]) (.var 0),
  .set 2 (.call 8 [.call 4 [.bin .Mult (.glb 1) (.var 4)], .var 1]),
  .set 3 (.call 6 [.call 8 [.call 8 [.call 4 [.var 4], .var 1], .var 1], .call 7 [.call 4 [.var 6], .call 8 [.call 4 [.var 5], .var 1]]]),
  .ret (.call 19 [.call 4 [.var 4], .call 7 [.call 4 [.var 5], .var 2], .var 3, .var 7])] }
def f23 : Fn := { name := "low_edges", N := ["one", "other", "order"], np := 2, body := [
  .set 2 (.call 21 [.idx (.var 0) (.cst (.int 0)), .idx (.var 1) (.cst (.int 0))]),
  .ret (.or (.cmp .Lt (.var 2) (.cst (.int 0))) (.and (.cmp .Eq (.var 2) (.cst (.int 0))) (.or (.idx (.var 0) (.cst (.int 1))) (.not (.idx (.var 1) (.cst (.int 1)))))))] }
def f24 : Fn := { name := "greater_low", N := ["one", "other"], np := 2, body := [
  .ret (.ite (.call 23 [.var 0, .var 1]) (.var 1) (.var 0))] }
def f25 : Fn := { name := "lesser_high", N := ["one", "other", "order"], np := 2, body := [
  .set 2 (.call 21 [.idx (.var 0) (.cst (.int 0)), .idx (.var 1) (.cst (.int 0))]),
  .ite (.cmp .Eq (.var 2) (.cst (.int 0))) [.ret (.tup [.idx (.var 0) (.cst (.int 0)), .and (.idx (.var 0) (.cst (.int 1))) (.idx (.var 1) (.cst (.int 1)))])] [],
  .ret (.ite (.cmp .Lt (.var 2) (.cst (.int 0))) (.var 0) (.var 1))] }
def f26 : Fn := { name := "greater_high", N := ["one", "other", "order"], np := 2, body := [
  .set 2 (.call 21 [.idx (.var 0) (.cst (.int 0)), .idx (.var 1) (.cst (.int 0))]),
  .ite (.cmp .Eq (.var 2) (.cst (.int 0))) [.ret (.tup [.idx (.var 0) (.cst (.int 0)), .or (.idx (.var 0) (.cst (.int 1))) (.idx (.var 1) (.cst (.int 1)))])] [],
  .ret (.ite (.cmp .Gt (.var 2) (.cst (.int 0))) (.var 0) (.var 1))] }
def f27 : Fn := { name := "made", N := ["low", "high", "order"], np := 2, body := [
  .set 2 (.call 21 [.idx (.var 0) (.cst (.int 0)), .idx (.var 1) (.cst (.int 0))]),
  .ite (.or (.cmp .Gt (.var 2) (.cst (.int 0))) (.and (.cmp .Eq (.var 2) (.cst (.int 0))) (.not (.and (.idx (.var 0) (.cst (.int 1))) (.idx (.var 1) (.cst (.int 1))))))) [.ret (.lst [])] [],
  .ret (.lst [.tup [.star (.var 0), .star (.var 1)]])] }
def f28 : Fn := { name := "are_apart", N := ["high", "low", "order"], np := 2, body := [
  .set 2 (.call 21 [.idx (.var 0) (.cst (.int 0)), .idx (.var 1) (.cst (.int 0))]),
  .ret (.or (.cmp .Lt (.var 2) (.cst (.int 0))) (.and (.cmp .Eq (.var 2) (.cst (.int 0))) (.and (.not (.idx (.var 0) (.cst (.int 1)))) (.not (.idx (.var 1) (.cst (.int 1)))))))] }
def f29 : Fn := { name := "is_stretch", N := ["value", "low", "low_in", "high", "high_in"], np := 1, body := [
  .ite (.or (.not (.call 1 [.var 0, .glb 3, .glb 3])) (.or (.not (.bi .isBool [.idx (.var 0) (.cst (.int 1))])) (.not (.bi .isBool [.idx (.var 0) (.neg (.cst (.int 1)))])))) [.ret (.cst (.bl false))] [],
  .unp (.tp [.nm 1, .nm 2, .nm 3, .nm 4]) (.var 0),
  .ret (.and (.call 16 [.var 1]) (.and (.call 16 [.var 3]) (.cmp .NotEq (.call 27 [.tup [.var 1, .var 2], .tup [.var 3, .var 4]]) (.lst []))))] }
def f30 : Fn := { name := "is_stretches", N := ["value", "one", "other"], np := 1, body := [
  .ite (.or (.not (.bi .isTuple [.var 0])) (.not (.bi .all [.cmpr [1] (.nm 1) (.var 0) [] (.call 29 [.var 1])]))) [.ret (.cst (.bl false))] [],
  .ret (.bi .all [.cmpr [1, 2] (.tp [.nm 1, .nm 2]) (.zip (.var 0) (.slc (.var 0) (some (.cst (.int 1))) none)) [] (.call 28 [.slc (.var 1) (some (.cst (.int 2))) none, .slc (.var 2) none (some (.cst (.int 2)))])])] }
def f31 : Fn := { name := "check_stretches", N := ["value"], np := 1, body := [
  .ite (.not (.call 30 [.var 0])) [.bad] []] }
def f32 : Fn := { name := "check_length", N := ["value"], np := 1, body := [
  .ite (.or (.not (.call 5 [.var 0])) (.cmp .Lt (.idx (.var 0) (.cst (.int 0))) (.cst (.int 0)))) [.bad] []] }
def f33 : Fn := { name := "put_in", N := ["found", "stretch", "at"], np := 2, body := [
  .set 2 (.bi .len [.var 0]),
  .whl (.and (.cmp .Gt (.var 2) (.cst (.int 0))) (.not (.call 23 [.slc (.idx (.var 0) (.bin .Sub (.var 2) (.cst (.int 1)))) none (some (.cst (.int 2))), .slc (.var 1) none (some (.cst (.int 2)))]))) [.aug 2 .Sub (.cst (.int 1))],
  .insr 0 (.var 2) (.var 1)] }
def f34 : Fn := { name := "joined_of", N := ["some", "stretch", "lined", "found"], np := 1, body := [
  .par2 2 true (.lst []) 3 true (.lst []),
  .for_ (.nm 1) (.var 0) [.lnd 2 33 [.var 1]],
  .frz [2] (.for_ (.nm 1) (.var 2) [.ite (.or (.cmp .Eq (.bor 3) (.lst [])) (.call 28 [.slc (.idx (.bor 3) (.neg (.cst (.int 1)))) (some (.cst (.int 2))) none, .slc (.var 1) none (some (.cst (.int 2)))])) [.app 3 (.var 1)] [.puto 3 (.neg (.cst (.int 1))) (.tup [.star (.slc (.idx (.bor 3) (.neg (.cst (.int 1)))) none (some (.cst (.int 2)))), .star (.call 26 [.slc (.idx (.bor 3) (.neg (.cst (.int 1)))) (some (.cst (.int 2))) none, .slc (.var 1) (some (.cst (.int 2))) none])])]]),
  .ret (.bi .tuple [.bor 3])] }
def f35 : Fn := { name := "both_of", N := ["one", "other", "found", "here", "there"], np := 2, body := [
  .own 2 (.lst []),
  .for_ (.nm 3) (.var 0) [.for_ (.nm 4) (.var 1) [.ext 2 (.call 27 [.call 24 [.slc (.var 3) none (some (.cst (.int 2))), .slc (.var 4) none (some (.cst (.int 2)))], .call 25 [.slc (.var 3) (some (.cst (.int 2))) none, .slc (.var 4) (some (.cst (.int 2))) none]])]],
  .ret (.bi .tuple [.bor 2])] }
def f36 : Fn := { name := "less_of", N := ["one", "other", "found", "here", "low", "there"], np := 2, body := [
  .own 2 (.lst []),
  .for_ (.nm 3) (.var 0) [.set 4 (.slc (.var 3) none (some (.cst (.int 2)))), .for_ (.nm 5) (.var 1) [.ext 2 (.call 27 [.var 4, .call 25 [.slc (.var 3) (some (.cst (.int 2))) none, .tup [.idx (.var 5) (.cst (.int 0)), .not (.idx (.var 5) (.cst (.int 1)))]]]), .set 4 (.call 24 [.var 4, .tup [.idx (.var 5) (.cst (.int 2)), .not (.idx (.var 5) (.neg (.cst (.int 1))))]])], .ext 2 (.call 27 [.var 4, .slc (.var 3) (some (.cst (.int 2))) none])],
  .ret (.bi .tuple [.bor 2])] }
def f37 : Fn := { name := "since_of", N := ["one", "other", "found", "here", "begun"], np := 2, body := [
  .own 2 (.bi .list [.var 1]),
  .for_ (.nm 3) (.var 0) [.set 4 (.call 35 [.tup [.tup [.idx (.var 3) (.cst (.int 0)), .cst (.bl true), .idx (.var 3) (.cst (.int 2)), .cst (.bl true)]], .var 1]), .ite (.cmp .NotEq (.var 4) (.tup [])) [.ext 2 (.call 27 [.call 24 [.slc (.var 3) none (some (.cst (.int 2))), .slc (.idx (.var 4) (.cst (.int 0))) none (some (.cst (.int 2)))], .slc (.var 3) (some (.cst (.int 2))) none])] []],
  .frz [2] (.ret (.call 34 [.var 2]))] }
def f38 : Fn := { name := "joined", N := ["one", "other"], np := 2, body := [
  .exp (.call 31 [.var 0]),
  .exp (.call 31 [.var 1]),
  .ret (.call 34 [.lst [.star (.var 0), .star (.var 1)]])] }
def f39 : Fn := { name := "less_stretches", N := ["one", "other"], np := 2, body := [
  .exp (.call 31 [.var 0]),
  .exp (.call 31 [.var 1]),
  .ret (.call 36 [.var 0, .var 1])], own := "less" }
def f40 : Fn := { name := "since", N := ["one", "other"], np := 2, body := [
  .exp (.call 31 [.var 0]),
  .exp (.call 31 [.var 1]),
  .ret (.call 37 [.var 0, .var 1])] }
def f41 : Fn := { name := "lasts", N := ["stretches", "length", "one"], np := 2, body := [
  .exp (.call 31 [.var 0]),
  .exp (.call 32 [.var 1]),
  .ret (.bi .any [.cmpr [2] (.nm 2) (.var 0) [] (.cmp .LtE (.call 21 [.call 22 [.idx (.var 2) (.cst (.int 0)), .var 1], .idx (.var 2) (.cst (.int 2))]) (.cst (.int 0)))])] }
def f42 : Fn := { name := "_law_pot", N := ["script", "place", "cell", "own", "small"], np := 2, body := [
  .set 2 (.ite (.cmp .Lt (.var 1) (.bi .len [.var 0])) (.idx (.var 0) (.var 1)) (.bin .Add (.bin .Add (.bin .Mod (.bi .int [.bi .sum [.slc (.var 0) none (some (.cst (.int 1)))]]) (.cst (.int 1000003))) (.bin .Mult (.cst (.int 1409)) (.var 1))) (.cst (.int 1023)))),
  .set 3 (.bin .Mult (.bin .Mod (.bi .int [.bi .abs [.var 2]]) (.bin .Pow (.bin .Pow (.cst (.int 10)) (.cst (.int 60))) (.cst (.int 5)))) (.bi .int [.cmp .GtE (.bi .abs [.var 2]) (.bin .Pow (.cst (.int 10)) (.cst (.int 18)))])),
  .set 4 (.bin .Mod (.bi .int [.var 2]) (.cst (.int 2305843009213693951))),
  .ret (.box [.var 3, .bin .Mod (.bi .int [.bin .Add (.bin .Add (.bin .Mult (.var 4) (.cst (.int 85605))) (.bin .Mult (.bin .Mult (.cst (.int 9997)) (.var 1)) (.var 1))) (.cst (.int 581))]) (.cst (.int 2305843009213693921)), .cst (.int 0)])] }
def f43 : Fn := { name := "_law_take", N := ["pot", "upto", "prime", "blend", "digit"], np := 2, body := [
  .ite (.cmp .Gt (.idx (.var 0) (.cst (.int 0))) (.cst (.int 0))) [.set 4 (.bin .Mod (.bi .int [.idx (.var 0) (.cst (.int 0))]) (.var 1)), .put (.var 0) (.cst (.int 0)) (.bin .FloorDiv (.idx (.var 0) (.cst (.int 0))) (.var 1)), .ret (.var 4)] [],
  .put (.var 0) (.cst (.int 2)) (.bin .Add (.idx (.var 0) (.cst (.int 2))) (.cst (.int 1))),
  .set 2 (.idx (.lst [.cst (.int 2147483647), .cst (.int 2147483629), .cst (.int 2147483587), .cst (.int 2147483579), .cst (.int 2147483563)]) (.bin .Mod (.bi .int [.idx (.var 0) (.cst (.int 2))]) (.cst (.int 5)))),
  .set 3 (.bin .Mod (.bi .int [.bin .Pow (.bi .int [.bin .Add (.bin .Add (.idx (.var 0) (.cst (.int 1))) (.bin .Mult (.bin .Mult (.cst (.int 100207)) (.idx (.var 0) (.cst (.int 2)))) (.idx (.var 0) (.cst (.int 2))))) (.cst (.int 1195))]) (.cst (.int 3))]) (.var 2)),
  .ret (.bin .Mod (.bi .int [.bin .FloorDiv (.bin .Mult (.var 3) (.bin .Add (.bin .Mod (.bi .int [.var 3]) (.cst (.int 10827))) (.bin .Mult (.cst (.int 411)) (.idx (.var 0) (.cst (.int 2)))))) (.cst (.int 255))]) (.var 1))] }
def f44 : Fn := { name := "_law_of", N := ["pot", "some"], np := 2, body := [
  .ret (.idx (.var 1) (.call 43 [.var 0, .bi .len [.var 1]]))] }
def f45 : Fn := { name := "_law_some", N := ["pot", "pool", "many", "lap", "stock", "found"], np := 3, body := [
  .par2 4 true (.bi .list [.var 1]) 5 true (.lst []),
  .for_ (.nm 3) (.rng [.var 2]) [.apop 5 4 (.call 43 [.var 0, .bi .len [.bor 4]])],
  .frz [5] (.ret (.var 5))] }
def f46 : Fn := { name := "_law_cells", N := ["script", "limit"], np := 2, body := [
  .ret (.bi .list [.rng [.bi .max2 [.cst (.int 1), .bi .min2 [.var 1, .bi .len [.var 0]]]]])] }
def f47 : Fn := { name := "_law_common", N := ["one", "other"], np := 2, body := [
  .par [0, 1] [.bi .abs [.var 0], .bi .abs [.var 1]],
  .whl (.cmp .NotEq (.var 1) (.cst (.int 0))) [.par [0, 1] [.var 1, .bin .Mod (.var 0) (.var 1)]],
  .ret (.var 0)] }
def f48 : Fn := { name := "_law_fraction", N := ["top", "bottom", "part"], np := 2, body := [
  .set 2 (.call 47 [.var 0, .var 1]),
  .ret (.ite (.cmp .Gt (.var 1) (.cst (.int 0))) (.tup [.bin .FloorDiv (.var 0) (.var 2), .bin .FloorDiv (.var 1) (.var 2)]) (.tup [.bin .FloorDiv (.neg (.var 0)) (.var 2), .bin .FloorDiv (.neg (.var 1)) (.var 2)]))] }
def f49 : Fn := { name := "_law_root", N := ["number", "low", "high", "middle"], np := 1, body := [
  .par [1, 2] [.cst (.int 0), .bin .LShift (.cst (.int 1)) (.bin .Add (.bin .FloorDiv (.bits (.var 0)) (.cst (.int 2))) (.cst (.int 1)))],
  .whl (.cmp .Gt (.bin .Sub (.var 2) (.var 1)) (.cst (.int 1))) [.set 3 (.bin .FloorDiv (.bin .Add (.var 1) (.var 2)) (.cst (.int 2))), .unp (.tp [.nm 1, .nm 2]) (.ite (.cmp .LtE (.bin .Mult (.var 3) (.var 3)) (.var 0)) (.tup [.var 3, .var 2]) (.tup [.var 1, .var 3]))],
  .ret (.var 1)] }
def f50 : Fn := { name := "_law_sign", N := ["number"], np := 1, body := [
  .ret (.bin .Sub (.bi .int [.cmp .Gt (.var 0) (.cst (.int 0))]) (.bi .int [.cmp .Lt (.var 0) (.cst (.int 0))]))] }
def f51 : Fn := { name := "_law_sign_one", N := ["a", "b", "d", "one", "other"], np := 3, body := [
  .par [3, 4] [.call 50 [.var 0], .ite (.cmp .Gt (.var 2) (.cst (.int 0))) (.call 50 [.var 1]) (.cst (.int 0))],
  .ite (.cmp .GtE (.bin .Mult (.var 3) (.var 4)) (.cst (.int 0))) [.ret (.ite (.cmp .NotEq (.var 3) (.cst (.int 0))) (.var 3) (.var 4))] [],
  .ret (.bin .Mult (.var 3) (.call 50 [.bin .Sub (.bin .Mult (.var 0) (.var 0)) (.bin .Mult (.bin .Mult (.var 1) (.var 1)) (.var 2))]))] }
def f52 : Fn := { name := "_law_sign_two", N := ["a", "b", "d", "c", "e", "mixed", "mine", "one", "other"], np := 5, body := [
  .par [7, 8] [.ite (.cmp .Gt (.var 2) (.cst (.int 0))) (.call 50 [.var 1]) (.cst (.int 0)), .ite (.cmp .Gt (.var 4) (.cst (.int 0))) (.call 50 [.var 3]) (.cst (.int 0))],
  .ite (.cmp .Eq (.var 8) (.cst (.int 0))) [.ret (.call 51 [.var 0, .var 1, .var 2])] [],
  .ite (.cmp .Eq (.var 7) (.cst (.int 0))) [.ret (.call 51 [.var 0, .var 3, .var 4])] [],
  .set 5 (.ite (.cmp .Eq (.var 7) (.var 8)) (.var 7) (.bin .Mult (.var 7) (.call 50 [.bin .Sub (.bin .Mult (.bin .Mult (.var 1) (.var 1)) (.var 2)) (.bin .Mult (.bin .Mult (.var 3) (.var 3)) (.var 4))]))),
  .set 6 (.call 50 [.var 0]),
  .ite (.cmp .GtE (.bin .Mult (.var 6) (.var 5)) (.cst (.int 0))) [.ret (.ite (.cmp .NotEq (.var 6) (.cst (.int 0))) (.var 6) (.var 5))] [],
  .ret (.bin .Mult (.var 6) (.call 51 [.bin .Sub (.bin .Sub (.bin .Mult (.var 0) (.var 0)) (.bin .Mult (.bin .Mult (.var 1) (.var 1)) (.var 2))) (.bin .Mult (.bin .Mult (.var 3) (.var 3)) (.var 4)), .bin .Mult (.bin .Mult (.neg (.cst (.int 2))) (.var 1)) (.var 3), .bin .Mult (.var 2) (.var 4)]))] }
def f53 : Fn := { name := "_law_moment", N := ["number", "root", "part", "p", "q", "d", "r", "a", "b", "c"], np := 1, body := [
  .unp (.tp [.nm 3, .nm 4, .nm 5, .nm 6]) (.var 0),
  .set 1 (.ite (.cmp .Gt (.var 5) (.cst (.int 0))) (.call 49 [.var 5]) (.cst (.int 0))),
  .ite (.or (.cmp .Eq (.var 4) (.cst (.int 0))) (.cmp .Eq (.bin .Mult (.var 1) (.var 1)) (.var 5))) [.ret (.call 48 [.bin .Add (.var 3) (.bin .Mult (.var 4) (.var 1)), .var 6])] [],
  .par [7, 8, 9] [.bin .Mult (.var 6) (.var 6), .bin .Mult (.bin .Mult (.neg (.cst (.int 2))) (.var 3)) (.var 6), .bin .Sub (.bin .Mult (.var 3) (.var 3)) (.bin .Mult (.bin .Mult (.var 4) (.var 4)) (.var 5))],
  .set 2 (.call 47 [.call 47 [.var 7, .var 8], .var 9]),
  .ret (.tup [.bin .FloorDiv (.var 7) (.var 2), .bin .FloorDiv (.var 8) (.var 2), .bin .FloorDiv (.var 9) (.var 2), .call 50 [.var 4]])] }
def f54 : Fn := { name := "_law_compare", N := ["one", "other", "p", "q", "d", "r", "s", "t", "e", "u"], np := 2, body := [
  .unp (.tp [.tp [.nm 2, .nm 3, .nm 4, .nm 5], .tp [.nm 6, .nm 7, .nm 8, .nm 9]]) (.tup [.var 0, .var 1]),
  .ret (.call 52 [.bin .Sub (.bin .Mult (.var 2) (.var 9)) (.bin .Mult (.var 6) (.var 5)), .bin .Mult (.var 3) (.var 9), .var 4, .bin .Mult (.neg (.var 7)) (.var 5), .var 8])] }
def f55 : Fn := { name := "_law_later", N := ["number", "length", "p", "q", "d", "r", "top", "bottom"], np := 2, body := [
  .unp (.tp [.nm 2, .nm 3, .nm 4, .nm 5]) (.var 0),
  .unp (.tp [.nm 6, .nm 7]) (.var 1),
  .ret (.tup [.bin .Add (.bin .Mult (.var 2) (.var 7)) (.bin .Mult (.var 6) (.var 5)), .bin .Mult (.var 3) (.var 7), .var 4, .bin .Mult (.var 5) (.var 7)])] }
def f56 : Fn := { name := "_law_amid", N := ["one", "other", "bits", "whole_v", "found", "more", "p", "q", "d", "r"], np := 2, body := [
  .set 2 (.cst (.int 1)),
  .whl (.cst (.bl true)) [.unp (.tp [.nm 6, .nm 7, .nm 8, .nm 9]) (.var 0), .set 3 (.bin .Add (.bin .LShift (.var 6) (.var 2)) (.bin .Mult (.call 50 [.var 7]) (.call 49 [.bin .LShift (.bin .Mult (.bin .Mult (.var 7) (.var 7)) (.var 8)) (.bin .Mult (.cst (.int 2)) (.var 2))]))), .set 4 (.tup [.bin .Add (.bin .FloorDiv (.var 3) (.var 9)) (.cst (.int 1)), .cst (.int 0), .cst (.int 0), .bin .LShift (.cst (.int 1)) (.var 2)]), .for_ (.nm 5) (.rng [.cst (.int 3)]) [.set 4 (.tup [.bin .Add (.bin .FloorDiv (.var 3) (.var 9)) (.var 5), .cst (.int 0), .cst (.int 0), .bin .LShift (.cst (.int 1)) (.var 2)]), .ite (.and (.cmp .Lt (.call 54 [.var 0, .var 4]) (.cst (.int 0))) (.cmp .Lt (.call 54 [.var 4, .var 1]) (.cst (.int 0)))) [.ret (.var 4)] []], .set 2 (.bin .Add (.var 2) (.cst (.int 3)))]] }
def f57 : Fn := { name := "_law_sorted", N := ["numbers", "found", "number", "low", "high", "middle"], np := 1, body := [
  .own 1 (.lst []),
  .for_ (.nm 2) (.var 0) [.par [3, 4] [.cst (.int 0), .bi .len [.bor 1]], .whl (.cmp .Lt (.var 3) (.var 4)) [.set 5 (.bin .FloorDiv (.bin .Add (.var 3) (.var 4)) (.cst (.int 2))), .ite (.cmp .Lt (.call 54 [.idx (.bor 1) (.var 5), .var 2]) (.cst (.int 0))) [.set 3 (.bin .Add (.var 5) (.cst (.int 1)))] [.set 4 (.var 5)]], .ite (.or (.cmp .Eq (.var 3) (.bi .len [.bor 1])) (.cmp .NotEq (.call 54 [.idx (.bor 1) (.var 3), .var 2]) (.cst (.int 0)))) [.ins 1 (.var 3) (.var 2)] []],
  .frz [1] (.ret (.var 1))] }
def f58 : Fn := { name := "_law_told_stretches", N := ["stretches", "low", "low_in", "high", "high_in"], np := 1, body := [
  .ret (.bi .tuple [.cmpr [1, 2, 3, 4] (.tp [.nm 1, .nm 2, .nm 3, .nm 4]) (.var 0) [] (.tup [.call 53 [.var 1], .var 2, .call 53 [.var 3], .var 4])])] }
def f59 : Fn := { name := "_law_is_in_stretch", N := ["stretch", "number", "low", "low_in", "high", "high_in", "one", "other"], np := 2, body := [
  .unp (.tp [.nm 2, .nm 3, .nm 4, .nm 5]) (.var 0),
  .par [6, 7] [.call 54 [.var 2, .var 1], .call 54 [.var 1, .var 4]],
  .ret (.and (.or (.cmp .Lt (.var 6) (.cst (.int 0))) (.and (.cmp .Eq (.var 6) (.cst (.int 0))) (.var 3))) (.or (.cmp .Lt (.var 7) (.cst (.int 0))) (.and (.cmp .Eq (.var 7) (.cst (.int 0))) (.var 5))))] }
def f60 : Fn := { name := "_law_has", N := ["stretches", "number", "stretch"], np := 2, body := [
  .ret (.bi .any [.cmpr [2] (.nm 2) (.var 0) [] (.call 59 [.var 2, .var 1])])] }
def f61 : Fn := { name := "_law_put_together", N := ["points", "found", "begun", "number", "is_so", "is_behind"], np := 1, body := [
  .par2 1 true (.lst []) 2 false (.cst .non),
  .for_ (.tp [.nm 3, .nm 4, .nm 5]) (.var 0) [.ite (.and (.cmp .IsNot (.var 2) (.cst .non)) (.not (.var 4))) [.app 1 (.bin .Add (.var 2) (.tup [.var 3, .cst (.bl false)])), .set 2 (.cst .non)] [], .ite (.and (.cmp .Is (.var 2) (.cst .non)) (.var 4)) [.set 2 (.tup [.var 3, .cst (.bl true)])] [], .ite (.and (.cmp .IsNot (.var 2) (.cst .non)) (.not (.var 5))) [.app 1 (.bin .Add (.var 2) (.tup [.var 3, .cst (.bl true)])), .set 2 (.cst .non)] [], .ite (.and (.cmp .Is (.var 2) (.cst .non)) (.var 5)) [.set 2 (.tup [.var 3, .cst (.bl false)])] []],
  .frz [1] (.ret (.var 1))] }
def f62 : Fn := { name := "_law_by_rule", N := ["numbers", "rule", "stuff", "some", "points", "at", "number", "behind"], np := 3, body := [
  .par2 3 false (.call 57 [.var 0]) 4 true (.lst []),
  .for_ (.tp [.nm 5, .nm 6]) (.enu (.var 3)) [.set 7 (.and (.cmp .Lt (.bin .Add (.var 5) (.cst (.int 1))) (.bi .len [.var 3])) (.callv (.var 1) [.var 2, .call 56 [.var 6, .idx (.var 3) (.bin .Add (.var 5) (.cst (.int 1)))]])), .app 4 (.tup [.var 6, .callv (.var 1) [.var 2, .var 6], .var 7])],
  .frz [4] (.ret (.call 61 [.var 4]))] }
def f63 : Fn := { name := "_law_ends", N := ["stretches", "low", "low_in", "high", "high_in"], np := 1, body := [
  .ret (.bin .Add (.cmpr [1, 2, 3, 4] (.tp [.nm 1, .nm 2, .nm 3, .nm 4]) (.var 0) [] (.var 1)) (.cmpr [1, 2, 3, 4] (.tp [.nm 1, .nm 2, .nm 3, .nm 4]) (.var 0) [] (.var 3)))] }
def f64 : Fn := { name := "_law_joined", N := ["stretches", "ends"], np := 1, body := [
  .set 1 (.call 63 [.var 0]),
  .ret (.ite (.cmp .NotEq (.var 1) (.lst [])) (.call 62 [.var 1, .fnv 60, .var 0]) (.lst []))] }
def f65 : Fn := { name := "_law_drawn_fraction", N := ["pot", "most"], np := 2, body := [
  .ret (.call 48 [.bin .Sub (.call 43 [.var 0, .bin .Add (.bin .Mult (.cst (.int 2)) (.var 1)) (.cst (.int 1))]) (.var 1), .call 44 [.var 0, .lst [.cst (.int 1), .cst (.int 1), .cst (.int 1), .cst (.int 2), .cst (.int 3)]]])] }
def f66 : Fn := { name := "_law_drawn_number", N := ["pot", "top", "bottom"], np := 1, body := [
  .ite (.cmp .Gt (.call 43 [.var 0, .cst (.int 3)]) (.cst (.int 0))) [.unp (.tp [.nm 1, .nm 2]) (.call 65 [.var 0, .cst (.int 6)]), .ret (.tup [.var 1, .cst (.int 0), .cst (.int 0), .var 2])] [],
  .ret (.tup [.bi .int [.bin .Sub (.call 43 [.var 0, .cst (.int 9)]) (.cst (.int 4))], .call 44 [.var 0, .lst [.cst (.int 1), .neg (.cst (.int 1))]], .call 44 [.var 0, .lst [.cst (.int 2), .cst (.int 3), .cst (.int 5), .cst (.int 7), .cst (.int 8), .cst (.int 12)]], .call 44 [.var 0, .lst [.cst (.int 1), .cst (.int 2), .cst (.int 3)]]])] }
def f67 : Fn := { name := "_law_drawn_stretches", N := ["pot", "most", "some", "lap", "order", "one", "other", "low", "high"], np := 2, body := [
  .own 2 (.lst []),
  .for_ (.nm 3) (.rng [.call 43 [.var 0, .bin .Add (.var 1) (.cst (.int 1))]]) [.par [5, 6] [.call 66 [.var 0], .call 66 [.var 0]], .set 4 (.call 54 [.var 5, .var 6]), .unp (.tp [.nm 7, .nm 8]) (.ite (.cmp .Lt (.var 4) (.cst (.int 0))) (.tup [.var 5, .var 6]) (.tup [.var 6, .var 5])), .app 2 (.tup [.var 7, .or (.cmp .Eq (.var 4) (.cst (.int 0))) (.cmp .Eq (.call 43 [.var 0, .cst (.int 2)]) (.cst (.int 0))), .var 8, .or (.cmp .Eq (.var 4) (.cst (.int 0))) (.cmp .Eq (.call 43 [.var 0, .cst (.int 2)]) (.cst (.int 0)))])],
  .frz [2] (.ret (.call 64 [.var 2]))] }
def f68 : Fn := { name := "_law_drawn_length", N := ["pot"], np := 1, body := [
  .ret (.call 44 [.var 0, .lst [.tup [.cst (.int 0), .cst (.int 1)], .tup [.cst (.int 1), .cst (.int 2)], .tup [.cst (.int 1), .cst (.int 1)], .tup [.cst (.int 1), .cst (.int 1)], .tup [.cst (.int 3), .cst (.int 2)], .tup [.cst (.int 2), .cst (.int 1)], .tup [.cst (.int 5), .cst (.int 3)], .tup [.cst (.int 4), .cst (.int 1)]]])] }
def f69 : Fn := { name := "_law_by_numbers", N := ["numbers", "rule", "stuff"], np := 3, body := [
  .ret (.ite (.cmp .NotEq (.var 0) (.lst [])) (.call 62 [.var 0, .var 1, .var 2]) (.lst []))] }
def f70 : Fn := { name := "_law_meets", N := ["stretch", "low", "high", "one", "other"], np := 3, body := [
  .par [3, 4] [.call 54 [.idx (.var 0) (.cst (.int 0)), .var 2], .call 54 [.var 1, .idx (.var 0) (.cst (.int 2))]],
  .ret (.and (.or (.cmp .Lt (.var 3) (.cst (.int 0))) (.and (.cmp .Eq (.var 3) (.cst (.int 0))) (.idx (.var 0) (.cst (.int 1))))) (.or (.cmp .Lt (.var 4) (.cst (.int 0))) (.and (.cmp .Eq (.var 4) (.cst (.int 0))) (.idx (.var 0) (.cst (.int 3))))))] }
def f71 : Fn := { name := "_law_is_on", N := ["stuff", "number", "here", "first", "second", "stretch"], np := 2, body := [
  .unp (.tp [.nm 3, .nm 4]) (.var 0),
  .ite (.call 60 [.var 4, .var 1]) [.ret (.cst (.bl true))] [],
  .set 2 (.cmpr [5] (.nm 5) (.var 3) [.call 59 [.var 5, .var 1]] (.var 5)),
  .ret (.and (.cmp .NotEq (.var 2) (.lst [])) (.bi .any [.cmpr [5] (.nm 5) (.var 4) [] (.call 70 [.var 5, .idx (.idx (.var 2) (.cst (.int 0))) (.cst (.int 0)), .var 1])]))] }
def f72 : Fn := { name := "_law_own_since", N := ["one", "other"], np := 2, body := [
  .ret (.call 69 [.bin .Add (.call 63 [.var 0]) (.call 63 [.var 1]), .fnv 71, .tup [.var 0, .var 1]])] }
def f73 : Fn := { name := "_law_is_same", N := ["told", "own"], np := 2, body := [
  .ret (.cmp .Eq (.bi .repr [.var 0]) (.bi .repr [.call 58 [.var 1]]))] }
def f74 : Fn := { name := "_law_touching", N := ["pot", "own", "some", "number", "way", "later"], np := 2, body := [
  .own 2 (.lst []),
  .for_ (.nm 3) (.call 45 [.var 0, .call 63 [.var 1], .bi .min2 [.cst (.int 3), .bin .Mult (.cst (.int 2)) (.bi .len [.var 1])]]) [.par [4, 5] [.call 43 [.var 0, .cst (.int 3)], .call 55 [.var 3, .tup [.cst (.int 1), .cst (.int 1)]]], .app 2 (.ite (.cmp .Eq (.var 4) (.cst (.int 0))) (.tup [.var 3, .cst (.bl true), .var 3, .cst (.bl true)]) (.tup [.var 3, .cmp .Eq (.var 4) (.cst (.int 1)), .var 5, .cst (.bl true)]))],
  .frz [2] (.ret (.call 64 [.var 2]))] }
def f75 : Fn := { name := "_law_right", N := ["pot", "lap", "one", "other", "told", "length", "due", "first", "second", "low", "low_in", "high", "high_in"], np := 1, body := [
  .for_ (.nm 1) (.rng [.cst (.int 2)]) [.set 2 (.call 67 [.var 0, .cst (.int 4)]), .set 3 (.ite (.and (.cmp .NotEq (.var 2) (.lst [])) (.cmp .Eq (.call 43 [.var 0, .cst (.int 2)]) (.cst (.int 0)))) (.call 74 [.var 0, .var 2]) (.call 67 [.var 0, .cst (.int 3)])), .par [7, 8] [.call 58 [.var 2], .call 58 [.var 3]], .set 4 (.callk 0 [] [.var 7, .var 8]), .ite (.or (.not (.call 73 [.var 4, .call 72 [.var 2, .var 3]])) (.or (.cmp .NotEq (.call 39 [.var 8, .var 4]) (.tup [])) (.cmp .NotEq (.call 39 [.var 4, .call 38 [.var 7, .var 8]]) (.tup [])))) [.ret (.cst (.bl false))] [], .set 5 (.call 68 [.var 0]), .set 6 (.bi .any [.cmpr [9, 10, 11, 12] (.tp [.nm 9, .nm 10, .nm 11, .nm 12]) (.var 2) [] (.cmp .LtE (.call 54 [.call 55 [.var 9, .var 5], .var 11]) (.cst (.int 0)))]), .ite (.cmp .NotEq (.bi .repr [.callk 1 [] [.var 7, .var 5]]) (.bi .repr [.var 6])) [.ret (.cst (.bl false))] []],
  .ret (.cst (.bl true))] }
def f76 : Fn := { name := "law", N := ["script", "place"], np := 1, body := [
  .ret (.bi .all [.cmpr [1] (.nm 1) (.call 46 [.var 0, .cst (.int 2)]) [] (.call 75 [.call 42 [.var 0, .var 1]])])] }
def prg : Prg := ⟨[f0, f1, f2, f3, f4, f5, f6, f7, f8, f9, f10, f11, f12, f13, f14, f15, f16, f17, f18, f19, f20, f21, f22, f23, f24, f25, f26, f27, f28, f29, f30, f31, f32, f33, f34, f35, f36, f37, f38, f39, f40, f41, f42, f43, f44, f45, f46, f47, f48, f49, f50, f51, f52, f53, f54, f55, f56, f57, f58, f59, f60, f61, f62, f63, f64, f65, f66, f67, f68, f69, f70, f71, f72, f73, f74, f75, f76], [("PAIR_numbers", .int 2), ("PAIR_moments", .int 2), ("QUAD", .int 4), ("FOUR", .int 4)],
  [⟨40, 0, ["one", "other"], [0, 1]⟩,
   ⟨41, 0, ["stretches", "length"], [0, 1]⟩]⟩
@[simp] theorem gc0 : prg.csts[0]? = some (("PAIR_numbers", .int 2) : Str × D) := rfl
@[simp] theorem gc1 : prg.csts[1]? = some (("PAIR_moments", .int 2) : Str × D) := rfl
@[simp] theorem gc2 : prg.csts[2]? = some (("QUAD", .int 4) : Str × D) := rfl
@[simp] theorem gc3 : prg.csts[3]? = some (("FOUR", .int 4) : Str × D) := rfl
@[simp] theorem gk0 : prg.kws[0]? = some (⟨40, 0, ["one", "other"], [0, 1]⟩ : Kwf) := rfl
@[simp] theorem gk1 : prg.kws[1]? = some (⟨41, 0, ["stretches", "length"], [0, 1]⟩ : Kwf) := rfl
end Pv.K08

set_option Elab.async false
set_option linter.all false
set_option maxRecDepth 100000
set_option maxHeartbeats 0
namespace Pv.K08
open PySem PySem.Spec PyProof.Rows L2
def top (i : Nat) : Stmt := PySem.Challenge.pw_crossingstold_k08_whole_since_and_lasts.main.body.getD i (.Pass ⟨0, 0, 0, 0⟩)
def tix : List Nat := [5, 6, 9, 10, 11, 12, 13, 14, 16, 20, 21, 22, 23, 24, 25, 26, 27, 28, 29, 30, 31, 32, 33, 36, 37, 38, 39, 40, 41, 42, 43, 44, 45, 46, 47, 48, 49, 50, 51, 52, 54, 55, 57, 58, 59, 60, 61, 62, 63, 64, 65, 66, 67, 68, 69, 70, 71, 72, 73, 74, 75, 76, 77, 78, 79, 80, 81, 82, 83, 84, 85, 86, 87, 88, 89, 90, 91]
def tx (j : Nat) : Stmt := top (tix.getD j 0)
def fcs : List He.Fa := [.glo "is_whole", .glo "is_tuple", .glo "common", .glo "fraction", .glo "whole", .glo "is_fraction", .glo "plus", .glo "less_numbers", .glo "times", .glo "root_floor", .glo "sign", .glo "square", .glo "sign_of_one", .glo "sign_of_two", .glo "discriminant", .glo "is_root", .glo "is_moment", .glo "moment_of_whole", .glo "scaled_up", .glo "moment_by", .glo "told_parts", .glo "compared_moments", .glo "shifted_by", .glo "low_edges", .glo "greater_low", .glo "lesser_high", .glo "greater_high", .glo "made", .glo "are_apart", .glo "is_stretch", .glo "is_stretches", .glo "check_stretches", .glo "check_length", .glo "put_in", .glo "joined_of", .glo "both_of", .glo "less_of", .glo "since_of", .glo "joined", .glo "less_stretches", .glo "since", .glo "lasts", .glo "_law_pot", .glo "_law_take", .glo "_law_of", .glo "_law_some", .glo "_law_cells", .glo "_law_common", .glo "_law_fraction", .glo "_law_root", .glo "_law_sign", .glo "_law_sign_one", .glo "_law_sign_two", .glo "_law_moment", .glo "_law_compare", .glo "_law_later", .glo "_law_amid", .glo "_law_sorted", .glo "_law_told_stretches", .glo "_law_is_in_stretch", .glo "_law_has", .glo "_law_put_together", .glo "_law_by_rule", .glo "_law_ends", .glo "_law_joined", .glo "_law_drawn_fraction", .glo "_law_drawn_number", .glo "_law_drawn_stretches", .glo "_law_drawn_length", .glo "_law_by_numbers", .glo "_law_meets", .glo "_law_is_on", .glo "_law_own_since", .glo "_law_is_same", .glo "_law_touching", .glo "_law_right", .glo "law", .free "abs", .free "len", .free "all", .free "any", .free "tuple", .free "list", .free "sum", .free "max", .free "min", .free "int", .free "bool", .free "str", .free "repr", .free "isinstance", .free "range", .free "zip", .free "enumerate", .free "reversed", .free "sorted", .free "dict", .free "set", .int "PAIR_numbers" 2, .int "PAIR_moments" 2, .int "QUAD" 4, .int "FOUR" 4]
def tcs : List Tc := []
def dds : List He.DefD := [ddOf f0 (top 5), ddOf f1 (top 6), ddOf f2 (top 9), ddOf f3 (top 10), ddOf f4 (top 11), ddOf f5 (top 12), ddOf f6 (top 13), ddOf f7 (top 14), ddOf f8 (top 16), ddOf f9 (top 20), ddOf f10 (top 21), ddOf f11 (top 22), ddOf f12 (top 23), ddOf f13 (top 24), ddOf f14 (top 25), ddOf f15 (top 26), ddOf f16 (top 27), ddOf f17 (top 28), ddOf f18 (top 29), ddOf f19 (top 30), ddOf f20 (top 31), ddOf f21 (top 32), ddOf f22 (top 33), ddOf f23 (top 36), ddOf f24 (top 37), ddOf f25 (top 38), ddOf f26 (top 39), ddOf f27 (top 40), ddOf f28 (top 41), ddOf f29 (top 42), ddOf f30 (top 43), ddOf f31 (top 44), ddOf f32 (top 45), ddOf f33 (top 46), ddOf f34 (top 47), ddOf f35 (top 48), ddOf f36 (top 49), ddOf f37 (top 50), ddOf f38 (top 51), ddOf f39 (top 52), ddOf f40 (top 54), ddOf f41 (top 55), ddOf f42 (top 57), ddOf f43 (top 58), ddOf f44 (top 59), ddOf f45 (top 60), ddOf f46 (top 61), ddOf f47 (top 62), ddOf f48 (top 63), ddOf f49 (top 64), ddOf f50 (top 65), ddOf f51 (top 66), ddOf f52 (top 67), ddOf f53 (top 68), ddOf f54 (top 69), ddOf f55 (top 70), ddOf f56 (top 71), ddOf f57 (top 72), ddOf f58 (top 73), ddOf f59 (top 74), ddOf f60 (top 75), ddOf f61 (top 76), ddOf f62 (top 77), ddOf f63 (top 78), ddOf f64 (top 79), ddOf f65 (top 80), ddOf f66 (top 81), ddOf f67 (top 82), ddOf f68 (top 83), ddOf f69 (top 84), ddOf f70 (top 85), ddOf f71 (top 86), ddOf f72 (top 87), ddOf f73 (top 88), ddOf f74 (top 89), ddOf f75 (top 90), ddOf f76 (top 91)]
def loose0 : List Str := ["WatchError", "BadLength", "BadStretches", "is_whole", "is_tuple", "PAIR_numbers", "common", "fraction", "whole", "is_fraction", "plus", "less", "less_numbers", "times", "PAIR_moments", "QUAD", "root_floor", "sign", "square", "sign_of_one", "sign_of_two", "discriminant", "is_root", "is_moment", "moment_of_whole", "scaled_up", "moment_by", "told_parts", "compared_moments", "shifted_by"]
def loose1 : List Str := ["FOUR", "low_edges", "greater_low", "lesser_high", "greater_high", "made", "are_apart", "is_stretch", "is_stretches", "check_stretches", "check_length", "put_in", "joined_of", "both_of", "less_of", "since_of", "joined", "less_stretches", "since", "lasts", "_law_pot", "_law_take", "_law_of", "_law_some", "_law_cells", "_law_common", "_law_fraction", "_law_root", "_law_sign", "_law_sign_one"]
def loose2 : List Str := ["_law_sign_two", "_law_moment", "_law_compare", "_law_later", "_law_amid", "_law_sorted", "_law_told_stretches", "_law_is_in_stretch", "_law_has", "_law_put_together", "_law_by_rule", "_law_ends", "_law_joined", "_law_drawn_fraction", "_law_drawn_number", "_law_drawn_stretches", "_law_drawn_length", "_law_by_numbers", "_law_meets", "_law_is_on", "_law_own_since", "_law_is_same", "_law_touching", "_law_right"]
def loose : List Str := loose0 ++ loose1 ++ loose2
abbrev R : PySem.W.OpenRow := PySem.W.OpenLaw.row PySem.Challenge.rw_crossingstold_k08_whole_since_and_lasts
abbrev hk : PySem.W.Hook := hookV 4 fcs dds tcs
def ob (s : PySem.W.SharedT) : He.AlD := obsVG 4 fcs dds tcs (HandSHeadRun.getT s)
theorem ob_eq (s : PySem.W.SharedT) : ob s = hk.obs s.abs := obsVG_eq (HandSHeadRun.getT_eq s)
open PySem.W HandSHeadRun PySem.Calls in
theorem run_a (w : World) : ∀ os : OsState, ((HandSHeadRun.endF (stepQ (denQ tabQ) R.prog w) 3800 R.prog w os).map fun s => looksF R.prog (boot_heap w.params) s.abs) = some true := by
  intro os
  kernel_rfl
open PySem.W HandSHeadRun PySem.Calls in
theorem run_b (w : World) : ∀ os : OsState, ((HandSHeadRun.endF (stepQ (denQ tabQ) R.prog w) 3800 R.prog w os).map fun s => seenQ (view R.prog [91]) loose (importedModules R.prog.main.body) (fun s => xlAt (view R.prog [91]) [] s && recOk R.toRowW.records s) s.abs) = some (openGood (view R.prog [91]) loose) := by
  intro os
  kernel_rfl
open PySem.W HandSHeadRun PySem.Calls in
theorem run_c (w : World) : ∀ os : OsState, ((HandSHeadRun.endF (stepQ (denQ tabQ) R.prog w) 3800 R.prog w os).map fun s => (ob s).1) = some true := by
  intro os
  kernel_rfl
open PySem.W HandSHeadRun PySem.Calls in
theorem run_d (w : World) : ∀ os : OsState, ((HandSHeadRun.endF (stepQ (denQ tabQ) R.prog w) 3800 R.prog w os).map fun s => (ob s).2) = some (hk.val w).2 := by
  intro os
  kernel_rfl
theorem run (w : World) : HandSHeadRun.RunEq R (PySem.W.view R.prog [91]) hk ob 3800 loose w := fun os => split4 (run_a w os) (run_b w os) (run_c w os) (run_d w os)
end Pv.K08

set_option Elab.async false
set_option linter.all false
set_option maxRecDepth 100000
/-! Ev: words for showing what the evaluator gives. -/
namespace Pv
open PySem

/-! ### sizes -/
def Bd (k : Nat) (i : Int) : Prop := i.natAbs < 2 ^ k
theorem Bd.mono {k l : Nat} {i : Int} (h : Bd k i) (kl : k ≤ l) : Bd l i := Nat.lt_of_lt_of_le h (Nat.pow_le_pow_right (by decide) kl)
theorem Bd.log {k : Nat} {i : Int} (h : Bd k i) : i.natAbs.log2 ≤ k := by
  unfold Bd at h
  by_cases c : i.natAbs = 0
  · rw [c]; simp
  · exact Nat.le_of_lt ((Nat.log2_lt c).mpr h)
theorem Bd.mul {k l : Nat} {i j : Int} (h : Bd k i) (q : Bd l j) : Bd (k + l) (i * j) := by
  unfold Bd at *
  rw [Int.natAbs_mul, Nat.pow_add]
  exact Nat.mul_lt_mul'' h q
theorem Bd.neg {k : Nat} {i : Int} (h : Bd k i) : Bd k (-i) := by
  unfold Bd at *
  rw [Int.natAbs_neg]; exact h
theorem Bd.add {k l m : Nat} {i j : Int} (h : Bd k i) (q : Bd l j) (e1 : k + 1 ≤ m) (e2 : l + 1 ≤ m) : Bd m (i + j) := by
  have h' : Bd (m - 1) i := h.mono (by omega)
  have q' : Bd (m - 1) j := q.mono (by omega)
  unfold Bd at *
  have e : 2 ^ m = 2 ^ (m - 1) + 2 ^ (m - 1) := by
    have : m = (m - 1) + 1 := by omega
    rw [this, Nat.pow_succ]
    simp only [Nat.add_sub_cancel]
    omega
  have := Int.natAbs_add_le i j
  omega
theorem Bd.sub {k l m : Nat} {i j : Int} (h : Bd k i) (q : Bd l j) (e1 : k + 1 ≤ m) (e2 : l + 1 ≤ m) : Bd m (i - j) := by
  rw [Int.sub_eq_add_neg]
  exact h.add q.neg e1 e2
theorem Bd.le {k : Nat} {i j : Int} (h : Bd k i) (q : j.natAbs ≤ i.natAbs) : Bd k j := Nat.lt_of_le_of_lt q h
theorem szMul_ok {k l : Nat} {i j : Int} (h : Bd k i) (q : Bd l j) (e : k + l < 1000000 := by decide) : szMul i j = true := by
  have := h.log
  have := q.log
  unfold szMul
  exact decide_eq_true (by omega)
theorem szDiv_ok {k : Nat} {j : Int} (h : j ≠ 0) (q : Bd k j) (e : k < 9000 := by decide) : szDiv j = true := by
  have := q.log
  unfold szDiv
  rw [Bool.and_eq_true]
  exact ⟨decide_eq_true h, decide_eq_true (by omega)⟩
theorem lt_most {k n : Nat} (h : n < 2 ^ k) (e : k ≤ 2000000) : n < most := by
  rw [most_eq]
  exact Nat.lt_of_lt_of_le h (Nat.pow_le_pow_right (by decide) e)

/-! ### steps -/
section
variable {P : Prg} {cf : Nat → List D → Sto → Option (D × Sto)}
theorem cf_s {k j : Nat} {ds : List D} {S : Sto} {g : Fn} (h : P.fns[j]? = some g) : callF P (k + 1) j ds S = runF P (callF P k) g ds S := by
  show (P.fns[j]?).bind _ = _
  rw [h]; rfl
@[simp] theorem deB_int (S : Sto) (i : Int) : deB S (.int i) = .int i := rfl
@[simp] theorem deB_bl (S : Sto) (i : Bool) : deB S (.bl i) = .bl i := rfl
@[simp] theorem deB_non (S : Sto) : deB S .non = .non := rfl
@[simp] theorem deB_str (S : Sto) (i : Str) : deB S (.str i) = .str i := rfl
@[simp] theorem deB_tup (S : Sto) (xs : List D) : deB S (.tup xs) = .tup xs := rfl
@[simp] theorem deB_lst (S : Sto) (xs : List D) : deB S (.lst xs) = .lst xs := rfl
@[simp] theorem deB_fz (S : Sto) (xs : List D) : deB S (.fz xs) = .fz xs := rfl
@[simp] theorem wk_int (i : Int) : wk (.int i) = .int i := rfl
@[simp] theorem wk_bl (i : Bool) : wk (.bl i) = .bl i := rfl
@[simp] theorem wk_str (i : Str) : wk (.str i) = .str i := rfl
@[simp] theorem wk_non : wk .non = .non := rfl
@[simp] theorem wk_tup (xs : List D) : wk (.tup xs) = .tup xs := rfl
@[simp] theorem wk_lst (xs : List D) : wk (.lst xs) = .lst xs := rfl
@[simp] theorem wk_fz (xs : List D) : wk (.fz xs) = .lst xs := rfl
@[simp] theorem b_add (i j : Int) : binD .Add (.int i) (.int j) = some (.int (i + j)) := rfl
@[simp] theorem b_sub (i j : Int) : binD .Sub (.int i) (.int j) = some (.int (i - j)) := rfl
theorem b_mul {i j : Int} (h : szMul i j = true) : binD .Mult (.int i) (.int j) = some (.int (i * j)) := if_pos h
theorem b_div {i j : Int} (h : szDiv j = true) : binD .FloorDiv (.int i) (.int j) = some (.int (i.fdiv j)) := if_pos h
theorem b_mod {i j : Int} (h : j ≠ 0) : binD .Mod (.int i) (.int j) = some (.int (i.fmod j)) := if_neg h
@[simp] theorem c_lt (i j : Int) : cmpD .Lt (.int i) (.int j) = some (decide (i < j)) := rfl
@[simp] theorem c_le (i j : Int) : cmpD .LtE (.int i) (.int j) = some (decide (i ≤ j)) := rfl
@[simp] theorem c_gt (i j : Int) : cmpD .Gt (.int i) (.int j) = some (decide (j < i)) := rfl
@[simp] theorem c_ge (i j : Int) : cmpD .GtE (.int i) (.int j) = some (decide (j ≤ i)) := rfl
@[simp] theorem c_eq (i j : Int) : cmpD .Eq (.int i) (.int j) = some (decide (i = j)) := rfl
@[simp] theorem c_ne (i j : Int) : cmpD .NotEq (.int i) (.int j) = some (!decide (i = j)) := rfl
@[simp] theorem c_eqs (i j : Str) : cmpD .Eq (.str i) (.str j) = some (decide (i = j)) := rfl
@[simp] theorem c_nes (i j : Str) : cmpD .NotEq (.str i) (.str j) = some (!decide (i = j)) := rfl
@[simp] theorem c_is (x : D) : cmpD .Is x .non = some (isNon x) := by cases x <;> rfl
@[simp] theorem pure_int (i : Int) : (D.int i).pure = true := rfl
@[simp] theorem pure_bl (i : Bool) : (D.bl i).pure = true := rfl
@[simp] theorem pure_str (i : Str) : (D.str i).pure = true := rfl
@[simp] theorem pure_non : D.non.pure = true := rfl
@[simp] theorem pure_tup (xs : List D) : (D.tup xs).pure = pures xs := rfl
@[simp] theorem pure_lst (xs : List D) : (D.lst xs).pure = pures xs := rfl
@[simp] theorem pures_nil : pures [] = true := rfl
@[simp] theorem pures_cons (x : D) (xs : List D) : pures (x :: xs) = (x.pure && pures xs) := rfl

/-! a def's end -/
theorem endF_rt {n : Nat} {d : D} {S : Sto} (h : d.pure = true) : endF n (some (.rt d, S)) = some (d, S.take n) := by
  show (if d.pure = true then _ else _) = _
  rw [if_pos h]
theorem endF_nx {n : Nat} {r : Rho} {S : Sto} : endF n (some (.nx r, S)) = some (.non, S.take n) := rfl
theorem take_self (S : Sto) : S.take S.length = S := List.take_length

/-! loops -/
theorem whl_ind {c : Rho → Sto → Option (D × Sto)} {b : Rho → Sto → Option (Out × Sto)} (I : Rho → Sto → Prop) (m : Rho → Sto → Nat)
    (st : ∀ r S, I r S → c r S = some (.bl false, S) ∨ (c r S = some (.bl true, S) ∧ ∃ r1 S1, b r S = some (.nx r1, S1) ∧ I r1 S1 ∧ m r1 S1 < m r S)) :
    ∀ (n : Nat) (r : Rho) (S : Sto), I r S → m r S < n → ∃ r1 S1, whl c b n r S = some (.nx r1, S1) ∧ I r1 S1 ∧ c r1 S1 = some (.bl false, S1)
  | 0, r, S, _, h => absurd h (Nat.not_lt_zero _)
  | n + 1, r, S, i, h => by
    rcases st r S i with e | ⟨e, r1, S1, e1, i1, h1⟩
    · exact ⟨r, S, by rw [whl, e]; rfl, i, e⟩
    · obtain ⟨r2, S2, e2, i2, f2⟩ := whl_ind I m st n r1 S1 i1 (by omega)
      refine ⟨r2, S2, ?_, i2, f2⟩
      rw [whl, e]
      show (b r S).bind _ = _
      rw [e1]
      exact e2
end

theorem bits_le (i : Int) : Builtin.Int.intBits i ≤ i.natAbs.log2 + 1 := by
  unfold Builtin.Int.intBits
  split <;> omega
/-! ### the greatest common divisor by remainders -/
theorem gcd_fmod {a b : Int} : Int.gcd b (a.fmod b) = Int.gcd a b := by
  have e : a.fmod b = a + b * (-(a.fdiv b)) := by
    have := Int.mul_fdiv_add_fmod a b
    rw [Int.mul_neg]
    omega
  rw [e, Int.gcd_add_mul_left_right, Int.gcd_comm]
end Pv

set_option Elab.async false
set_option linter.all false
set_option maxRecDepth 100000
/-! Ev2: the evaluator as a machine: what follows a part stands as a named word, so that simp computes along the text and never beneath a binder. -/
namespace Pv
open PySem

noncomputable section
variable (P : Prg) (cf : Nat → List D → Sto → Option (D × Sto))
abbrev Rs := Option (D × Sto)
abbrev Ro := Option (Out × Sto)
def kv (S : Sto) (d : D) : D × Sto := (d, S)
def kb (S : Sto) (d : Bool) : D × Sto := (.bl d, S)
def kVar (S : Sto) : Option Slot → Rs
  | some (some (false, d)) => some (d, S)
  | _ => none
def kBor (S : Sto) : Option Slot → Rs
  | some (some (_, d)) => some (d, S)
  | _ => none
def kGlb (S : Sto) (p : Str × D) : D × Sto := (p.2, S)
def kBin2 (op : Operator) (d : D) (q : D × Sto) : Rs := (binD op (deB q.2 d) (deB q.2 q.1)).map (kv q.2)
def kBin (op : Operator) (b : E) (r : Rho) (p : D × Sto) : Rs := (evE P cf b r p.2).bind (kBin2 op p.1)
def kNeg (p : D × Sto) : Rs := match p.1 with
    | .int i => some (.int (-i), p.2)
    | _ => none
def kNot (p : D × Sto) : Rs := match p.1 with
    | .bl b => some (.bl (!b), p.2)
    | _ => none
def kAnd (b : E) (r : Rho) (p : D × Sto) : Rs := match p.1 with
    | .bl true => evE P cf b r p.2
    | .bl false => some (.bl false, p.2)
    | _ => none
def kOr (b : E) (r : Rho) (p : D × Sto) : Rs := match p.1 with
    | .bl true => some (.bl true, p.2)
    | .bl false => evE P cf b r p.2
    | _ => none
def kCmp2 (op : CmpOp) (d : D) (q : D × Sto) : Rs := (cmpD op (deB q.2 d) (deB q.2 q.1)).map (kb q.2)
def kCmp (op : CmpOp) (b : E) (r : Rho) (p : D × Sto) : Rs := (evE P cf b r p.2).bind (kCmp2 op p.1)
def kIte (a b : E) (r : Rho) (p : D × Sto) : Rs := match p.1 with
    | .bl true => evE P cf a r p.2
    | .bl false => evE P cf b r p.2
    | _ => none
def kTup (p : List D × Sto) : Rs := if p.1.length ≤ 100000 then some (.tup p.1, p.2) else none
def kLst (p : List D × Sto) : Rs := if p.1.length ≤ 100000 then some (.lst p.1, p.2) else none
def kBox (p : List D × Sto) : Rs := if pures p.1 && decide (p.1.length ≤ 100000) then some (.ref p.2.length, p.2 ++ [p.1]) else none
def kIdx2 (d : D) (q : D × Sto) : Rs := (idxD (wk (deB q.2 d)) q.1).map (kv q.2)
def kIdx (i : E) (r : Rho) (p : D × Sto) : Rs := (evE P cf i r p.2).bind (kIdx2 p.1)
def kSlc3 (d : D) (q : Option Int × Sto) (q2 : Option Int × Sto) : Rs := (slcD (wk (deB q2.2 d)) q.1 q2.1).map (kv q2.2)
def kSlc2 (d : D) (hi : Option E) (r : Rho) (q : Option Int × Sto) : Rs := (evO P cf hi r q.2).bind (kSlc3 d q)
def kSlc (lo hi : Option E) (r : Rho) (p : D × Sto) : Rs := (evO P cf lo r p.2).bind (kSlc2 P cf p.1 hi r)
def kRev (p : D × Sto) : Rs := (revD (deB p.2 p.1)).map (kv p.2)
def kCall (f : Nat) (p : List D × Sto) : Rs := cf f p.1 p.2
def kCk4 (f : Nat) (S : Sto) (ds : List D) : Rs := cf f ds S
def kCk3 (w : Kwf) (p p2 : List D × Sto) : Rs := if p.1.length = w.n ∧ p2.1.length = w.ks.length then (pick w.perm (p.1 ++ p2.1)).bind (kCk4 cf w.f p2.2) else none
def kCk2 (w : Kwf) (ks : List E) (r : Rho) (p : List D × Sto) : Rs := (evEs P cf ks r p.2).bind (kCk3 cf w p)
def kCk (es ks : List E) (r : Rho) (S : Sto) (w : Kwf) : Rs := (evEs P cf es r S).bind (kCk2 P cf w ks r)
def kCv (es : List E) (r : Rho) (p : D × Sto) : Rs := match p.1 with
    | .fn j => (evEs P cf es r p.2).bind (kCall cf j)
    | _ => none
def wds (S : Sto) : List D → List D
  | [] => []
  | d :: ds => wk (deB S d) :: wds S ds
theorem wds_eq (S : Sto) : ∀ ds : List D, ds.map (fun d => wk (deB S d)) = wds S ds
  | [] => rfl
  | d :: ds => by rw [List.map_cons, wds_eq S ds]; rfl
def kBi (b : Bi) (p : List D × Sto) : Rs := (biD b (wds p.2 p.1)).map (kv p.2)
def kBits (p : D × Sto) : Rs := match p.1 with
    | .int i => some (.int (Builtin.Int.intBits i : Nat), p.2)
    | _ => none
def kC4 (p : D × Sto) : Option D × Sto := (some p.1, p.2)
def kC3 (elt : E) (r : Rho) (b : Bool × Sto) : Option (Option D × Sto) := if b.1 then (evE P cf elt r b.2).map kC4 else some (none, b.2)
def kC2 (ifs : List E) (elt : E) (S : Sto) (r : Rho) : Option (Option D × Sto) := (evIfs P cf ifs r S).bind (kC3 P cf elt r)
/-- one turn of a comprehension -/
def cmpB (own : List Nat) (tg : Tg) (ifs : List E) (elt : E) (r : Rho) (x : D) (S : Sto) : Option (Option D × Sto) := (asg tg x (wipeR r own)).bind (kC2 P cf ifs elt S)
def kL (q : List D × Sto) : D × Sto := (.lst q.1, q.2)
def kCm2 (own : List Nat) (tg : Tg) (ifs : List E) (elt : E) (r : Rho) (S : Sto) (xs : List D) : Rs := if xs.length < 100000 then (compL (cmpB P cf own tg ifs elt r) xs S).map kL else none
def kCm (own : List Nat) (tg : Tg) (ifs : List E) (elt : E) (r : Rho) (p : D × Sto) : Rs := (itemsD (wk p.1)).bind (kCm2 P cf own tg ifs elt r p.2)
def kRng2 (S : Sto) (xs : List D) : D × Sto := (.lst xs, S)
def kRng (p : List D × Sto) : Rs := (rngD p.1).map (kRng2 p.2)
def kZip2 (d : D) (q : D × Sto) : Rs := match wk d, wk q.1 with
    | .lst xs, .lst ys => some (.lst (zipL xs ys), q.2)
    | .tup xs, .tup ys => some (.lst (zipL xs ys), q.2)
    | _, _ => none
def kZip (b : E) (r : Rho) (p : D × Sto) : Rs := (evE P cf b r p.2).bind (kZip2 p.1)
def kEnu (p : D × Sto) : Rs := match wk p.1 with
    | .lst xs => some (.lst (enuL 0 xs), p.2)
    | _ => none
def kCh4 (q1 q2 : D × Sto) (d2 : Bool) : D × Sto := (.bl d2, q2.2)
def kCh3 (op2 : CmpOp) (q q2 : D × Sto) : Rs := (cmpD op2 q.1 q2.1).map (kCh4 q q2)
def kCh2 (op2 : CmpOp) (c : E) (r : Rho) (q : D × Sto) (d : Bool) : Rs := if d then (evE P cf c r q.2).bind (kCh3 op2 q) else some (.bl false, q.2)
def kCh1 (op op2 : CmpOp) (c : E) (r : Rho) (p q : D × Sto) : Rs := (cmpD op p.1 q.1).bind (kCh2 P cf op2 c r q)
def kCh (op op2 : CmpOp) (b c : E) (r : Rho) (p : D × Sto) : Rs := (evE P cf b r p.2).bind (kCh1 P cf op op2 c r p)
def kCons (d : D) (q : List D × Sto) : List D × Sto := (d :: q.1, q.2)
def kEs (es : List E) (r : Rho) (p : D × Sto) : Option (List D × Sto) := (evEs P cf es r p.2).map (kCons p.1)
def kApp (xs : List D) (q : List D × Sto) : List D × Sto := (xs ++ q.1, q.2)
def kSt2 (es : List E) (r : Rho) (S : Sto) (xs : List D) : Option (List D × Sto) := (evEs P cf es r S).map (kApp xs)
def kSt (es : List E) (r : Rho) (p : D × Sto) : Option (List D × Sto) := (itemsD (wk (deB p.2 p.1))).bind (kSt2 P cf es r p.2)
def kIfs (es : List E) (r : Rho) (p : D × Sto) : Option (Bool × Sto) := match p.1 with
    | .bl true => evIfs P cf es r p.2
    | .bl false => some (false, p.2)
    | _ => none
def kO (p : D × Sto) : Option (Option Int × Sto) := match p.1 with
    | .int i => some (some i, p.2)
    | _ => none
def isStar : E → Bool
  | .star _ => true
  | _ => false
/-! statements -/
def kSet (i : Nat) (r : Rho) (p : D × Sto) : Ro := if i < r.length then some (.nx (r.set i (some (false, p.1))), p.2) else none
def kOwn (i : Nat) (r : Rho) (p : D × Sto) : Ro := match p.1 with
    | .lst ds => if i < r.length then some (.nx (r.set i (some (true, .lst ds))), p.2) else none
    | _ => none
def kNx (S : Sto) (r : Rho) : Out × Sto := (.nx r, S)
def kUnp (tg : Tg) (r : Rho) (p : D × Sto) : Ro := (asg tg p.1 r).map (kNx p.2)
def kPar (is : List Nat) (r : Rho) (p : List D × Sto) : Ro := (setAll r is p.1).map (kNx p.2)
def kPut4 (r : Rho) (n : Nat) (ds : List D) (p : D × Sto) (S : Sto) (j : Nat) : Ro := if p.1.pure then some (.nx r, S.set n (ds.set j p.1)) else none
def kPut3 (r : Rho) (n : Nat) (k : Int) (p : D × Sto) (S : Sto) (ds : List D) : Ro := (L2.ixN ds.length k).bind (kPut4 r n ds p S)
def kPut2 (r : Rho) (p q q2 : D × Sto) : Ro := match q.1, q2.1 with
    | .ref n, .int k => (q2.2[n]?).bind (kPut3 r n k p q2.2)
    | _, _ => none
def kPut1 (i : E) (r : Rho) (p q : D × Sto) : Ro := (evE P cf i r q.2).bind (kPut2 r p q)
def kPut (a i : E) (r : Rho) (p : D × Sto) : Ro := (evE P cf a r p.2).bind (kPut1 P cf i r p)
def kAug2 (i : Nat) (op : Operator) (d : D) (r : Rho) (p : D × Sto) : Ro := match op, d, p.1 with
      | .Add, .int a, .int b => some (.nx (r.set i (some (false, .int (a + b)))), p.2)
      | .Sub, .int a, .int b => some (.nx (r.set i (some (false, .int (a - b)))), p.2)
      | _, _, _ => none
def kAug (i : Nat) (op : Operator) (e : E) (r : Rho) (S : Sto) : Option Slot → Ro
    | some (some (false, d)) => (evE P cf e r S).bind (kAug2 i op d r)
    | _ => none
def kExp (r : Rho) (p : D × Sto) : Out × Sto := (.nx r, p.2)
def kAppd (i : Nat) (r : Rho) (p : D × Sto) : Option Slot → Ro
    | some (some (true, .lst ds)) => if ds.length < 100000 then some (.nx (r.set i (some (true, .lst (ds ++ [p.1])))), p.2) else none
    | _ => none
def kAppe (i : Nat) (r : Rho) (p : D × Sto) : Ro := kAppd i r p r[i]?
def kIf (a b : List C) (r : Rho) (p : D × Sto) : Ro := match p.1 with
    | .bl true => exB P cf a r p.2
    | .bl false => exB P cf b r p.2
    | _ => none
def cW (c : E) (r : Rho) (S : Sto) : Rs := evE P cf c r S
def bW (b : List C) (r : Rho) (S : Sto) : Ro := exB P cf b r S
def kFor2 (tg : Tg) (b : List C) (r : Rho) (S : Sto) (xs : List D) : Ro := forL tg (bW P cf b) xs r S
def kFor (tg : Tg) (b : List C) (r : Rho) (p : D × Sto) : Ro := (itemsD (wk p.1)).bind (kFor2 P cf tg b r p.2)
def kRt (p : D × Sto) : Out × Sto := (.rt p.1, p.2)
def kSeq (cs : List C) (q : Out × Sto) : Ro := match q.1 with
      | .nx r1 => exB P cf cs r1 q.2
      | .ct r1 => some (.ct r1, q.2)
      | .bk r1 => some (.bk r1, q.2)
      | .rt d => some (.rt d, q.2)
def kF2 (tg : Tg) (b : Rho → Sto → Ro) (xs : List D) (q : Out × Sto) : Ro := match q.1 with
      | .nx r1 => forL tg b xs r1 q.2
      | .ct r1 => forL tg b xs r1 q.2
      | .bk r1 => some (.nx r1, q.2)
      | .rt d => some (.rt d, q.2)
def kF1 (tg : Tg) (b : Rho → Sto → Ro) (xs : List D) (S : Sto) (r : Rho) : Ro := (b r S).bind (kF2 tg b xs)
end

section
variable {P : Prg} {cf : Nat → List D → Sto → Option (D × Sto)} {r : Rho} {S : Sto} {a b c e : E} {es ks : List E} {i j k n : Nat} {d : D} {ds : List D} {op op2 : Operator}
@[simp] theorem kv_s : kv S d = (d, S) := rfl
@[simp] theorem kb_s {t : Bool} : kb S t = (.bl t, S) := rfl
@[simp] theorem x_cst : evE P cf (.cst d) r S = some (d, S) := by rw [evE]
@[simp] theorem x_var : evE P cf (.var i) r S = kVar S r[i]? := by rw [evE]; rfl
@[simp] theorem kVar_s : kVar S (some (some (false, d))) = some (d, S) := rfl
@[simp] theorem x_bor : evE P cf (.bor i) r S = kBor S r[i]? := by rw [evE]; rfl
@[simp] theorem kBor_s {o : Bool} : kBor S (some (some (o, d))) = some (d, S) := rfl
@[simp] theorem x_glb : evE P cf (.glb j) r S = (P.csts[j]?).map (kGlb S) := by rw [evE]; rfl
@[simp] theorem kGlb_s {x : Str} : kGlb S (x, d) = (d, S) := rfl
@[simp] theorem x_fnv : evE P cf (.fnv j) r S = some (.fn j, S) := by rw [evE]
@[simp] theorem x_bin : evE P cf (.bin op a b) r S = (evE P cf a r S).bind (kBin P cf op b r) := by rw [evE]; rfl
@[simp] theorem kBin_s : kBin P cf op b r (d, S) = (evE P cf b r S).bind (kBin2 op d) := rfl
@[simp] theorem kBin2_s {d2 : D} : kBin2 op d (d2, S) = (binD op (deB S d) (deB S d2)).map (kv S) := rfl
@[simp] theorem x_neg : evE P cf (.neg a) r S = (evE P cf a r S).bind kNeg := by rw [evE]; rfl
@[simp] theorem kNeg_s {t : Int} : kNeg (.int t, S) = some (.int (-t), S) := rfl
@[simp] theorem x_not : evE P cf (.not a) r S = (evE P cf a r S).bind kNot := by rw [evE]; rfl
@[simp] theorem kNot_s {t : Bool} : kNot (.bl t, S) = some (.bl (!t), S) := rfl
@[simp] theorem x_and : evE P cf (.and a b) r S = (evE P cf a r S).bind (kAnd P cf b r) := by rw [evE]; rfl
@[simp] theorem kAnd_t : kAnd P cf b r (.bl true, S) = evE P cf b r S := rfl
@[simp] theorem kAnd_f : kAnd P cf b r (.bl false, S) = some (.bl false, S) := rfl
@[simp] theorem x_or : evE P cf (.or a b) r S = (evE P cf a r S).bind (kOr P cf b r) := by rw [evE]; rfl
@[simp] theorem kOr_t : kOr P cf b r (.bl true, S) = some (.bl true, S) := rfl
@[simp] theorem kOr_f : kOr P cf b r (.bl false, S) = evE P cf b r S := rfl
@[simp] theorem x_cmp {o : CmpOp} : evE P cf (.cmp o a b) r S = (evE P cf a r S).bind (kCmp P cf o b r) := by rw [evE]; rfl
@[simp] theorem kCmp_s {o : CmpOp} : kCmp P cf o b r (d, S) = (evE P cf b r S).bind (kCmp2 o d) := rfl
@[simp] theorem kCmp2_s {o : CmpOp} {d2 : D} : kCmp2 o d (d2, S) = (cmpD o (deB S d) (deB S d2)).map (kb S) := rfl
@[simp] theorem x_chn {o o2 : CmpOp} : evE P cf (.chn o o2 a b c) r S = (evE P cf a r S).bind (kCh P cf o o2 b c r) := by rw [evE]; rfl
@[simp] theorem kCh_s {o o2 : CmpOp} {p : D × Sto} : kCh P cf o o2 b c r p = (evE P cf b r p.2).bind (kCh1 P cf o o2 c r p) := rfl
@[simp] theorem kCh1_s {o o2 : CmpOp} {p q : D × Sto} : kCh1 P cf o o2 c r p q = (cmpD o p.1 q.1).bind (kCh2 P cf o2 c r q) := rfl
@[simp] theorem kCh2_t {o2 : CmpOp} {q : D × Sto} : kCh2 P cf o2 c r q true = (evE P cf c r q.2).bind (kCh3 o2 q) := rfl
@[simp] theorem kCh2_f {o2 : CmpOp} {q : D × Sto} : kCh2 P cf o2 c r q false = some (.bl false, q.2) := rfl
@[simp] theorem kCh3_s {o2 : CmpOp} {q q2 : D × Sto} : kCh3 o2 q q2 = (cmpD o2 q.1 q2.1).map (kCh4 q q2) := rfl
@[simp] theorem kCh4_s {q q2 : D × Sto} {t : Bool} : kCh4 q q2 t = (.bl t, q2.2) := rfl
@[simp] theorem x_ite : evE P cf (.ite c a b) r S = (evE P cf c r S).bind (kIte P cf a b r) := by rw [evE]; rfl
@[simp] theorem kIte_t : kIte P cf a b r (.bl true, S) = evE P cf a r S := rfl
@[simp] theorem kIte_f : kIte P cf a b r (.bl false, S) = evE P cf b r S := rfl
@[simp] theorem x_tup : evE P cf (.tup es) r S = (evEs P cf es r S).bind kTup := by rw [evE]; rfl
@[simp] theorem kTup_s : kTup (ds, S) = if ds.length ≤ 100000 then some (.tup ds, S) else none := rfl
@[simp] theorem x_lst : evE P cf (.lst es) r S = (evEs P cf es r S).bind kLst := by rw [evE]; rfl
@[simp] theorem kLst_s : kLst (ds, S) = if ds.length ≤ 100000 then some (.lst ds, S) else none := rfl
@[simp] theorem x_box : evE P cf (.box es) r S = (evEs P cf es r S).bind kBox := by rw [evE]; rfl
@[simp] theorem kBox_s : kBox (ds, S) = if pures ds && decide (ds.length ≤ 100000) then some (.ref S.length, S ++ [ds]) else none := rfl
@[simp] theorem x_idx : evE P cf (.idx a b) r S = (evE P cf a r S).bind (kIdx P cf b r) := by rw [evE]; rfl
@[simp] theorem kIdx_s : kIdx P cf b r (d, S) = (evE P cf b r S).bind (kIdx2 d) := rfl
@[simp] theorem kIdx2_s {d2 : D} : kIdx2 d (d2, S) = (idxD (wk (deB S d)) d2).map (kv S) := rfl
@[simp] theorem x_slc {lo hi : Option E} : evE P cf (.slc a lo hi) r S = (evE P cf a r S).bind (kSlc P cf lo hi r) := by rw [evE]; rfl
@[simp] theorem kSlc_s {lo hi : Option E} : kSlc P cf lo hi r (d, S) = (evO P cf lo r S).bind (kSlc2 P cf d hi r) := rfl
@[simp] theorem kSlc2_s {hi : Option E} {q : Option Int × Sto} : kSlc2 P cf d hi r q = (evO P cf hi r q.2).bind (kSlc3 d q) := rfl
@[simp] theorem kSlc3_s {q q2 : Option Int × Sto} : kSlc3 d q q2 = (slcD (wk (deB q2.2 d)) q.1 q2.1).map (kv q2.2) := rfl
@[simp] theorem x_rev : evE P cf (.rev a) r S = (evE P cf a r S).bind kRev := by rw [evE]; rfl
@[simp] theorem kRev_s : kRev (d, S) = (revD (deB S d)).map (kv S) := rfl
@[simp] theorem x_call : evE P cf (.call j es) r S = (evEs P cf es r S).bind (kCall cf j) := by rw [evE]; rfl
@[simp] theorem kCall_s : kCall cf j (ds, S) = cf j ds S := rfl
@[simp] theorem x_callk : evE P cf (.callk j es ks) r S = (P.kws[j]?).bind (kCk P cf es ks r S) := by rw [evE]; rfl
@[simp] theorem kCk_s {w : Kwf} : kCk P cf es ks r S w = (evEs P cf es r S).bind (kCk2 P cf w ks r) := rfl
@[simp] theorem kCk2_s {w : Kwf} {p : List D × Sto} : kCk2 P cf w ks r p = (evEs P cf ks r p.2).bind (kCk3 cf w p) := rfl
@[simp] theorem kCk3_s {w : Kwf} {p p2 : List D × Sto} : kCk3 cf w p p2 = if p.1.length = w.n ∧ p2.1.length = w.ks.length then (pick w.perm (p.1 ++ p2.1)).bind (kCk4 cf w.f p2.2) else none := rfl
@[simp] theorem kCk4_s : kCk4 cf j S ds = cf j ds S := rfl
@[simp] theorem pick_nil {xs : List D} : pick [] xs = some [] := rfl
@[simp] theorem pick_cons {xs : List D} {ns : List Nat} : pick (n :: ns) xs = (xs[n]?).bind fun x => (pick ns xs).map fun r => x :: r := rfl
@[simp] theorem x_callv : evE P cf (.callv a es) r S = (evE P cf a r S).bind (kCv P cf es r) := by rw [evE]; rfl
@[simp] theorem kCv_s : kCv P cf es r (.fn j, S) = (evEs P cf es r S).bind (kCall cf j) := rfl
@[simp] theorem x_bi {w : Bi} : evE P cf (.bi w es) r S = (evEs P cf es r S).bind (kBi w) := by
  rw [evE]
  refine congrArg _ (funext fun p => ?_)
  unfold kBi
  rw [wds_eq]
  rfl
@[simp] theorem kBi_s {w : Bi} : kBi w (ds, S) = (biD w (wds S ds)).map (kv S) := rfl
@[simp] theorem wds_nil : wds S [] = [] := rfl
@[simp] theorem wds_cons : wds S (d :: ds) = wk (deB S d) :: wds S ds := rfl
@[simp] theorem x_bits : evE P cf (.bits a) r S = (evE P cf a r S).bind kBits := by rw [evE]; rfl
@[simp] theorem kBits_s {t : Int} : kBits (.int t, S) = some (.int (Builtin.Int.intBits t : Nat), S) := rfl
@[simp] theorem x_cmpr {own : List Nat} {tg : Tg} {ifs : List E} : evE P cf (.cmpr own tg a ifs b) r S = (evE P cf a r S).bind (kCm P cf own tg ifs b r) := by rw [evE]; rfl
@[simp] theorem kCm_s {own : List Nat} {tg : Tg} {ifs : List E} : kCm P cf own tg ifs b r (d, S) = (itemsD (wk d)).bind (kCm2 P cf own tg ifs b r S) := rfl
@[simp] theorem kCm2_s {own : List Nat} {tg : Tg} {ifs : List E} {xs : List D} : kCm2 P cf own tg ifs b r S xs = if xs.length < 100000 then (compL (cmpB P cf own tg ifs b r) xs S).map kL else none := rfl
@[simp] theorem kL_s : kL (ds, S) = (.lst ds, S) := rfl
@[simp] theorem isStar_1 {d : D} : isStar (.cst d) = false := rfl
@[simp] theorem isStar_2 : isStar (.var i) = false := rfl
@[simp] theorem isStar_3 : isStar (.bor i) = false := rfl
@[simp] theorem isStar_4 : isStar (.glb i) = false := rfl
@[simp] theorem isStar_5 : isStar (.fnv i) = false := rfl
@[simp] theorem isStar_6 : isStar (.bin op a b) = false := rfl
@[simp] theorem isStar_7 : isStar (.neg a) = false := rfl
@[simp] theorem isStar_8 : isStar (.not a) = false := rfl
@[simp] theorem isStar_9 : isStar (.and a b) = false := rfl
@[simp] theorem isStar_10 : isStar (.or a b) = false := rfl
@[simp] theorem isStar_11 {o : CmpOp} : isStar (.cmp o a b) = false := rfl
@[simp] theorem isStar_12 {o o2 : CmpOp} : isStar (.chn o o2 a b c) = false := rfl
@[simp] theorem isStar_13 : isStar (.ite a b c) = false := rfl
@[simp] theorem isStar_14 : isStar (.tup es) = false := rfl
@[simp] theorem isStar_15 : isStar (.lst es) = false := rfl
@[simp] theorem isStar_16 : isStar (.box es) = false := rfl
@[simp] theorem isStar_17 : isStar (.idx a b) = false := rfl
@[simp] theorem isStar_18 {lo hi : Option E} : isStar (.slc a lo hi) = false := rfl
@[simp] theorem isStar_19 : isStar (.rev a) = false := rfl
@[simp] theorem isStar_20 : isStar (.call i es) = false := rfl
@[simp] theorem isStar_21 : isStar (.callk i es ks) = false := rfl
@[simp] theorem isStar_22 : isStar (.callv a es) = false := rfl
@[simp] theorem isStar_23 {w : Bi} : isStar (.bi w es) = false := rfl
@[simp] theorem isStar_24 : isStar (.bits a) = false := rfl
@[simp] theorem isStar_25 {own : List Nat} {tg : Tg} : isStar (.cmpr own tg a es b) = false := rfl
@[simp] theorem isStar_26 : isStar (.rng es) = false := rfl
@[simp] theorem isStar_27 : isStar (.zip a b) = false := rfl
@[simp] theorem isStar_28 : isStar (.enu a) = false := rfl
theorem compL_cons {f : D → Sto → Option (Option D × Sto)} {x y : D} {xs ys : List D} {S1 S2 : Sto} (h1 : f x S = some (some y, S1)) (h2 : compL f xs S1 = some (ys, S2)) : compL f (x :: xs) S = some (y :: ys, S2) := by
  simp only [compL, h1, Option.bind_some, h2, Option.map_some]
def kK3 (o : Option D) (q : List D × Sto) : List D × Sto := (match o with | some y => y :: q.1 | none => q.1, q.2)
def kK (f : D → Sto → Option (Option D × Sto)) (xs : List D) (p : Option D × Sto) : Option (List D × Sto) := (compL f xs p.2).map (kK3 p.1)
@[simp] theorem compL_n {f : D → Sto → Option (Option D × Sto)} : compL f [] S = some ([], S) := rfl
@[simp] theorem compL_c {f : D → Sto → Option (Option D × Sto)} {x : D} {xs : List D} : compL f (x :: xs) S = (f x S).bind (kK f xs) := rfl
@[simp] theorem kK_s {f : D → Sto → Option (Option D × Sto)} {o : Option D} {xs : List D} : kK f xs (o, S) = (compL f xs S).map (kK3 o) := rfl
@[simp] theorem kK3_s : kK3 (some d) (ds, S) = (d :: ds, S) := rfl
@[simp] theorem kK3_n : kK3 none (ds, S) = (ds, S) := rfl
@[simp] theorem cmpB_s {own : List Nat} {tg : Tg} {ifs : List E} : cmpB P cf own tg ifs b r d S = (asg tg d (wipeR r own)).bind (kC2 P cf ifs b S) := rfl
@[simp] theorem kC2_s {ifs : List E} : kC2 P cf ifs b S r = (evIfs P cf ifs r S).bind (kC3 P cf b r) := rfl
@[simp] theorem kC3_t : kC3 P cf b r (true, S) = (evE P cf b r S).map kC4 := rfl
@[simp] theorem kC3_f : kC3 P cf b r (false, S) = some (none, S) := rfl
@[simp] theorem kC4_s : kC4 (d, S) = (some d, S) := rfl
@[simp] theorem x_ifs_n : evIfs P cf [] r S = some (true, S) := by rw [evIfs]
@[simp] theorem x_ifs_c : evIfs P cf (e :: es) r S = (evE P cf e r S).bind (kIfs P cf es r) := by rw [evIfs]; rfl
@[simp] theorem kIfs_t : kIfs P cf es r (.bl true, S) = evIfs P cf es r S := rfl
@[simp] theorem kIfs_f : kIfs P cf es r (.bl false, S) = some (false, S) := rfl
@[simp] theorem x_rng : evE P cf (.rng es) r S = (evEs P cf es r S).bind kRng := by rw [evE]; rfl
@[simp] theorem kRng_s : kRng (ds, S) = (rngD ds).map (kRng2 S) := rfl
@[simp] theorem kRng2_s : kRng2 S ds = (.lst ds, S) := rfl
@[simp] theorem x_zip : evE P cf (.zip a b) r S = (evE P cf a r S).bind (kZip P cf b r) := by rw [evE]; rfl
@[simp] theorem kZip_s : kZip P cf b r (d, S) = (evE P cf b r S).bind (kZip2 d) := rfl
@[simp] theorem kZip2_l {xs ys : List D} : kZip2 (.lst xs) (.lst ys, S) = some (.lst (zipL xs ys), S) := rfl
@[simp] theorem kZip2_t {xs ys : List D} : kZip2 (.tup xs) (.tup ys, S) = some (.lst (zipL xs ys), S) := rfl
@[simp] theorem x_enu : evE P cf (.enu a) r S = (evE P cf a r S).bind kEnu := by rw [evE]; rfl
@[simp] theorem kEnu_s {xs : List D} : kEnu (.lst xs, S) = some (.lst (enuL 0 xs), S) := rfl
@[simp] theorem x_es_n : evEs P cf [] r S = some ([], S) := by rw [evEs]
def kE0 (P : Prg) (cf : Nat → List D → Sto → Option (D × Sto)) (es : List E) (r : Rho) (S : Sto) : E → Option (List D × Sto)
  | .star x => (evE P cf x r S).bind (kSt P cf es r)
  | e => (evE P cf e r S).bind (kEs P cf es r)
def kE1 (P : Prg) (cf : Nat → List D → Sto → Option (D × Sto)) (e : E) (es : List E) (r : Rho) (S : Sto) : Bool → Option (List D × Sto)
  | true => kE0 P cf es r S e
  | false => (evE P cf e r S).bind (kEs P cf es r)
@[simp] theorem x_es_c : evEs P cf (e :: es) r S = kE1 P cf e es r S (isStar e) := by
  cases h : isStar e with
  | true =>
    cases e with
    | star x => rw [evEs]; rfl
    | _ => cases h
  | false =>
    rw [evEs]
    · rfl
    · rintro x rfl
      cases h
@[simp] theorem kE1_f : kE1 P cf e es r S false = (evE P cf e r S).bind (kEs P cf es r) := rfl
@[simp] theorem kE1_t : kE1 P cf (.star e) es r S true = (evE P cf e r S).bind (kSt P cf es r) := rfl
@[simp] theorem isStar_0 : isStar (.star e) = true := rfl
@[simp] theorem kEs_s : kEs P cf es r (d, S) = (evEs P cf es r S).map (kCons d) := rfl
@[simp] theorem kCons_s : kCons d (ds, S) = (d :: ds, S) := rfl
@[simp] theorem kSt_s : kSt P cf es r (d, S) = (itemsD (wk (deB S d))).bind (kSt2 P cf es r S) := rfl
@[simp] theorem kSt2_s {xs : List D} : kSt2 P cf es r S xs = (evEs P cf es r S).map (kApp xs) := rfl
@[simp] theorem kApp_s {xs : List D} : kApp xs (ds, S) = (xs ++ ds, S) := rfl
@[simp] theorem x_o_n : evO P cf none r S = some (none, S) := by rw [evO]
@[simp] theorem x_o_s : evO P cf (some e) r S = (evE P cf e r S).bind kO := by rw [evO]; rfl
@[simp] theorem kO_s {t : Int} : kO (.int t, S) = some (some t, S) := rfl
/-! statements -/
variable {tg : Tg} {cs us vs : List C} {st : C} {is : List Nat}
@[simp] theorem y_set : exS P cf (.set i e) r S = (evE P cf e r S).bind (kSet i r) := by rw [exS]; rfl
@[simp] theorem kSet_s : kSet i r (d, S) = if i < r.length then some (.nx (r.set i (some (false, d))), S) else none := rfl
@[simp] theorem y_own : exS P cf (.own i e) r S = (evE P cf e r S).bind (kOwn i r) := by rw [exS]; rfl
@[simp] theorem kOwn_s : kOwn i r (.lst ds, S) = if i < r.length then some (.nx (r.set i (some (true, .lst ds))), S) else none := rfl
@[simp] theorem y_unp : exS P cf (.unp tg e) r S = (evE P cf e r S).bind (kUnp tg r) := by rw [exS]; rfl
@[simp] theorem kUnp_s : kUnp tg r (d, S) = (asg tg d r).map (kNx S) := rfl
@[simp] theorem kNx_s : kNx S r = (.nx r, S) := rfl
@[simp] theorem asg_nm : asg (.nm i) d r = if i < r.length then some (r.set i (some (false, d))) else none := by rw [asg]
@[simp] theorem asg_tp {ts : List Tg} : asg (.tp ts) (.tup ds) r = asgs ts ds r := by rw [asg]
@[simp] theorem asg_tl {ts : List Tg} : asg (.tp ts) (.lst ds) r = asgs ts ds r := by rw [asg]
@[simp] theorem asgs_n : asgs [] [] r = some r := by rw [asgs]
@[simp] theorem asgs_c {t : Tg} {ts : List Tg} : asgs (t :: ts) (d :: ds) r = (asg t d r).bind (asgs ts ds) := by rw [asgs]
@[simp] theorem y_par : exS P cf (.par is es) r S = (evEs P cf es r S).bind (kPar is r) := by rw [exS]; rfl
@[simp] theorem kPar_s : kPar is r (ds, S) = (setAll r is ds).map (kNx S) := rfl
@[simp] theorem setAll_n : setAll r [] [] = some r := rfl
@[simp] theorem setAll_c : setAll r (i :: is) (d :: ds) = if i < r.length then setAll (r.set i (some (false, d))) is ds else none := rfl
@[simp] theorem y_put : exS P cf (.put a b e) r S = (evE P cf e r S).bind (kPut P cf a b r) := by rw [exS]; rfl
@[simp] theorem kPut_s {p : D × Sto} : kPut P cf a b r p = (evE P cf a r p.2).bind (kPut1 P cf b r p) := rfl
@[simp] theorem kPut1_s {p q : D × Sto} : kPut1 P cf b r p q = (evE P cf b r q.2).bind (kPut2 r p q) := rfl
@[simp] theorem kPut2_s {p : D × Sto} {S1 : Sto} {t : Int} : kPut2 r p (.ref n, S1) (.int t, S) = (S[n]?).bind (kPut3 r n t p S) := rfl
@[simp] theorem kPut3_s {p : D × Sto} {t : Int} : kPut3 r n t p S ds = (L2.ixN ds.length t).bind (kPut4 r n ds p S) := rfl
@[simp] theorem kPut4_s {p : D × Sto} : kPut4 r n ds p S j = if p.1.pure then some (.nx r, S.set n (ds.set j p.1)) else none := rfl
@[simp] theorem y_aug : exS P cf (.aug i op e) r S = kAug P cf i op e r S r[i]? := by
  rw [exS]
  rfl
@[simp] theorem kAug_s : kAug P cf i op e r S (some (some (false, d))) = (evE P cf e r S).bind (kAug2 i op d r) := rfl
@[simp] theorem kAug2_a {x y : Int} : kAug2 i .Add (.int x) r (.int y, S) = some (.nx (r.set i (some (false, .int (x + y)))), S) := rfl
@[simp] theorem kAug2_s {x y : Int} : kAug2 i .Sub (.int x) r (.int y, S) = some (.nx (r.set i (some (false, .int (x - y)))), S) := rfl
@[simp] theorem y_exp : exS P cf (.exp e) r S = (evE P cf e r S).map (kExp r) := by rw [exS]; rfl
@[simp] theorem kExp_s {p : D × Sto} : kExp r p = (.nx r, p.2) := rfl
@[simp] theorem y_app : exS P cf (.app i e) r S = (evE P cf e r S).bind (kAppe i r) := by rw [exS]; rfl
@[simp] theorem kAppe_s {p : D × Sto} : kAppe i r p = kAppd i r p r[i]? := rfl
@[simp] theorem kAppd_s {p : D × Sto} : kAppd i r p (some (some (true, .lst ds))) = if ds.length < 100000 then some (.nx (r.set i (some (true, .lst (ds ++ [p.1])))), p.2) else none := rfl
@[simp] theorem y_ite : exS P cf (.ite e us vs) r S = (evE P cf e r S).bind (kIf P cf us vs r) := by rw [exS]; rfl
@[simp] theorem kIf_t : kIf P cf us vs r (.bl true, S) = exB P cf us r S := rfl
@[simp] theorem kIf_f : kIf P cf us vs r (.bl false, S) = exB P cf vs r S := rfl
@[simp] theorem y_whl : exS P cf (.whl e us) r S = whl (cW P cf e) (bW P cf us) most r S := by rw [exS]; rfl
@[simp] theorem cW_s : cW P cf e r S = evE P cf e r S := rfl
@[simp] theorem bW_s : bW P cf us r S = exB P cf us r S := rfl
@[simp] theorem y_for : exS P cf (.for_ tg e us) r S = (evE P cf e r S).bind (kFor P cf tg us r) := by rw [exS]; rfl
@[simp] theorem kFor_s : kFor P cf tg us r (d, S) = (itemsD (wk d)).bind (kFor2 P cf tg us r S) := rfl
@[simp] theorem kFor2_s {xs : List D} : kFor2 P cf tg us r S xs = forL tg (bW P cf us) xs r S := rfl
@[simp] theorem forL_n {f : Rho → Sto → Ro} : forL tg f [] r S = some (.nx r, S) := rfl
theorem forL_c {f : Rho → Sto → Ro} {x : D} {xs : List D} : forL tg f (x :: xs) r S = (asg tg x r).bind (kF1 tg f xs S) := rfl
@[simp] theorem kF1_s {f : Rho → Sto → Ro} {xs : List D} : kF1 tg f xs S r = (f r S).bind (kF2 tg f xs) := rfl
@[simp] theorem kF2_n {f : Rho → Sto → Ro} {xs : List D} : kF2 tg f xs (.nx r, S) = forL tg f xs r S := rfl
@[simp] theorem kF2_c {f : Rho → Sto → Ro} {xs : List D} : kF2 tg f xs (.ct r, S) = forL tg f xs r S := rfl
@[simp] theorem kF2_b {f : Rho → Sto → Ro} {xs : List D} : kF2 tg f xs (.bk r, S) = some (.nx r, S) := rfl
@[simp] theorem kF2_r {f : Rho → Sto → Ro} {xs : List D} : kF2 tg f xs (.rt d, S) = some (.rt d, S) := rfl
@[simp] theorem y_ret : exS P cf (.ret e) r S = (evE P cf e r S).map kRt := by rw [exS]; rfl
@[simp] theorem kRt_s : kRt (d, S) = (.rt d, S) := rfl
@[simp] theorem y_pas : exS P cf .pas r S = some (.nx r, S) := by rw [exS]
@[simp] theorem y_brk : exS P cf .brk r S = some (.bk r, S) := by rw [exS]
@[simp] theorem y_cnt : exS P cf .cnt r S = some (.ct r, S) := by rw [exS]
@[simp] theorem y_frz : exS P cf (.frz is st) r S = exS P cf st (frzR r is) S := by rw [exS]
@[simp] theorem y_n : exB P cf [] r S = some (.nx r, S) := by rw [exB]
@[simp] theorem y_c : exB P cf (st :: cs) r S = (exS P cf st r S).bind (kSeq P cf cs) := by rw [exB]; rfl
@[simp] theorem kSeq_n : kSeq P cf cs (.nx r, S) = exB P cf cs r S := rfl
@[simp] theorem kSeq_r : kSeq P cf cs (.rt d, S) = some (.rt d, S) := rfl
@[simp] theorem kSeq_b : kSeq P cf cs (.bk r, S) = some (.bk r, S) := rfl
@[simp] theorem kSeq_k : kSeq P cf cs (.ct r, S) = some (.ct r, S) := rfl
@[simp] theorem endF_r : endF n (some (.rt d, S)) = if d.pure then some (d, S.take n) else match d with
    | .ref m => if m < S.length then some (.ref m, S) else none
    | _ => none := rfl
@[simp] theorem endF_n : endF n (some (.nx r, S)) = some (.non, S.take n) := rfl
@[simp] theorem take_s : S.take S.length = S := List.take_length
@[simp] theorem items_l {xs : List D} : itemsD (.lst xs) = some xs := rfl
@[simp] theorem items_t {xs : List D} : itemsD (.tup xs) = some xs := rfl
@[simp] theorem idx_l {xs : List D} {t : Int} : idxD (.lst xs) (.int t) = L2.atI xs t := rfl
@[simp] theorem idx_t {xs : List D} {t : Int} : idxD (.tup xs) (.int t) = L2.atI xs t := rfl
@[simp] theorem atI_0 {α : Type} {x : α} {xs : List α} : L2.atI (x :: xs) 0 = some x := by
  have h : (0 : Int) < xs.length + 1 := by omega
  simp [L2.atI, L2.ixN, h]
@[simp] theorem atI_1 {α : Type} {x y : α} {xs : List α} : L2.atI (x :: y :: xs) 1 = some y := by
  have h : (1 : Int) < xs.length + 1 + 1 := by omega
  simp [L2.atI, L2.ixN, h]
@[simp] theorem atI_2 {α : Type} {x y z : α} {xs : List α} : L2.atI (x :: y :: z :: xs) 2 = some z := by
  have h : (2 : Int) < xs.length + 1 + 1 + 1 := by omega
  simp [L2.atI, L2.ixN, h]
@[simp] theorem atI_3 {α : Type} {x y z w : α} {xs : List α} : L2.atI (x :: y :: z :: w :: xs) 3 = some w := by
  have h : (3 : Int) < xs.length + 1 + 1 + 1 + 1 := by omega
  simp [L2.atI, L2.ixN, h]
@[simp] theorem bi_abs {t : Int} : biD .abs [.int t] = some (.int t.natAbs) := by
  show some (D.int (if t < 0 then -t else t)) = _
  congr 2
  split <;> omega
@[simp] theorem bi_len_l {xs : List D} : biD .len [.lst xs] = some (.int xs.length) := rfl
@[simp] theorem bi_len_t {xs : List D} : biD .len [.tup xs] = some (.int xs.length) := rfl
@[simp] theorem bi_tuple_l {xs : List D} : biD .tuple [.lst xs] = some (.tup xs) := rfl
@[simp] theorem bi_tuple_t {xs : List D} : biD .tuple [.tup xs] = some (.tup xs) := rfl
@[simp] theorem bi_list_l {xs : List D} : biD .list [.lst xs] = some (.lst xs) := rfl
@[simp] theorem bi_list_t {xs : List D} : biD .list [.tup xs] = some (.lst xs) := rfl
@[simp] theorem bi_int_i {t : Int} : biD .int [.int t] = some (.int t) := rfl
@[simp] theorem bi_int_b {t : Bool} : biD .int [.bl t] = some (.int (if t then 1 else 0)) := rfl
@[simp] theorem bi_max {x y : Int} : biD .max2 [.int x, .int y] = some (.int (if y > x then y else x)) := rfl
@[simp] theorem bi_min {x y : Int} : biD .min2 [.int x, .int y] = some (.int (if y < x then y else x)) := rfl
def kAl (bs : List Bool) : D := .bl (bs.all id)
def kAn (bs : List Bool) : D := .bl (bs.any id)
@[simp] theorem bi_all {xs : List D} : biD .all [.lst xs] = (boolsOf xs).map kAl := rfl
@[simp] theorem bi_any {xs : List D} : biD .any [.lst xs] = (boolsOf xs).map kAn := rfl
@[simp] theorem kAl_s {bs : List Bool} : kAl bs = .bl (bs.all id) := rfl
@[simp] theorem kAn_s {bs : List Bool} : kAn bs = .bl (bs.any id) := rfl
@[simp] theorem bools_n : boolsOf [] = some [] := rfl
@[simp] theorem bools_c {t : Bool} {xs : List D} : boolsOf (.bl t :: xs) = (boolsOf xs).map (List.cons t) := rfl
@[simp] theorem is_int_i {t : Int} : biD .isInt [.int t] = some (.bl true) := rfl
@[simp] theorem is_int_b {t : Bool} : biD .isInt [.bl t] = some (.bl true) := rfl
@[simp] theorem is_int_t {xs : List D} : biD .isInt [.tup xs] = some (.bl false) := rfl
@[simp] theorem is_int_s {t : Str} : biD .isInt [.str t] = some (.bl false) := rfl
@[simp] theorem is_int_n : biD .isInt [.non] = some (.bl false) := rfl
@[simp] theorem is_bool_i {t : Int} : biD .isBool [.int t] = some (.bl false) := rfl
@[simp] theorem is_bool_b {t : Bool} : biD .isBool [.bl t] = some (.bl true) := rfl
@[simp] theorem is_tup_i {t : Int} : biD .isTuple [.int t] = some (.bl false) := rfl
@[simp] theorem is_tup_b {t : Bool} : biD .isTuple [.bl t] = some (.bl false) := rfl
@[simp] theorem is_tup_t {xs : List D} : biD .isTuple [.tup xs] = some (.bl true) := rfl
@[simp] theorem is_str_s {t : Str} : biD .isStr [.str t] = some (.bl true) := rfl
@[simp] theorem is_str_i {t : Int} : biD .isStr [.int t] = some (.bl false) := rfl
@[simp] theorem isNon_i {t : Int} : isNon (.int t) = false := rfl
@[simp] theorem isNon_n : isNon .non = true := rfl
end
end Pv

set_option Elab.async false
set_option linter.all false
set_option maxRecDepth 100000
/-! Ma: fractions and square forms in their one form: plain mathematics. -/
namespace Pv
open PySem

/-! ### no squares -/
def Nsq (d : Int) : Prop := ∀ s : Int, s * s ≠ d
theorem nsq_mul {m d : Int} (hm : m ≠ 0) (h : Nsq d) : Nsq (m * m * d) := fun s e => by
  have h1 : m ^ 2 ∣ s ^ 2 := by
    rw [Int.pow_succ, Int.pow_succ, Int.pow_zero, Int.one_mul, Int.pow_succ, Int.pow_succ, Int.pow_zero, Int.one_mul]
    exact ⟨d, e⟩
  obtain ⟨t, rfl⟩ := (Int.pow_dvd_pow_iff (by decide)).mp h1
  have e2 : (m * m) * (t * t) = (m * m) * d := by rw [← e]; ac_rfl
  exact h t (Int.eq_of_mul_eq_mul_left (Int.mul_ne_zero hm hm) e2)
theorem nsq_of {m d : Int} (h : Nsq (m * m * d)) : Nsq d := fun s e => h (m * s) (by rw [← e]; ac_rfl)

/-! ### greatest common divisors -/
theorem gcd_pos {a b : Int} (hb : 0 < b) : 0 < (Int.gcd a b : Int) := by
  have := Int.gcd_pos_of_ne_zero_right a (b := b) (by omega)
  omega
theorem gcd_le {a b : Int} (hb : 0 < b) : (Int.gcd a b : Int) ≤ b := Int.le_of_dvd hb (Int.gcd_dvd_right a b)
theorem gcd3_pos {a b c : Int} (ha : 0 < a) : 0 < (Int.gcd (Int.gcd a b) c : Int) := by
  have h1 : (Int.gcd a b : Int) ≠ 0 := by
    have := Int.gcd_pos_of_ne_zero_left b (a := a) (by omega)
    omega
  have := Int.gcd_pos_of_ne_zero_left c (a := (Int.gcd a b : Int)) h1
  omega
theorem gcd3_le {a b c : Int} (ha : 0 < a) : (Int.gcd (Int.gcd a b) c : Int) ≤ a :=
  Int.le_of_dvd ha (Int.dvd_trans (Int.gcd_dvd_left _ c) (Int.gcd_dvd_left a b))
theorem gcd3_d1 {a b c : Int} : (Int.gcd (Int.gcd a b) c : Int) ∣ a := Int.dvd_trans (Int.gcd_dvd_left _ c) (Int.gcd_dvd_left a b)
theorem gcd3_d2 {a b c : Int} : (Int.gcd (Int.gcd a b) c : Int) ∣ b := Int.dvd_trans (Int.gcd_dvd_left _ c) (Int.gcd_dvd_right a b)
theorem gcd3_d3 {a b c : Int} : (Int.gcd (Int.gcd a b) c : Int) ∣ c := Int.gcd_dvd_right _ c
theorem gcd_mul {k a b : Int} (hk : 0 < k) : (Int.gcd (k * a) (k * b) : Int) = k * (Int.gcd a b : Int) := by
  rw [Int.gcd_mul_left, Int.natCast_mul]
  congr 1
  omega
theorem gcd3_mul {k a b c : Int} (hk : 0 < k) : (Int.gcd (Int.gcd (k * a) (k * b)) (k * c) : Int) = k * (Int.gcd (Int.gcd a b) c : Int) := by
  rw [gcd_mul hk, gcd_mul hk]

/-! ### fractions -/
def fr (a b : Int) : D := .tup [.int (a / Int.gcd a b), .int (b / Int.gcd a b)]
structure Fr (m : Nat) (a b : Int) : Prop where
  b1 : 1 ≤ b
  g1 : Int.gcd a b = 1
  ba : Bd m a
  bb : Bd m b
theorem fr_mul {k a b : Int} (hk : 0 < k) : fr (k * a) (k * b) = fr a b := by
  unfold fr
  rw [gcd_mul hk, Int.mul_ediv_mul_of_pos _ _ hk, Int.mul_ediv_mul_of_pos _ _ hk]
theorem fr_eq {a b c d : Int} (hb : 0 < b) (hd : 0 < d) (h : a * d = c * b) : fr a b = fr c d := by
  have h1 := fr_mul (a := a) (b := b) hd
  have h2 := fr_mul (a := c) (b := d) hb
  rw [← h1, ← h2, Int.mul_comm d a, h, Int.mul_comm b c, Int.mul_comm d b]
theorem fr_self {m : Nat} {a b : Int} (h : Fr m a b) : fr a b = .tup [.int a, .int b] := by
  unfold fr
  rw [h.g1]
  simp
theorem fr_is {m : Nat} {a b c d : Int} (hb : 0 < b) (h : Fr m c d) (e : a * d = c * b) : fr a b = .tup [.int c, .int d] := by
  rw [← fr_self h]
  exact fr_eq hb (by have := h.b1; omega) e
/-- a fraction's one form, by its parts -/
theorem fr_ex {m : Nat} {a b : Int} (hb : 0 < b) (ha : Bd m a) (bb : Bd m b) : ∃ u v, fr a b = .tup [.int u, .int v] ∧ Fr m u v ∧ u * b = a * v ∧ (a = 0 → u = 0) := by
  have g0 := gcd_pos (a := a) hb
  obtain ⟨x, hx⟩ := Int.gcd_dvd_left a b
  obtain ⟨y, hy⟩ := Int.gcd_dvd_right a b
  have e1 : a / (Int.gcd a b : Int) = x := Int.ediv_eq_of_eq_mul_right (by omega) hx
  have e2 : b / (Int.gcd a b : Int) = y := Int.ediv_eq_of_eq_mul_right (by omega) hy
  have hy0 : 0 < y := by
    have := Int.ediv_pos_of_pos_of_dvd hb (by omega) (Int.gcd_dvd_right a b)
    omega
  refine ⟨x, y, by unfold fr; rw [e1, e2], ⟨by omega, ?_, ha.le ?_, bb.le ?_⟩, ?_, ?_⟩
  · have h := gcd_mul (k := (Int.gcd a b : Int)) (a := x) (b := y) g0
    rw [← hx, ← hy] at h
    have h2 : (Int.gcd a b : Int) * 1 = (Int.gcd a b : Int) * (Int.gcd x y : Int) := by rw [Int.mul_one]; exact h
    have h3 := Int.eq_of_mul_eq_mul_left (by omega) h2
    omega
  · rw [← e1]
    exact Int.natAbs_ediv_le_natAbs a _
  · rw [← e2]
    exact Int.natAbs_ediv_le_natAbs b _
  · calc x * b = x * ((Int.gcd a b : Int) * y) := by rw [← hy]
      _ = (Int.gcd a b : Int) * x * y := by ac_rfl
      _ = a * y := by rw [← hx]
  · intro h
    rw [h, Int.zero_ediv] at e1
    omega

/-! ### square forms -/
def prim (a b c s : Int) : D := .tup [.int (a / Int.gcd (Int.gcd a b) c), .int (b / Int.gcd (Int.gcd a b) c), .int (c / Int.gcd (Int.gcd a b) c), .int s]
theorem prim_mul {k a b c s : Int} (hk : 0 < k) : prim (k * a) (k * b) (k * c) s = prim a b c s := by
  unfold prim
  rw [gcd3_mul hk, Int.mul_ediv_mul_of_pos _ _ hk, Int.mul_ediv_mul_of_pos _ _ hk, Int.mul_ediv_mul_of_pos _ _ hk]
theorem prim_eq {x y a b c p q r s : Int} (hx : 0 < x) (hy : 0 < y) (e1 : x * p = y * a) (e2 : x * q = y * b) (e3 : x * r = y * c) : prim p q r s = prim a b c s := by
  rw [← prim_mul hx, ← prim_mul (a := a) hy, e1, e2, e3]
theorem prim_self {a b c s : Int} (h : Int.gcd (Int.gcd a b) c = 1) : prim a b c s = .tup [.int a, .int b, .int c, .int s] := by
  unfold prim
  rw [h]
  simp
/-- a root in its one form -/
structure Rt (m : Nat) (a b c s : Int) : Prop where
  a1 : 1 ≤ a
  s1 : s = 1 ∨ s = -1
  g1 : Int.gcd (Int.gcd a b) c = 1
  pos : 0 < b * b - 4 * a * c
  nsq : Nsq (b * b - 4 * a * c)
  ba : Bd m a
  bb : Bd m b
  bc : Bd m c
theorem b_shl {i j : Int} (h : szShl i j = true) : binD .LShift (.int i) (.int j) = some (.int (i * 2 ^ j.toNat)) := if_pos h
theorem lt_bits {n : Int} (h : 0 ≤ n) : n < 2 ^ Builtin.Int.intBits n := by
  have h1 : n.natAbs < 2 ^ Builtin.Int.intBits n := by
    unfold Builtin.Int.intBits
    split
    · rename_i c
      have : n = 0 := by simpa using c
      subst this
      decide
    · exact Nat.lt_log2_self
  have h2 : ((n.natAbs : Nat) : Int) < ((2 ^ Builtin.Int.intBits n : Nat) : Int) := by exact_mod_cast h1
  rw [Int.natAbs_of_nonneg h] at h2
  simpa using h2
theorem bd4 : Bd 3 4 := by unfold Bd; decide
theorem bd2 : Bd 2 2 := by unfold Bd; decide
theorem bd0 {k : Nat} : Bd k 0 := Nat.pow_pos (by decide)
theorem bd1 : Bd 1 1 := by unfold Bd; decide
theorem bdm1 : Bd 1 (-1) := by unfold Bd; decide
theorem Rt.bs {m : Nat} {a b c s : Int} (R : Rt m a b c s) : Bd 1 s := by
  rcases R.s1 with h | h <;> rw [h]
  · exact bd1
  · exact bdm1
theorem Rt.bdisc {m : Nat} {a b c s : Int} (R : Rt m a b c s) : Bd (2 * m + 4) (b * b - 4 * a * c) := (R.bb.mul R.bb).sub ((bd4.mul R.ba).mul R.bc) (by omega) (by omega)
theorem disc_mul {g x y z : Int} : g * y * (g * y) - 4 * (g * x) * (g * z) = g * g * (y * y - 4 * x * z) := by
  rw [Int.mul_sub]
  congr 1 <;> ac_rfl
theorem prim_ex {m : Nat} {a b c s : Int} (ha : 0 < a) (hs : s = 1 ∨ s = -1) (pos : 0 < b * b - 4 * a * c) (nsq : Nsq (b * b - 4 * a * c)) (ba : Bd m a) (bb : Bd m b) (bc : Bd m c) :
    ∃ g x y z, 0 < g ∧ a = g * x ∧ b = g * y ∧ c = g * z ∧ prim a b c s = .tup [.int x, .int y, .int z, .int s] ∧ Rt m x y z s := by
  have g0 := gcd3_pos (b := b) (c := c) ha
  obtain ⟨x, hx⟩ := gcd3_d1 (a := a) (b := b) (c := c)
  obtain ⟨y, hy⟩ := gcd3_d2 (a := a) (b := b) (c := c)
  obtain ⟨z, hz⟩ := gcd3_d3 (a := a) (b := b) (c := c)
  have e1 : a / (Int.gcd (Int.gcd a b) c : Int) = x := Int.ediv_eq_of_eq_mul_right (by omega) hx
  have e2 : b / (Int.gcd (Int.gcd a b) c : Int) = y := Int.ediv_eq_of_eq_mul_right (by omega) hy
  have e3 : c / (Int.gcd (Int.gcd a b) c : Int) = z := Int.ediv_eq_of_eq_mul_right (by omega) hz
  have hx0 : 0 < x := by
    have := Int.ediv_pos_of_pos_of_dvd ha (by omega) (gcd3_d1 (a := a) (b := b) (c := c))
    omega
  have b1 : Bd m x := ba.le (by rw [← e1]; exact Int.natAbs_ediv_le_natAbs a _)
  have b2 : Bd m y := bb.le (by rw [← e2]; exact Int.natAbs_ediv_le_natAbs b _)
  have b3 : Bd m z := bc.le (by rw [← e3]; exact Int.natAbs_ediv_le_natAbs c _)
  have h1 := gcd3_mul (k := (Int.gcd (Int.gcd a b) c : Int)) (a := x) (b := y) (c := z) g0
  rw [← hx, ← hy, ← hz] at h1
  have pe : prim a b c s = .tup [.int x, .int y, .int z, .int s] := by unfold prim; rw [e1, e2, e3]
  generalize (Int.gcd (Int.gcd a b) c : Int) = g at *
  have dm : b * b - 4 * a * c = g * g * (y * y - 4 * x * z) := by rw [hx, hy, hz]; exact disc_mul
  rw [dm] at pos nsq
  refine ⟨g, x, y, z, g0, hx, hy, hz, pe, ⟨by omega, hs, ?_, ?_, nsq_of nsq, b1, b2, b3⟩⟩
  · have h2 : g * 1 = g * (Int.gcd (Int.gcd x y) z : Int) := by rw [Int.mul_one]; exact h1
    have h3 := Int.eq_of_mul_eq_mul_left (by omega) h2
    omega
  · by_cases h : 0 < y * y - 4 * x * z
    · exact h
    · have h4 := Int.mul_nonneg (Int.le_of_lt (Int.mul_pos g0 g0)) (show 0 ≤ -(y * y - 4 * x * z) by omega)
      rw [Int.mul_neg] at h4
      omega
theorem pure_prim {a b c s : Int} : (prim a b c s).pure = true := rfl
theorem pure_fr {a b : Int} : (fr a b).pure = true := rfl
end Pv

set_option Elab.async false
set_option linter.all false
set_option maxRecDepth 100000
/-! Mb: equations of the shifted and the scaled form. -/
namespace Pv
open PySem
theorem cancel {v x y : Int} (hv : 0 < v) (h : v * x = v * y) : x = y := Int.eq_of_mul_eq_mul_left (by omega) h
/-- quotients: u / v = x / y -/
theorem q_sub {u1 v1 u v b x n : Int} (hv : 0 < v1) (h1 : u1 * n = x * v1) (h : u * (1 * v1) = (b * v1 - u1 * 1) * v) : u * n = (b * n - x) * v := by
  refine cancel hv ?_
  grind
theorem q_mul {u1 v1 u v x n t : Int} (hv : 0 < v1) (h1 : u1 * n = x * v1) (h : u * (v1 * n) = u1 * t * v) : u * (n * n) = x * t * v := by
  refine cancel hv ?_
  grind
theorem q_add {u1 v1 u2 v2 u v x y n : Int} (hv : 0 < v1) (hw : 0 < v2) (h1 : u1 * n = x * v1) (h2 : u2 * n = y * v2) (h : u * (v1 * v2) = (u1 * v2 + u2 * v1) * v) : u * n = (x + y) * v := by
  refine cancel hv (cancel hw ?_)
  grind
theorem disc_shift {a b c t n : Int} : (b * n - 2 * a * t) * n * ((b * n - 2 * a * t) * n) - 4 * (a * (n * n)) * (a * t * t + (c * n - b * t) * n) = n * n * (n * n) * (b * b - 4 * a * c) := by
  grind
theorem disc_scale {a b c t n : Int} : b * t * n * (b * t * n) - 4 * (a * (n * n)) * (c * t * t) = t * n * (t * n) * (b * b - 4 * a * c) := by
  grind
theorem pos_of {m d : Int} (hm : m ≠ 0) (h : 0 < d) : 0 < m * m * d := Int.mul_pos (by
  rcases Int.lt_or_gt_of_ne hm with h | h
  · exact Int.mul_pos_of_neg_of_neg h h
  · exact Int.mul_pos h h) h
theorem of_pos {m d : Int} (h : 0 < m * m * d) : 0 < d := by
  by_cases h0 : 0 < d
  · exact h0
  · have h1 : 0 ≤ m * m := by
      rcases Int.le_total 0 m with h | h
      · exact Int.mul_nonneg h h
      · have := Int.mul_nonneg (Int.neg_nonneg.mpr h) (Int.neg_nonneg.mpr h)
        rw [Int.neg_mul_neg] at this
        exact this
    have h4 := Int.mul_nonneg h1 (show 0 ≤ -d by omega)
    rw [Int.mul_neg] at h4
    omega
/-- the form over its common bottom -/
theorem by_form {X L A B C p q r a1 d1 a2 d2 a3 d3 : Int} (hX : 0 < X) (hL : 0 < L) (hA : 0 < A) (p1 : d1 ∣ L) (p2 : d2 ∣ L) (p3 : d3 ∣ L) (h1 : 0 < d1) (h2 : 0 < d2) (h3 : 0 < d3)
    (e1 : a1 * X = A * d1) (e2 : a2 * X = B * d2) (e3 : a3 * X = C * d3) (f1 : p = a1 * (L / d1)) (f2 : q = a2 * (L / d2)) (f3 : r = a3 * (L / d3)) (pos : 0 < B * B - 4 * A * C) (nsq : Nsq (B * B - 4 * A * C)) :
    X * p = L * A ∧ X * q = L * B ∧ X * r = L * C ∧ 0 < p ∧ 0 < q * q - 4 * p * r ∧ Nsq (q * q - 4 * p * r) := by
  have g : ∀ {d a x y : Int}, 0 < d → d ∣ L → a * X = x * d → y = a * (L / d) → X * y = L * x := by
    rintro d a x y hd ⟨k, hk⟩ e f
    rw [f, hk, Int.mul_ediv_cancel_left _ (by omega)]
    grind
  have g1 := g h1 p1 e1 f1
  have g2 := g h2 p2 e2 f2
  have g3 := g h3 p3 e3 f3
  have dm : X * X * (q * q - 4 * p * r) = L * L * (B * B - 4 * A * C) := by
    rw [← disc_mul, ← disc_mul, g1, g2, g3]
  have hp : 0 < p := by
    by_cases h : 0 < p
    · exact h
    · have h4 := Int.mul_nonneg (Int.le_of_lt hX) (show 0 ≤ -p by omega)
      rw [Int.mul_neg] at h4
      have := Int.mul_pos hL hA
      omega
  have n2 := nsq_mul (m := L) (by omega) nsq
  rw [← dm] at n2
  have q2 := pos_of (m := L) (by omega) pos
  rw [← dm] at q2
  exact ⟨g1, g2, g3, hp, of_pos q2, nsq_of n2⟩
end Pv
namespace Pv
theorem bsign (a : Int) : Bd 1 a.sign := by
  rcases Int.lt_trichotomy a 0 with h | h | h
  · rw [Int.sign_eq_neg_one_of_neg h]; exact bdm1
  · rw [h]; exact bd0
  · rw [Int.sign_eq_one_of_pos h]; exact bd1
def sgn1 (a b d : Int) : Int := if 0 ≤ a.sign * (if 0 < d then b.sign else 0) then (if a.sign ≠ 0 then a.sign else if 0 < d then b.sign else 0) else a.sign * (a * a - b * b * d).sign
theorem sgn1_0 {a : Int} {b : Int} : sgn1 a b 0 = a.sign := by
  unfold sgn1
  by_cases h : a.sign = 0 <;> simp [h]
theorem sq_sign {a b : Int} (h : 0 < a) (g : 0 < b) : (a * a.natAbs + b * b.natAbs).sign = 1 := by
  have h1 := Int.mul_pos h (show (0 : Int) < a.natAbs by omega)
  have h2 := Int.mul_pos g (show (0 : Int) < b.natAbs by omega)
  exact Int.sign_eq_one_of_pos (by omega)
theorem sgn_two {x y : Int} : (2 * x * (2 * x) - 2 * y * (2 * y)).sign = (x * x - y * y).sign := by
  have e : 2 * x * (2 * x) - 2 * y * (2 * y) = 4 * (x * x - y * y) := by grind
  rw [e, Int.sign_mul, show (4 : Int).sign = 1 from rfl, Int.one_mul]
/-- the two ways to the sign of c + a * root of d -/
theorem sgn1_eq {c a d : Int} (hd : 0 < d) : sgn1 (2 * c) (2 * a) d = (c * c.natAbs + a * a.natAbs * d).sign := by
  have s2 : ∀ x : Int, (2 * x).sign = x.sign := fun x => by rw [Int.sign_mul, show (2 : Int).sign = 1 from rfl, Int.one_mul]
  have e4 : (2 * c * (2 * c) - 2 * a * (2 * a) * d).sign = (c * c - a * a * d).sign := by
    have e : 2 * c * (2 * c) - 2 * a * (2 * a) * d = 4 * (c * c - a * a * d) := by grind
    rw [e, Int.sign_mul, show (4 : Int).sign = 1 from rfl, Int.one_mul]
  unfold sgn1
  rw [if_pos hd, s2, s2, e4]
  rcases Int.lt_trichotomy c 0 with hc | hc | hc
  · have n1 : (c.natAbs : Int) = -c := by omega
    rw [Int.sign_eq_neg_one_of_neg hc, n1]
    rcases Int.lt_trichotomy a 0 with ha | ha | ha
    · have n2 : (a.natAbs : Int) = -a := by omega
      have h1 := Int.mul_pos_of_neg_of_neg hc hc
      have h2 := Int.mul_pos (Int.mul_pos_of_neg_of_neg ha ha) hd
      have e : c * -c + a * -a * d = -(c * c + a * a * d) := by grind
      have hp : 0 < c * c + a * a * d := by omega
      rw [Int.sign_eq_neg_one_of_neg ha, n2, e, Int.sign_neg, Int.sign_eq_one_of_pos hp]
      rfl
    · subst ha
      have h1 := Int.mul_pos_of_neg_of_neg hc hc
      have e : c * -c + 0 * ((0 : Int).natAbs : Int) * d = -(c * c) := by simp [Int.mul_neg]
      rw [e, Int.sign_neg, Int.sign_eq_one_of_pos h1]
      rfl
    · have n2 : (a.natAbs : Int) = a := by omega
      have e : c * -c + a * a * d = -(c * c - a * a * d) := by grind
      rw [Int.sign_eq_one_of_pos ha, n2, e, Int.sign_neg]
      simp
  · subst hc
    rcases Int.lt_trichotomy a 0 with ha | ha | ha
    · have n2 : (a.natAbs : Int) = -a := by omega
      have h2 := Int.mul_pos (Int.mul_pos_of_neg_of_neg ha ha) hd
      have e : (0 : Int) * ((0 : Int).natAbs : Int) + a * -a * d = -(a * a * d) := by grind
      rw [n2, e, Int.sign_neg, Int.sign_eq_one_of_pos h2, Int.sign_eq_neg_one_of_neg ha]
      rfl
    · subst ha
      simp
    · have n2 : (a.natAbs : Int) = a := by omega
      have h2 := Int.mul_pos (Int.mul_pos ha ha) hd
      have e : (0 : Int) * ((0 : Int).natAbs : Int) + a * a * d = a * a * d := by grind
      rw [n2, e, Int.sign_eq_one_of_pos h2, Int.sign_eq_one_of_pos ha]
      rfl
  · have n1 : (c.natAbs : Int) = c := by omega
    rw [Int.sign_eq_one_of_pos hc, n1]
    rcases Int.lt_trichotomy a 0 with ha | ha | ha
    · have n2 : (a.natAbs : Int) = -a := by omega
      have e : c * c + a * -a * d = c * c - a * a * d := by grind
      rw [Int.sign_eq_neg_one_of_neg ha, n2, e]
      simp
    · subst ha
      have h1 := Int.mul_pos hc hc
      have e : c * c + 0 * ((0 : Int).natAbs : Int) * d = c * c := by simp
      rw [e, Int.sign_eq_one_of_pos h1]
      rfl
    · have n2 : (a.natAbs : Int) = a := by omega
      have h1 := Int.mul_pos hc hc
      have h2 := Int.mul_pos (Int.mul_pos ha ha) hd
      have hp : 0 < c * c + a * a * d := by omega
      rw [Int.sign_eq_one_of_pos ha, n2, Int.sign_eq_one_of_pos hp]
      rfl
theorem newton {n x : Int} (hx : 0 < x) (hn : 0 ≤ n) : n < ((x + n / x) / 2 + 1) * ((x + n / x) / 2 + 1) := by
  obtain ⟨q, hq⟩ : ∃ q, q = n / x := ⟨_, rfl⟩
  obtain ⟨y, hy⟩ : ∃ y, y = (x + q) / 2 := ⟨_, rfl⟩
  rw [← hq, ← hy]
  have h1 : n < x * (q + 1) := by
    have := Int.lt_mul_ediv_self_add (x := n) (k := x) hx
    rw [← hq] at this
    have e : x * (q + 1) = x * q + x := by grind
    omega
  have h2 : x + q + 1 ≤ 2 * (y + 1) := by omega
  have hq0 : 0 ≤ q := by rw [hq]; exact Int.ediv_nonneg hn (by omega)
  have h3 : (x + q + 1) * (x + q + 1) ≤ 2 * (y + 1) * (2 * (y + 1)) := Int.mul_le_mul h2 h2 (by omega) (by omega)
  have h4 : 4 * (x * (q + 1)) + (x - q - 1) * (x - q - 1) = (x + q + 1) * (x + q + 1) := by grind
  have h5 : 0 ≤ (x - q - 1) * (x - q - 1) := by
    rcases Int.le_total 0 (x - q - 1) with h | h
    · exact Int.mul_nonneg h h
    · have := Int.mul_nonneg (show 0 ≤ -(x - q - 1) by omega) (show 0 ≤ -(x - q - 1) by omega)
      rw [Int.neg_mul_neg] at this
      exact this
  have h6 : 2 * (y + 1) * (2 * (y + 1)) = 4 * ((y + 1) * (y + 1)) := by grind
  omega
theorem nsq_between {w d : Int} (h0 : 0 ≤ w) (h1 : w * w < d) (h2 : d < (w + 1) * (w + 1)) : Nsq d := by
  have key : ∀ s : Int, 0 ≤ s → s * s ≠ d := fun s hs e => by
    by_cases h : s ≤ w
    · have := Int.mul_le_mul h h hs h0
      omega
    · have := Int.mul_le_mul (show w + 1 ≤ s by omega) (show w + 1 ≤ s by omega) (by omega) hs
      omega
  intro s e
  rcases Int.le_total 0 s with h | h
  · exact key s h e
  · exact key (-s) (by omega) (by rw [Int.neg_mul_neg]; exact e)
theorem disc_num {p q d r : Int} : -2 * p * r * (-2 * p * r) - 4 * (r * r) * (p * p - q * q * d) = 2 * r * q * (2 * r * q) * d := by
  grind
/-- a moment in its one form -/
def Mom (m : Nat) (M : D) : Prop := (∃ a b, M = .tup [.int a, .int b] ∧ Fr m a b) ∨ (∃ a b c s, M = .tup [.int a, .int b, .int c, .int s] ∧ Rt m a b c s)
theorem sign_pm {q : Int} (h : q ≠ 0) : q.sign = 1 ∨ q.sign = -1 := by
  rcases Int.lt_or_gt_of_ne h with h | h
  · exact .inr (Int.sign_eq_neg_one_of_neg h)
  · exact .inl (Int.sign_eq_one_of_pos h)
theorem mom_of_num {m : Nat} {p q d r : Int} (hr : 0 < r) (q0 : q ≠ 0) (hd : 0 < d) (ns : Nsq d) (b1 : Bd m (r * r)) (b2 : Bd m (-2 * p * r)) (b3 : Bd m (p * p - q * q * d)) : Mom m (prim (r * r) (-2 * p * r) (p * p - q * q * d) q.sign) := by
  have z : 2 * r * q ≠ 0 := Int.mul_ne_zero (by omega) q0
  obtain ⟨g, x, y, w, g0, e1, e2, e3, e4, R⟩ := prim_ex (m := m) (a := r * r) (b := -2 * p * r) (c := p * p - q * q * d) (s := q.sign) (Int.mul_pos hr hr) (sign_pm q0) (by rw [disc_num]; exact pos_of z hd) (by rw [disc_num]; exact nsq_mul z ns) b1 b2 b3
  exact .inr ⟨x, y, w, q.sign, e4, R⟩
theorem mom_fr {m : Nat} {a b : Int} (hb : 0 < b) (ha : Bd m a) (bb : Bd m b) : Mom m (fr a b) := by
  obtain ⟨u, v, e, F, _⟩ := fr_ex hb ha bb
  exact .inl ⟨u, v, e, F⟩
theorem atI_in {xs : List D} {v : Int} (h0 : 0 ≤ v) (h1 : v < xs.length) : ∃ d, d ∈ xs ∧ L2.atI xs v = some d := by
  have h2 : v.toNat < xs.length := by omega
  refine ⟨xs[v.toNat], List.getElem_mem h2, ?_⟩
  unfold L2.atI L2.ixN
  rw [if_pos h0, if_pos h1]
  simp [h2]
theorem bd_of {k : Nat} {i : Int} (m : Nat) (h : i.natAbs ≤ m) (e : m < 2 ^ k := by decide) : Bd k i := by
  unfold Bd
  omega
end Pv

namespace Pv
theorem Fr.neg {m : Nat} {t n : Int} (F : Fr m t n) : Fr m (-t) n := ⟨F.b1, by rw [Int.neg_gcd]; exact F.g1, F.ba.neg, F.bb⟩
section
variable {a b c g x y z n t s u v w : Int}
theorem m_f1 (h : x * (v * n) = (u * n + t * v) * y) : (x * n + -t * y) * v = u * (y * n) := by grind
theorem m_f2 (h : x * (v * n) = u * t * y) : x * n * v = u * (y * t) := by grind
theorem m_f3 (h : x * (v * n) = u * t * y) : x * -n * v = u * (y * -t) := by grind
theorem m_f4 : a * (u * u + 0 * 0 * 0) + b * u * v + c * v * v = a * u * u + b * u * v + c * v * v := by grind
theorem m_b1 (h1 : a * (n * n) = g * x) : g * (x * (n * n)) = n * n * (n * n) * a := by grind
theorem m_b2 (h1 : a * (n * n) = g * x) (h2 : (b * n - 2 * a * t) * n = g * y) : g * ((y * n - 2 * x * (-t)) * n) = n * n * (n * n) * b := by grind
theorem m_b3 (h1 : a * (n * n) = g * x) (h2 : (b * n - 2 * a * t) * n = g * y) (h3 : a * t * t + (c * n - b * t) * n = g * z) : g * (x * (-t) * (-t) + (z * n - y * (-t)) * n) = n * n * (n * n) * c := by grind
theorem m_s1 (h : a * (n * n) = g * x) : g * (x * (t * t)) = n * n * (t * t) * a := by grind
theorem m_s2 (h : b * t * n = g * y) : g * (y * n * t) = n * n * (t * t) * b := by grind
theorem m_s3 (h : c * t * t = g * z) : g * (z * n * n) = n * n * (t * t) * c := by grind
theorem m_n1 (h : a * (n * n) = g * x) : g * (x * (-t * -t)) = n * n * (t * t) * a := by grind
theorem m_n2 (h : b * t * n = g * y) : g * (y * -n * -t) = n * n * (t * t) * b := by grind
theorem m_n3 (h : c * t * t = g * z) : g * (z * -n * -n) = n * n * (t * t) * c := by grind
theorem m_q1 : 1 * (2 * a * n * (2 * a * n)) = 4 * a * (a * (n * n)) := by grind
theorem m_q2 : 1 * (-2 * (-b * t) * (2 * a * n)) = 4 * a * (b * t * n) := by grind
theorem m_q3 (ss : s * s = 1) : 1 * (-b * t * (-b * t) - s * t * (s * t) * (b * b - 4 * a * c)) = 4 * a * (c * t * t) := by
  have e : -b * t * (-b * t) - s * t * (s * t) * (b * b - 4 * a * c) = b * t * (b * t) - s * s * (t * t) * (b * b - 4 * a * c) := by grind
  rw [e, ss]
  grind
theorem m_l2 : 1 * (-2 * (-b * n + t * (2 * a)) * (2 * a * n)) = 4 * a * ((b * n - 2 * a * t) * n) := by grind
theorem m_l3 (ss : s * s = 1) : 1 * ((-b * n + t * (2 * a)) * (-b * n + t * (2 * a)) - s * n * (s * n) * (b * b - 4 * a * c)) = 4 * a * (a * t * t + (c * n - b * t) * n) := by
  have e : (-b * n + t * (2 * a)) * (-b * n + t * (2 * a)) - s * n * (s * n) * (b * b - 4 * a * c) = (-b * n + t * (2 * a)) * (-b * n + t * (2 * a)) - s * s * (n * n) * (b * b - 4 * a * c) := by grind
  rw [e, ss]
  grind
theorem m_g1 (ss : s * s = 1) : u * (-b * -b + s * s * (b * b - 4 * a * c)) + v * -b * (2 * a) + w * (2 * a) * (2 * a) = 2 * (2 * a * (w * a - u * c) - (v * a - u * b) * b) := by
  rw [ss]
  grind
theorem m_g2 : 2 * u * -b * s + v * s * (2 * a) = 2 * ((v * a - u * b) * s) := by grind
end
end Pv

set_option Elab.async false
set_option linter.all false
set_option maxRecDepth 100000
/-! Mc: the sign of c + a * root of d + b * root of e, the program's way and the law's. -/
namespace Pv
open PySem
/-- c + a * root of d, by squares with signs -/
def sq1 (c a d : Int) : Int := (c * c.natAbs + a * a.natAbs * d).sign
theorem sgn1_sq {c a d : Int} (hd : 0 < d) : sgn1 c a d = sq1 c a d := by
  show sgn1 c a d = (c * c.natAbs + a * a.natAbs * d).sign
  rw [← sgn1_eq hd]
  unfold sgn1
  have s2 : ∀ x : Int, (2 * x).sign = x.sign := fun x => by rw [Int.sign_mul, show (2 : Int).sign = 1 from rfl, Int.one_mul]
  have e4 : (2 * c * (2 * c) - 2 * a * (2 * a) * d).sign = (c * c - a * a * d).sign := by
    have e : 2 * c * (2 * c) - 2 * a * (2 * a) * d = 4 * (c * c - a * a * d) := by grind
    rw [e, Int.sign_mul, show (4 : Int).sign = 1 from rfl, Int.one_mul]
  rw [s2, s2, e4]
theorem sq1_neg {c a d : Int} : sq1 (-c) (-a) d = -sq1 c a d := by
  unfold sq1
  rw [Int.natAbs_neg, Int.natAbs_neg, ← Int.sign_neg]
  congr 1
  grind
/-- the roots' part -/
def rts (a d b e : Int) : Int := (a * a.natAbs * d + b * b.natAbs * e).sign
/-- the program's sign_of_two -/
def sgG (c a d b e : Int) : Int := if c = 0 then rts a d b e else if rts a d b e = 0 then c.sign else if rts a d b e = c.sign then rts a d b e else rts a d b e * sq1 (a * a * d + b * b * e - c * c) (2 * a * b) (d * e)
/-- the law's _law_sign_two -/
def sgL (a b d c e : Int) : Int :=
  if (if 0 < e then c.sign else 0) = 0 then sgn1 a b d else if (if 0 < d then b.sign else 0) = 0 then sgn1 a c e else
  if 0 ≤ a.sign * (if (if 0 < d then b.sign else 0) = (if 0 < e then c.sign else 0) then (if 0 < d then b.sign else 0) else (if 0 < d then b.sign else 0) * (b * b * d - c * c * e).sign) then
    (if a.sign ≠ 0 then a.sign else (if (if 0 < d then b.sign else 0) = (if 0 < e then c.sign else 0) then (if 0 < d then b.sign else 0) else (if 0 < d then b.sign else 0) * (b * b * d - c * c * e).sign))
  else a.sign * sgn1 (a * a - b * b * d - c * c * e) (-2 * b * c) (d * e)
theorem sq1_pos {a d : Int} (h : 0 < d) : (a * a.natAbs * d).sign = a.sign := by
  rw [Int.sign_mul, Int.sign_mul, Int.sign_eq_one_of_pos h, Int.mul_one]
  by_cases h0 : a = 0
  · rw [h0]; rfl
  · rw [Int.sign_eq_one_of_pos (show (0 : Int) < a.natAbs by omega), Int.mul_one]
theorem sign_cases (x : Int) : (x < 0 ∧ x.sign = -1) ∨ (x = 0 ∧ x.sign = 0) ∨ (0 < x ∧ x.sign = 1) := by
  rcases Int.lt_trichotomy x 0 with h | h | h
  · exact .inl ⟨h, Int.sign_eq_neg_one_of_neg h⟩
  · exact .inr (.inl ⟨h, by rw [h]; rfl⟩)
  · exact .inr (.inr ⟨h, Int.sign_eq_one_of_pos h⟩)
/-- two fractions -/
theorem sg_ff {c : Int} : sgG c 0 1 0 1 = c.sign := by
  unfold sgG rts
  by_cases h : c = 0
  · subst h; rfl
  · rw [if_neg h, if_pos (by rfl)]
theorem sgL_ff {c x y : Int} : sgL c 0 0 0 0 = c.sign := by
  unfold sgL
  rw [if_pos (by rfl), sgn1_0]
/-- c + a * root of d alone -/
theorem sg_one {c a d : Int} (hd : 0 < d) : (if c = 0 then a.sign else if a.sign = 0 then c.sign else if a.sign = c.sign then a.sign else a.sign * (a * a * d - c * c).sign) = sq1 c a d := by
  rw [← sgn1_sq hd]
  unfold sgn1
  rw [if_pos hd]
  have e : (c * c - a * a * d).sign = -(a * a * d - c * c).sign := by
    rw [← Int.sign_neg]
    congr 1
    omega
  rw [e]
  rcases sign_cases c with ⟨h1, h2⟩ | ⟨h1, h2⟩ | ⟨h1, h2⟩ <;> rcases sign_cases a with ⟨g1, g2⟩ | ⟨g1, g2⟩ | ⟨g1, g2⟩ <;> rw [h2, g2] <;> simp <;> omega
theorem sq1_0 {c d : Int} : sq1 c 0 d = c.sign := by
  unfold sq1
  have e : c * (c.natAbs : Int) + 0 * ((0 : Int).natAbs : Int) * d = c * c.natAbs * 1 := by simp
  rw [e, sq1_pos (by decide)]
theorem sg_rf {c a d : Int} (hd : 0 < d) : sgG c a d 0 1 = sq1 c a d := by
  have hr : rts a d 0 1 = a.sign := by
    unfold rts
    have e : a * (a.natAbs : Int) * d + 0 * ((0 : Int).natAbs : Int) * 1 = a * a.natAbs * d := by simp
    rw [e, sq1_pos hd]
  unfold sgG
  rw [hr, ← sg_one hd]
  have e1 : a * a * d + 0 * 0 * 1 - c * c = a * a * d - c * c := by omega
  have e2 : 2 * a * 0 = 0 := by omega
  rw [e1, e2, sq1_0]
theorem sg_fr {c b e : Int} (he : 0 < e) : sgG c 0 1 b e = sq1 c b e := by
  have hr : rts 0 1 b e = b.sign := by
    unfold rts
    have e : 0 * ((0 : Int).natAbs : Int) * 1 + b * b.natAbs * e = b * b.natAbs * e := by simp
    rw [e, sq1_pos he]
  unfold sgG
  rw [hr, ← sg_one he]
  have e1 : 0 * 0 * 1 + b * b * e - c * c = b * b * e - c * c := by omega
  have e2 : 2 * 0 * b = 0 := by omega
  rw [e1, e2, sq1_0]
theorem sgL_rf {c a d : Int} (hd : 0 < d) : sgL c a d 0 0 = sq1 c a d := by
  unfold sgL
  rw [if_pos (by rfl), sgn1_sq hd]
theorem sgL_fr {c b e : Int} (he : 0 < e) (hb : b ≠ 0) : sgL c 0 0 b e = sq1 c b e := by
  unfold sgL
  have h1 : ¬ (if 0 < e then b.sign else 0) = 0 := by
    rw [if_pos he]
    rcases sign_pm hb with h | h <;> rw [h] <;> decide
  rw [if_neg h1, if_pos (by rfl), sgn1_sq he]
/-- the roots' sign, the law's way -/
theorem rts_law {a d b e : Int} (hd : 0 < d) (he : 0 < e) : (if a.sign = b.sign then a.sign else a.sign * (a * a * d - b * b * e).sign) = rts a d b e ∨ a = 0 ∨ b = 0 := by
  unfold rts
  rcases sign_cases a with ⟨h1, h2⟩ | ⟨h1, h2⟩ | ⟨h1, h2⟩
  · rcases sign_cases b with ⟨g1, g2⟩ | ⟨g1, g2⟩ | ⟨g1, g2⟩
    · left
      have n1 : (a.natAbs : Int) = -a := by omega
      have n2 : (b.natAbs : Int) = -b := by omega
      have p1 := Int.mul_pos (Int.mul_pos_of_neg_of_neg h1 h1) hd
      have p2 := Int.mul_pos (Int.mul_pos_of_neg_of_neg g1 g1) he
      have e' : a * -a * d + b * -b * e = -(a * a * d + b * b * e) := by grind
      have hp : 0 < a * a * d + b * b * e := by omega
      rw [h2, g2, n1, n2, e', Int.sign_neg, Int.sign_eq_one_of_pos hp]
      rfl
    · exact .inr (.inr g1)
    · left
      have n1 : (a.natAbs : Int) = -a := by omega
      have n2 : (b.natAbs : Int) = b := by omega
      have e' : a * -a * d + b * b * e = -(a * a * d - b * b * e) := by grind
      rw [h2, g2, n1, n2, e', Int.sign_neg]
      simp
  · exact .inr (.inl h1)
  · rcases sign_cases b with ⟨g1, g2⟩ | ⟨g1, g2⟩ | ⟨g1, g2⟩
    · left
      have n1 : (a.natAbs : Int) = a := by omega
      have n2 : (b.natAbs : Int) = -b := by omega
      have e' : a * a * d + b * -b * e = a * a * d - b * b * e := by grind
      rw [h2, g2, n1, n2, e']
      simp
    · exact .inr (.inr g1)
    · left
      have n1 : (a.natAbs : Int) = a := by omega
      have n2 : (b.natAbs : Int) = b := by omega
      have p1 := Int.mul_pos (Int.mul_pos h1 h1) hd
      have p2 := Int.mul_pos (Int.mul_pos g1 g1) he
      have hp : 0 < a * a * d + b * b * e := by omega
      rw [h2, g2, n1, n2, Int.sign_eq_one_of_pos hp]
      rfl
theorem sgL_rr {c a d b e : Int} (hd : 0 < d) (he : 0 < e) (ha : a ≠ 0) (hb : b ≠ 0) : sgL c a d b e = sgG c a d b e := by
  have hr := (rts_law (a := a) (b := b) hd he).resolve_right (fun h => h.elim ha hb)
  have n1 : ¬ b.sign = 0 := by rcases sign_pm hb with h | h <;> rw [h] <;> decide
  have n2 : ¬ a.sign = 0 := by rcases sign_pm ha with h | h <;> rw [h] <;> decide
  unfold sgL sgG
  rw [if_pos he, if_pos hd, if_neg n1, if_neg n2, hr, sgn1_sq (Int.mul_pos hd he)]
  have e1 : c * c - a * a * d - b * b * e = -(a * a * d + b * b * e - c * c) := by omega
  have e2 : -2 * a * b = -(2 * a * b) := by grind
  rw [e1, e2, sq1_neg]
  have rr : rts a d b e = 1 ∨ rts a d b e = 0 ∨ rts a d b e = -1 := by
    unfold rts
    rcases sign_cases (a * a.natAbs * d + b * b.natAbs * e) with ⟨_, h⟩ | ⟨_, h⟩ | ⟨_, h⟩ <;> rw [h] <;> simp
  rcases sign_cases c with ⟨h1, h2⟩ | ⟨h1, h2⟩ | ⟨h1, h2⟩ <;> rcases rr with g | g | g <;> rw [h2, g] <;> simp [h1] <;> omega
/-- turned round -/
theorem sgG_neg {c a d b e : Int} : sgG (-c) (-b) e (-a) d = -sgG c a d b e := by
  have hr : rts (-b) e (-a) d = -rts a d b e := by
    unfold rts
    rw [Int.natAbs_neg, Int.natAbs_neg, ← Int.sign_neg]
    congr 1
    grind
  have e1 : -b * -b * e + -a * -a * d - -c * -c = a * a * d + b * b * e - c * c := by grind
  have e2 : 2 * -b * -a = 2 * a * b := by grind
  unfold sgG
  rw [hr, e1, e2, Int.mul_comm e d, Int.sign_neg]
  by_cases h : c = 0
  · simp [h]
  · by_cases h0 : rts a d b e = 0
    · simp [h, h0]
    · by_cases h1 : rts a d b e = c.sign
      · simp [h, h1]
      · have h2 : ¬ -rts a d b e = -c.sign := by omega
        simp [h, h0, h1, Int.neg_mul]
/-! ### moments as data of their own -/
inductive Mo where
  | f (u v : Int)
  | r (a b c s : Int)
  deriving DecidableEq
def Mo.d : Mo → D
  | .f u v => .tup [.int u, .int v]
  | .r a b c s => .tup [.int a, .int b, .int c, .int s]
def Mo.ok (m : Nat) : Mo → Prop
  | .f u v => Fr m u v
  | .r a b c s => Rt m a b c s
/-- the number: the law's -/
def Mo.n : Mo → D
  | .f u v => .tup [.int u, .int 0, .int 0, .int v]
  | .r a b c s => .tup [.int (-b), .int s, .int (b * b - 4 * a * c), .int (2 * a)]
def Mo.p : Mo → Int
  | .f u _ => u
  | .r _ b _ _ => -b
def Mo.q : Mo → Int
  | .f _ _ => 0
  | .r _ _ _ s => s
/-- what stands beneath the root: of a fraction the program says 1, the law 0 -/
def Mo.e (z : Int) : Mo → Int
  | .f _ _ => z
  | .r a b c _ => b * b - 4 * a * c
def Mo.w : Mo → Int
  | .f _ v => v
  | .r a _ _ _ => 2 * a
def cmpM (x y : Mo) : Int := sgG (x.p * y.w - y.p * x.w) (x.q * y.w) (x.e 1) (-y.q * x.w) (y.e 1)
theorem Mo.w_pos {m : Nat} {x : Mo} (h : x.ok m) : 0 < x.w := by
  cases x with
  | f u v => have := h.b1; show 0 < v; omega
  | r a b c s => have := h.a1; show 0 < 2 * a; omega
theorem Mo.e_pos {m : Nat} {x : Mo} (h : x.ok m) : 0 < x.e 1 := by
  cases x with
  | f u v => exact Int.zero_lt_one
  | r a b c s => exact h.pos
theorem cmpM_law {m k : Nat} {x y : Mo} (hx : x.ok m) (hy : y.ok k) : sgL (x.p * y.w - y.p * x.w) (x.q * y.w) (x.e 0) (-y.q * x.w) (y.e 0) = cmpM x y := by
  have wx := Mo.w_pos hx
  have wy := Mo.w_pos hy
  unfold cmpM
  cases x with
  | f u v =>
    cases y with
    | f u' v' =>
      show sgL _ (0 * v') 0 (-0 * v) 0 = sgG _ (0 * v') 1 (-0 * v) 1
      rw [Int.zero_mul, Int.neg_zero, Int.zero_mul, sgL_ff (x := 0) (y := 0), sg_ff]
    | r a b c s =>
      have s0 : -s * v ≠ 0 := Int.mul_ne_zero (by rcases hy.s1 with h | h <;> omega) (by have : 0 < v := wx; omega)
      show sgL _ (0 * (2 * a)) 0 (-s * v) (b * b - 4 * a * c) = sgG _ (0 * (2 * a)) 1 (-s * v) (b * b - 4 * a * c)
      rw [Int.zero_mul, sg_fr hy.pos]
      exact sgL_fr hy.pos s0
  | r a b c s =>
    cases y with
    | f u' v' =>
      show sgL _ _ (b * b - 4 * a * c) (-0 * (2 * a)) 0 = sgG _ _ (b * b - 4 * a * c) (-0 * (2 * a)) 1
      rw [Int.neg_zero, Int.zero_mul, sg_rf hx.pos]
      exact sgL_rf hx.pos
    | r a' b' c' s' =>
      exact sgL_rr hx.pos hy.pos (Int.mul_ne_zero (by show s ≠ 0; rcases hx.s1 with h | h <;> omega) (by omega)) (Int.mul_ne_zero (by show -s' ≠ 0; rcases hy.s1 with h | h <;> omega) (by omega))
theorem cmpM_neg {x y : Mo} : cmpM y x = -cmpM x y := by
  unfold cmpM
  rw [← sgG_neg]
  congr 1
  · omega
  · rw [← Int.neg_mul]
    simp
  · rw [← Int.neg_mul]
theorem cmpM_self {x : Mo} : cmpM x x = 0 := by
  have := cmpM_neg (x := x) (y := x)
  omega
end Pv

set_option Elab.async false
set_option linter.all false
set_option maxRecDepth 100000
/-! Md: compared alike are alike. -/
namespace Pv
open PySem
theorem sq1_zero {c a d : Int} (h : sq1 c a d = 0) : c * c.natAbs = -(a * a.natAbs * d) := by
  unfold sq1 at h
  rcases sign_cases (c * c.natAbs + a * a.natAbs * d) with ⟨_, g⟩ | ⟨g, _⟩ | ⟨_, g⟩
  · rw [g] at h; exact absurd h (by decide)
  · omega
  · rw [g] at h; exact absurd h (by decide)
theorem abs_sq (x : Int) : x.natAbs * (x.natAbs : Int) = x * x := by
  rcases Int.le_total 0 x with h | h
  · rw [Int.natAbs_of_nonneg h]
  · have e : (x.natAbs : Int) = -x := by omega
    rw [e, Int.neg_mul_neg]
theorem sqd_of {c a d : Int} (hd : 0 < d) (h : c * c.natAbs = -(a * a.natAbs * d)) : c * c = a * a * d := by
  have h1 := congrArg Int.natAbs h
  rw [Int.natAbs_neg, Int.natAbs_mul, Int.natAbs_mul, Int.natAbs_mul, Int.natAbs_natCast, Int.natAbs_natCast] at h1
  have h2 : ((c.natAbs * c.natAbs : Nat) : Int) = ((a.natAbs * a.natAbs * d.natAbs : Nat) : Int) := by rw [h1]
  rw [Int.natCast_mul, Int.natCast_mul, Int.natCast_mul, abs_sq, abs_sq, Int.natAbs_of_nonneg (Int.le_of_lt hd)] at h2
  exact h2
theorem sq1_ne {c a d : Int} (ha : a ≠ 0) (hd : 0 < d) (ns : Nsq d) : sq1 c a d ≠ 0 := fun h =>
  nsq_mul ha ns c (sqd_of hd (sq1_zero h))
/-- opposite signs, like squares -/
theorem rts_zero {a d b e : Int} (hd : 0 < d) (he : 0 < e) (ha : a ≠ 0) (hb : b ≠ 0) (h : rts a d b e = 0) : a * a * d = b * b * e ∧ a.sign = -b.sign := by
  have h0 : a * a.natAbs * d = -(b * b.natAbs * e) := by
    unfold rts at h
    rcases sign_cases (a * a.natAbs * d + b * b.natAbs * e) with ⟨_, g⟩ | ⟨g, _⟩ | ⟨_, g⟩
    · rw [g] at h; exact absurd h (by decide)
    · omega
    · rw [g] at h; exact absurd h (by decide)
  constructor
  · have h1 := congrArg Int.natAbs h0
    rw [Int.natAbs_neg, Int.natAbs_mul, Int.natAbs_mul, Int.natAbs_mul, Int.natAbs_mul, Int.natAbs_natCast, Int.natAbs_natCast] at h1
    have h2 : ((a.natAbs * a.natAbs * d.natAbs : Nat) : Int) = ((b.natAbs * b.natAbs * e.natAbs : Nat) : Int) := by rw [h1]
    rw [Int.natCast_mul, Int.natCast_mul, Int.natCast_mul, Int.natCast_mul, abs_sq, abs_sq, Int.natAbs_of_nonneg (Int.le_of_lt hd), Int.natAbs_of_nonneg (Int.le_of_lt he)] at h2
    exact h2
  · have h1 := congrArg Int.sign h0
    rw [Int.sign_neg, sq1_pos hd, sq1_pos he] at h1
    exact h1
theorem sgG_zero {c a d b e : Int} (hd : 0 < d) (he : 0 < e) (ha : a ≠ 0) (hb : b ≠ 0) (nd : Nsq d) (h : sgG c a d b e = 0) : c = 0 ∧ a * a * d = b * b * e ∧ a.sign = -b.sign := by
  unfold sgG at h
  by_cases hc : c = 0
  · rw [if_pos hc] at h
    exact ⟨hc, rts_zero hd he ha hb h⟩
  · rw [if_neg hc] at h
    exfalso
    have cs : c.sign ≠ 0 := by rcases sign_pm hc with g | g <;> rw [g] <;> decide
    by_cases h0 : rts a d b e = 0
    · rw [if_pos h0] at h
      exact cs h
    · rw [if_neg h0] at h
      by_cases h1 : rts a d b e = c.sign
      · rw [if_pos h1] at h
        exact h0 h
      · rw [if_neg h1] at h
        have h2 : sq1 (a * a * d + b * b * e - c * c) (2 * a * b) (d * e) = 0 := by
          rcases Int.mul_eq_zero.mp h with g | g
          · exact absurd g h0
          · exact g
        have de := Int.mul_pos hd he
        have h3 := sqd_of de (sq1_zero h2)
        have ab : 2 * a * b ≠ 0 := Int.mul_ne_zero (by omega) hb
        have hk : ∃ k : Int, k * k = d * e := by
          apply Classical.byContradiction
          intro g
          exact nsq_mul ab (fun s e' => g ⟨s, e'⟩) _ h3
        obtain ⟨k, hk⟩ := hk
        have h4 : (a * a * d + b * b * e - c * c - 2 * a * b * k) * (a * a * d + b * b * e - c * c + 2 * a * b * k) = 0 := by
          rw [← hk] at h3
          grind
        rcases Int.mul_eq_zero.mp h4 with g | g
        · refine nsq_mul hc nd (a * d - b * k) ?_
          have e1 : c * c = a * a * d + b * b * e - 2 * a * b * k := by omega
          rw [e1]
          grind
        · refine nsq_mul hc nd (a * d + b * k) ?_
          have e1 : c * c = a * a * d + b * b * e + 2 * a * b * k := by omega
          rw [e1]
          grind
theorem fr_uniq {m k : Nat} {a b c d : Int} (h : Fr m a b) (g : Fr k c d) (e : a * d = c * b) : a = c ∧ b = d := by
  have h1 := fr_eq (a := a) (b := b) (c := c) (d := d) (by have := h.b1; omega) (by have := g.b1; omega) e
  rw [fr_self h, fr_self g] at h1
  injection h1 with h2
  injection h2 with h3 h4
  injection h3 with h3
  injection h4 with h4
  injection h4 with h4
  exact ⟨h3, h4⟩
theorem m_z {a1 b1 c1 a2 b2 c2 : Int} (h1 : a1 ≠ 0) (h2 : a2 ≠ 0) (e1 : b1 * a2 = b2 * a1) (e2 : a2 * a2 * (b1 * b1 - 4 * a1 * c1) = a1 * a1 * (b2 * b2 - 4 * a2 * c2)) : a2 * c1 = a1 * c2 := by
  have h3 : a1 * a2 * (a2 * c1) = a1 * a2 * (a1 * c2) := by
    have e3 : b1 * a2 * (b1 * a2) = b2 * a1 * (b2 * a1) := by rw [e1]
    grind
  exact Int.eq_of_mul_eq_mul_left (Int.mul_ne_zero h1 h2) h3
theorem cmp_zero {m k : Nat} {x y : Mo} (hx : x.ok m) (hy : y.ok k) (h : cmpM x y = 0) : x = y := by
  unfold cmpM at h
  cases x with
  | f u v =>
    cases y with
    | f u' v' =>
      have h' : sgG (u * v' - u' * v) (0 * v') 1 (-0 * v) 1 = 0 := h
      rw [Int.zero_mul, Int.neg_zero, Int.zero_mul, sg_ff] at h'
      have e : u * v' = u' * v := by
        rcases sign_cases (u * v' - u' * v) with ⟨_, g⟩ | ⟨g, _⟩ | ⟨_, g⟩
        · rw [g] at h'; exact absurd h' (by decide)
        · omega
        · rw [g] at h'; exact absurd h' (by decide)
      obtain ⟨rfl, rfl⟩ := fr_uniq hx hy e
      rfl
    | r a b c s =>
      exfalso
      have v0 : 0 < v := Mo.w_pos hx
      have h' : sgG (u * (2 * a) - -b * v) (0 * (2 * a)) 1 (-s * v) (b * b - 4 * a * c) = 0 := h
      rw [Int.zero_mul, sg_fr hy.pos] at h'
      exact sq1_ne (Int.mul_ne_zero (by rcases hy.s1 with g | g <;> omega) (by omega)) hy.pos hy.nsq h'
  | r a b c s =>
    cases y with
    | f u' v' =>
      exfalso
      have v0 : 0 < v' := Mo.w_pos hy
      have h' : sgG (-b * v' - u' * (2 * a)) (s * v') (b * b - 4 * a * c) (-0 * (2 * a)) 1 = 0 := h
      rw [Int.neg_zero, Int.zero_mul, sg_rf hx.pos] at h'
      exact sq1_ne (Int.mul_ne_zero (by rcases hx.s1 with g | g <;> omega) (by omega)) hx.pos hx.nsq h'
    | r a' b' c' s' =>
      have h' : sgG (-b * (2 * a') - -b' * (2 * a)) (s * (2 * a')) (b * b - 4 * a * c) (-s' * (2 * a)) (b' * b' - 4 * a' * c') = 0 := h
      have a0 : 0 < a := by have := hx.a1; omega
      have a0' : 0 < a' := by have := hy.a1; omega
      obtain ⟨e1, e2, e3⟩ := sgG_zero hx.pos hy.pos (Int.mul_ne_zero (by rcases hx.s1 with g | g <;> omega) (by omega)) (Int.mul_ne_zero (by rcases hy.s1 with g | g <;> omega) (by omega)) hx.nsq h'
      have p1 : (2 * a').sign = 1 := Int.sign_eq_one_of_pos (by omega)
      have p2 : (2 * a).sign = 1 := Int.sign_eq_one_of_pos (by omega)
      rw [Int.sign_mul s, Int.sign_mul (-s'), p1, p2, Int.mul_one, Int.mul_one, Int.sign_neg] at e3
      have es : s = s' := by
        rcases hx.s1 with g | g <;> rcases hy.s1 with g' | g' <;> rw [g, g'] at e3 ⊢ <;> first | rfl | exact absurd e3 (by decide)
      subst es
      have ss : s * s = 1 := by rcases hx.s1 with g | g <;> rw [g] <;> rfl
      have f1 : b * a' = b' * a := by
        have q1 : -b * (2 * a') = -(2 * (b * a')) := by grind
        have q2 : -b' * (2 * a) = -(2 * (b' * a)) := by grind
        omega
      have f2 : a' * a' * (b * b - 4 * a * c) = a * a * (b' * b' - 4 * a' * c') := by
        have q1 : s * (2 * a') * (s * (2 * a')) = 4 * (s * s) * (a' * a') := by grind
        have q2 : -s * (2 * a) * (-s * (2 * a)) = 4 * (s * s) * (a * a) := by grind
        rw [q1, q2, ss] at e2
        have q3 : 4 * (a' * a' * (b * b - 4 * a * c)) = 4 * (a * a * (b' * b' - 4 * a' * c')) := by grind
        omega
      have f3 := m_z (by omega) (by omega) f1 f2
      have pe := prim_eq (x := a') (y := a) (a := a') (b := b') (c := c') (p := a) (q := b) (r := c) (s := s) a0' a0 (Int.mul_comm _ _) (by rw [Int.mul_comm, f1, Int.mul_comm]) f3
      rw [prim_self hx.g1, prim_self hy.g1] at pe
      injection pe with pe
      injection pe with q1 pe
      injection pe with q2 pe
      injection pe with q3 pe
      injection q1 with q1
      injection q2 with q2
      injection q3 with q3
      rw [q1, q2, q3]
end Pv

set_option Elab.async false
set_option linter.all false
set_option maxRecDepth 100000
/-! Me: two different moments lie apart: a bound. -/
namespace Pv
open PySem
theorem sq_le {x y : Int} (h0 : 0 ≤ x) (h : x ≤ y) : x * x ≤ y * y := Int.mul_le_mul h h h0 (Int.le_trans h0 h)
/-- the sign of c + a * root of d by squares -/
theorem sq1_gt {c a d : Int} (hd : 0 < d) : 0 < sq1 c a d ↔ (0 < c ∧ 0 ≤ a) ∨ (0 ≤ c ∧ 0 < a) ∨ (0 < c ∧ a < 0 ∧ a * a * d < c * c) ∨ (c < 0 ∧ 0 < a ∧ c * c < a * a * d) := by
  unfold sq1
  have hs : ∀ z : Int, 0 < z.sign ↔ 0 < z := fun z => by
    rcases sign_cases z with ⟨h, g⟩ | ⟨h, g⟩ | ⟨h, g⟩ <;> rw [g] <;> omega
  rw [hs]
  rcases Int.lt_trichotomy c 0 with hc | hc | hc <;> rcases Int.lt_trichotomy a 0 with ha | ha | ha
  · have n1 : (c.natAbs : Int) = -c := by omega
    have n2 : (a.natAbs : Int) = -a := by omega
    have p1 := Int.mul_pos_of_neg_of_neg hc hc
    have p2 := Int.mul_pos (Int.mul_pos_of_neg_of_neg ha ha) hd
    have e : c * -c + a * -a * d = -(c * c + a * a * d) := by grind
    rw [n1, n2, e]
    omega
  · subst ha
    have n1 : (c.natAbs : Int) = -c := by omega
    have p1 := Int.mul_pos_of_neg_of_neg hc hc
    have e : c * -c + 0 * ((0 : Int).natAbs : Int) * d = -(c * c) := by simp [Int.mul_neg]
    rw [n1, e]
    omega
  · have n1 : (c.natAbs : Int) = -c := by omega
    have n2 : (a.natAbs : Int) = a := by omega
    have e : c * -c + a * a * d = a * a * d - c * c := by grind
    rw [n1, n2, e]
    omega
  · subst hc
    have n2 : (a.natAbs : Int) = -a := by omega
    have p2 := Int.mul_pos (Int.mul_pos_of_neg_of_neg ha ha) hd
    have e : (0 : Int) * ((0 : Int).natAbs : Int) + a * -a * d = -(a * a * d) := by grind
    rw [n2, e]
    omega
  · subst hc
    subst ha
    simp
  · subst hc
    have n2 : (a.natAbs : Int) = a := by omega
    have p2 := Int.mul_pos (Int.mul_pos ha ha) hd
    have e : (0 : Int) * ((0 : Int).natAbs : Int) + a * a * d = a * a * d := by grind
    rw [n2, e]
    omega
  · have n1 : (c.natAbs : Int) = c := by omega
    have n2 : (a.natAbs : Int) = -a := by omega
    have e : c * c + a * -a * d = c * c - a * a * d := by grind
    rw [n1, n2, e]
    omega
  · subst ha
    have n1 : (c.natAbs : Int) = c := by omega
    have p1 := Int.mul_pos hc hc
    have e : c * c + 0 * ((0 : Int).natAbs : Int) * d = c * c := by simp
    rw [n1, e]
    omega
  · have n1 : (c.natAbs : Int) = c := by omega
    have n2 : (a.natAbs : Int) = a := by omega
    have p1 := Int.mul_pos hc hc
    have p2 := Int.mul_pos (Int.mul_pos ha ha) hd
    rw [n1, n2]
    omega
/-- a sum that is over 0 stays so when little is taken from its like, M times as great -/
theorem sep {T Y G M th : Int} (hG : 0 < G) (hM : 0 < M) (h0 : 0 ≤ th) (h1 : 0 < sq1 T Y G) (h2 : ¬ 0 < sq1 (M * T - th) (M * Y) G) : M ≤ (2 * T.natAbs + 1) * th := by
  have tn : (T.natAbs : Int) * th ≥ 0 := Int.mul_nonneg (by omega) h0
  have ex : (2 * (T.natAbs : Int) + 1) * th = 2 * (T.natAbs * th) + th := by grind
  rw [ex]
  apply Classical.byContradiction
  intro hn
  apply h2
  rw [sq1_gt hG] at h1 ⊢
  have Mth : th < M := by omega
  rcases h1 with ⟨a1, a2⟩ | ⟨a1, a2⟩ | ⟨a1, a2, a3⟩ | ⟨a1, a2, a3⟩
  · left
    have q1 : M * 1 ≤ M * T := Int.mul_le_mul_of_nonneg_left a1 (by omega)
    exact ⟨by omega, Int.mul_nonneg (by omega) a2⟩
  · have q1 : 0 ≤ M * T := Int.mul_nonneg (by omega) a1
    have q2 : 0 < M * Y := Int.mul_pos hM a2
    by_cases c0 : 0 ≤ M * T - th
    · exact .inr (.inl ⟨c0, q2⟩)
    · refine .inr (.inr (.inr ⟨by omega, q2, ?_⟩))
      have q3 : (M * T - th) * (M * T - th) ≤ th * th := by
        have := sq_le (x := -(M * T - th)) (y := th) (by omega) (by omega)
        rw [Int.neg_mul_neg] at this
        exact this
      have q4 : th * th < M * M := by
        have s1 : th * th ≤ th * M := Int.mul_le_mul_of_nonneg_left (by omega) h0
        have s2 : th * M < M * M := Int.mul_lt_mul_of_pos_right Mth hM
        omega
      have q5 : 1 ≤ Y * Y * G := Int.mul_pos (Int.mul_pos a2 a2) hG
      have q6 : M * M * 1 ≤ M * M * (Y * Y * G) := Int.mul_le_mul_of_nonneg_left q5 (Int.le_of_lt (Int.mul_pos hM hM))
      have e : M * Y * (M * Y) * G = M * M * (Y * Y * G) := by grind
      rw [e]
      omega
  · have q2 : M * Y < 0 := Int.mul_neg_of_pos_of_neg hM a2
    have q1 : M * 1 ≤ M * T := Int.mul_le_mul_of_nonneg_left a1 (by omega)
    refine .inr (.inr (.inl ⟨by omega, q2, ?_⟩))
    have nT : (T.natAbs : Int) = T := by omega
    rw [nT] at hn
    have q5 : Y * Y * G + 1 ≤ T * T := by omega
    have q6 : M * M * (Y * Y * G + 1) ≤ M * M * (T * T) := Int.mul_le_mul_of_nonneg_left q5 (Int.le_of_lt (Int.mul_pos hM hM))
    have e : M * Y * (M * Y) * G = M * M * (Y * Y * G) := by grind
    have e2 : (M * T - th) * (M * T - th) = M * M * (T * T) - M * (2 * (T * th)) + th * th := by grind
    have e3 : M * M * (Y * Y * G + 1) = M * M * (Y * Y * G) + M * M := by grind
    have q7 : M * (2 * (T * th)) < M * M := Int.mul_lt_mul_of_pos_left (by omega) hM
    have q8 : 0 ≤ th * th := Int.mul_nonneg h0 h0
    rw [e, e2]
    omega
  · have q2 : 0 < M * Y := Int.mul_pos hM a2
    have q1 : M * T ≤ M * -1 := Int.mul_le_mul_of_nonneg_left (by omega) (by omega)
    refine .inr (.inr (.inr ⟨by omega, q2, ?_⟩))
    have nT : (T.natAbs : Int) = -T := by omega
    rw [nT] at hn
    have q5 : T * T + 1 ≤ Y * Y * G := by omega
    have q6 : M * M * (T * T + 1) ≤ M * M * (Y * Y * G) := Int.mul_le_mul_of_nonneg_left q5 (Int.le_of_lt (Int.mul_pos hM hM))
    have e : M * Y * (M * Y) * G = M * M * (Y * Y * G) := by grind
    have e2 : (M * T - th) * (M * T - th) = M * M * (T * T) + M * (2 * (-T * th)) + th * th := by grind
    have e3 : M * M * (T * T + 1) = M * M * (T * T) + M * M := by grind
    have q7 : M * (2 * (-T * th) + th) < M * M := Int.mul_lt_mul_of_pos_left (by omega) hM
    have e4 : M * (2 * (-T * th) + th) = M * (2 * (-T * th)) + M * th := by grind
    have q8 : th * th ≤ M * th := Int.mul_le_mul_of_nonneg_right (by omega) h0
    rw [e, e2]
    omega
end Pv

set_option Elab.async false
set_option linter.all false
set_option maxRecDepth 100000
/-! Mf: two different moments lie apart: two roots. -/
namespace Pv
open PySem
theorem rts_mul {N a d b e : Int} (hN : 0 < N) : rts (N * a) d (N * b) e = rts a d b e := by
  unfold rts
  have n1 : (N.natAbs : Int) = N := by omega
  rw [Int.natAbs_mul, Int.natAbs_mul, Int.natCast_mul, Int.natCast_mul, n1]
  have e1 : N * a * (N * a.natAbs) * d + N * b * (N * b.natAbs) * e = N * N * (a * a.natAbs * d + b * b.natAbs * e) := by grind
  rw [e1, Int.sign_mul, Int.sign_eq_one_of_pos (Int.mul_pos hN hN), Int.one_mul]
theorem rts_pm {a d b e : Int} : rts a d b e = 1 ∨ rts a d b e = 0 ∨ rts a d b e = -1 := by
  unfold rts
  rcases sign_cases (a * a.natAbs * d + b * b.natAbs * e) with ⟨_, h⟩ | ⟨_, h⟩ | ⟨_, h⟩ <;> rw [h] <;> simp
theorem sq1_lt {c a d : Int} : sq1 c a d < 0 ↔ 0 < sq1 (-c) (-a) d := by
  rw [sq1_neg]
  omega
/-- the roots' square is over 0 -/
theorem rho_pos {a d b e : Int} (hd : 0 < d) (he : 0 < e) (h : rts a d b e ≠ 0) : 0 < sq1 (a * a * d + b * b * e) (2 * a * b) (d * e) := by
  rw [sq1_gt (Int.mul_pos hd he)]
  have sqn : ∀ x : Int, 0 ≤ x * x := fun x => by
    rcases Int.le_total 0 x with g | g
    · exact Int.mul_nonneg g g
    · have := Int.mul_nonneg (show 0 ≤ -x by omega) (show 0 ≤ -x by omega)
      rw [Int.neg_mul_neg] at this
      exact this
  have p1 : 0 ≤ a * a * d := Int.mul_nonneg (sqn a) (by omega)
  have p2 : 0 ≤ b * b * e := Int.mul_nonneg (sqn b) (by omega)
  have ab : a ≠ 0 ∨ b ≠ 0 := by
    by_cases h1 : a = 0
    · by_cases h2 : b = 0
      · exfalso
        apply h
        unfold rts
        rw [h1, h2]
        simp
      · exact .inr h2
    · exact .inl h1
  have pp : ∀ {x y : Int}, x ≠ 0 → 0 < y → 0 < x * x * y := fun hx hy => pos_of hx hy
  have hp : 0 < a * a * d + b * b * e := by
    rcases ab with g | g
    · have := pp g hd; omega
    · have := pp g he; omega
  by_cases hy : 0 ≤ 2 * a * b
  · exact .inl ⟨hp, hy⟩
  · refine .inr (.inr (.inl ⟨hp, by omega, ?_⟩))
    have hne : a * a * d - b * b * e ≠ 0 := by
      intro g
      apply h
      have a0 : a ≠ 0 := fun z => hy (by rw [z]; simp)
      have b0 : b ≠ 0 := fun z => hy (by rw [z]; simp)
      have hneg : a * b < 0 := by
        have e' : 2 * a * b = 2 * (a * b) := by grind
        omega
      unfold rts
      rcases Int.lt_or_gt_of_ne a0 with ha | ha
      · have hb : 0 < b := by
          rcases Int.lt_or_gt_of_ne b0 with hb | hb
          · have := Int.mul_pos_of_neg_of_neg ha hb; omega
          · exact hb
        have n1 : (a.natAbs : Int) = -a := by omega
        have n2 : (b.natAbs : Int) = b := by omega
        have e' : a * -a * d + b * b * e = -(a * a * d - b * b * e) := by grind
        rw [n1, n2, e', g]
        rfl
      · have hb : b < 0 := by
          rcases Int.lt_or_gt_of_ne b0 with hb | hb
          · exact hb
          · have := Int.mul_pos ha hb; omega
        have n1 : (a.natAbs : Int) = a := by omega
        have n2 : (b.natAbs : Int) = -b := by omega
        have e' : a * a * d + b * -b * e = a * a * d - b * b * e := by grind
        rw [n1, n2, e', g]
        rfl
    have hsq : 0 < (a * a * d - b * b * e) * (a * a * d - b * b * e) := by
      rcases Int.lt_or_gt_of_ne hne with g | g
      · exact Int.mul_pos_of_neg_of_neg g g
      · exact Int.mul_pos g g
    have e' : (a * a * d + b * b * e) * (a * a * d + b * b * e) = (a * a * d - b * b * e) * (a * a * d - b * b * e) + 2 * a * b * (2 * a * b) * (d * e) := by grind
    omega
theorem le_of_sq {N k A : Int} (hN : 0 < N) (h : N * N ≤ A * (k * N)) : N ≤ A * k := by
  have e : A * (k * N) = (A * k) * N := by grind
  rw [e] at h
  exact Int.le_of_mul_le_mul_right h hN
/-- c + a root d + b root e is under 0; raised by dl of N parts it is not: so N is small -/
theorem sepG {c a d b e N dl : Int} (hd : 0 < d) (he : 0 < e) (hN : 0 < N) (h0 : 0 ≤ dl) (h1 : sgG c a d b e < 0) (h2 : ¬ sgG (N * c + dl) (N * a) d (N * b) e < 0) :
    N ≤ (2 * ((a * a * d + b * b * e - c * c).natAbs : Int) + 1) * ((2 * c.natAbs + 1) * dl) := by
  obtain ⟨T, hT⟩ : ∃ T, T = a * a * d + b * b * e - c * c := ⟨_, rfl⟩
  rw [← hT]
  have A1 : (1 : Int) ≤ 2 * (T.natAbs : Int) + 1 := by omega
  have C1 : dl ≤ (2 * (c.natAbs : Int) + 1) * dl := by
    have := Int.mul_le_mul_of_nonneg_right (show (1 : Int) ≤ 2 * (c.natAbs : Int) + 1 by omega) h0
    omega
  have C0 : 0 ≤ (2 * (c.natAbs : Int) + 1) * dl := Int.le_trans h0 C1
  have small : N ≤ dl → N ≤ (2 * (T.natAbs : Int) + 1) * ((2 * c.natAbs + 1) * dl) := fun h => by
    have := Int.mul_le_mul_of_nonneg_right A1 C0
    omega
  by_cases hs : N ≤ dl
  · exact small hs
  have G0 := Int.mul_pos hd he
  have NN := Int.mul_pos hN hN
  have eY : 2 * (N * a) * (N * b) = N * N * (2 * a * b) := by grind
  have eT : N * a * (N * a) * d + N * b * (N * b) * e - (N * c + dl) * (N * c + dl) = N * N * T - (2 * N * c * dl + dl * dl) := by
    rw [hT]
    grind
  have D0 : 0 ≤ dl * dl := Int.mul_nonneg h0 h0
  have DN : dl * dl ≤ N * dl := Int.mul_le_mul_of_nonneg_right (by omega) h0
  unfold sgG at h1 h2
  rw [rts_mul hN, eT, eY] at h2
  rw [← hT] at h1
  rcases Int.lt_trichotomy c 0 with hc | hc | hc
  · have c1 : N * c + dl < 0 := by
      have := Int.mul_le_mul_of_nonneg_left (show c ≤ -1 by omega) (Int.le_of_lt hN)
      omega
    rw [if_neg (by omega), Int.sign_eq_neg_one_of_neg hc] at h1
    rw [if_neg (by omega), Int.sign_eq_neg_one_of_neg c1] at h2
    rcases rts_pm (a := a) (d := d) (b := b) (e := e) with g | g | g
    · rw [g] at h1 h2
      simp at h1 h2
      have h1' : sq1 T (2 * a * b) (d * e) < 0 := h1
      have h2' : 0 ≤ sq1 (N * N * T - (2 * N * c * dl + dl * dl)) (N * N * (2 * a * b)) (d * e) := h2
      have th0 : 0 ≤ -(2 * N * c * dl + dl * dl) := by
        have q := Int.mul_le_mul_of_nonneg_right (show N * c + dl ≤ 0 by omega) h0
        have e' : (N * c + dl) * dl = N * c * dl + dl * dl := by grind
        have e2 : 2 * N * c * dl = 2 * (N * c * dl) := by grind
        have q2 := Int.mul_nonpos_of_nonpos_of_nonneg (show N * c ≤ 0 by omega) h0
        omega
      have s := sep (T := -T) (Y := -(2 * a * b)) (M := N * N) (th := -(2 * N * c * dl + dl * dl)) G0 NN th0 (sq1_lt.mp h1') (by
        have e' : N * N * -T - -(2 * N * c * dl + dl * dl) = -(N * N * T - (2 * N * c * dl + dl * dl)) := by grind
        have e2 : N * N * -(2 * a * b) = -(N * N * (2 * a * b)) := by grind
        rw [e', e2, sq1_neg]
        omega)
      rw [Int.natAbs_neg] at s
      refine le_of_sq hN (Int.le_trans s (Int.mul_le_mul_of_nonneg_left ?_ (by omega)))
      have nc : (c.natAbs : Int) = -c := by omega
      rw [nc]
      have e' : (2 * -c + 1) * dl * N = -(2 * N * c * dl) + N * dl := by grind
      rw [e']
      omega
    · exfalso
      rw [g] at h2
      simp at h2
    · exfalso
      rw [g] at h2
      simp at h2
  · subst hc
    simp at h1
    have e0 : N * 0 + dl = dl := by omega
    have g : rts a d b e = -1 := by
      rcases rts_pm (a := a) (d := d) (b := b) (e := e) with g | g | g
      · omega
      · omega
      · exact g
    have T0 : T = a * a * d + b * b * e := by omega
    by_cases d0 : dl = 0
    · exfalso
      subst d0
      rw [g] at h2
      simp at h2
    · have dp : 0 < dl := by omega
      rw [e0, if_neg d0, g, Int.sign_eq_one_of_pos dp] at h2
      simp at h2
      have s := sep (T := T) (Y := 2 * a * b) (M := N * N) (th := dl * dl) G0 NN D0 (by rw [T0]; exact rho_pos hd he (by omega)) (by omega)
      refine le_of_sq hN (Int.le_trans s (Int.mul_le_mul_of_nonneg_left ?_ (by omega)))
      simp
      rw [Int.mul_comm dl N]
      exact DN
  · have c1 : 0 < N * c + dl := by
      have := Int.mul_pos hN hc
      omega
    rw [if_neg (by omega), Int.sign_eq_one_of_pos hc] at h1
    rw [if_neg (by omega), Int.sign_eq_one_of_pos c1] at h2
    rcases rts_pm (a := a) (d := d) (b := b) (e := e) with g | g | g
    · exfalso
      rw [g] at h1
      simp at h1
    · exfalso
      rw [g] at h1
      simp at h1
    · rw [g] at h1 h2
      simp at h1 h2
      have th0 : 0 ≤ 2 * N * c * dl + dl * dl := by
        have q := Int.mul_nonneg (Int.le_of_lt (Int.mul_pos hN hc)) h0
        have e2 : 2 * N * c * dl = 2 * (N * c * dl) := by grind
        omega
      have s := sep (T := T) (Y := 2 * a * b) (M := N * N) (th := 2 * N * c * dl + dl * dl) G0 NN th0 (by omega) (by omega)
      refine le_of_sq hN (Int.le_trans s (Int.mul_le_mul_of_nonneg_left ?_ (by omega)))
      have nc : (c.natAbs : Int) = c := by omega
      rw [nc]
      have e' : (2 * c + 1) * dl * N = 2 * N * c * dl + N * dl := by grind
      rw [e']
      omega
end Pv

set_option Elab.async false
set_option linter.all false
set_option maxRecDepth 100000
/-! Mg: two parts that are not under 0 make a sum that is not. -/
namespace Pv
open PySem
theorem nn {c a d : Int} : ¬ sq1 c a d < 0 ↔ 0 ≤ c * c.natAbs + a * a.natAbs * d := by
  unfold sq1
  rcases sign_cases (c * c.natAbs + a * a.natAbs * d) with ⟨h, g⟩ | ⟨h, g⟩ | ⟨h, g⟩ <;> rw [g] <;> omega
theorem f_neg {A B : Int} (h : A + B < 0) : A * A.natAbs + B * B.natAbs < 0 := by
  have key : ∀ {x y : Int}, 0 ≤ x → x + y < 0 → x * x.natAbs + y * y.natAbs < 0 := fun {x y} hx hy => by
    have n1 : (x.natAbs : Int) = x := by omega
    have n2 : (y.natAbs : Int) = -y := by omega
    have s := sq_le (x := x + 1) (y := -y) (by omega) (by omega)
    have e1 : (x + 1) * (x + 1) = x * x + 2 * x + 1 := by grind
    have e2 : -y * -y = y * y := by grind
    have e3 : y * -y = -(y * y) := by grind
    rw [n1, n2, e3]
    omega
  by_cases hA : 0 ≤ A
  · exact key hA h
  · by_cases hB : 0 ≤ B
    · have := key hB (by omega : B + A < 0)
      omega
    · have n1 : (A.natAbs : Int) = -A := by omega
      have n2 : (B.natAbs : Int) = -B := by omega
      have p1 := Int.mul_pos_of_neg_of_neg (show A < 0 by omega) (show A < 0 by omega)
      have p2 := Int.mul_pos_of_neg_of_neg (show B < 0 by omega) (show B < 0 by omega)
      have e1 : A * -A = -(A * A) := by grind
      have e2 : B * -B = -(B * B) := by grind
      rw [n1, n2, e1, e2]
      omega
theorem f_odd {A : Int} : -A * (-A).natAbs = -(A * A.natAbs) := by
  rw [Int.natAbs_neg, Int.neg_mul]
/-- c < 0, the roots' sum over 0, one of the roots not -/
theorem core1 {A B P Q T : Int} (hP : 0 < P) (hQ : 0 ≤ Q) (hB : 0 ≤ B) (q1 : Q ≤ B * B) (hc : A + B < 0) (p1 : A * A ≤ P) (hT : T = P + Q - (A + B) * (A + B)) : 0 ≤ T ∧ 4 * (P * Q) ≤ T * T ∧ (T = 0 → Q = 0) := by
  obtain ⟨a, ha⟩ : ∃ a, a = -A := ⟨_, rfl⟩
  obtain ⟨u, hu⟩ : ∃ u, u = P - a * a := ⟨_, rfl⟩
  obtain ⟨v, hv⟩ : ∃ v, v = B * B - Q := ⟨_, rfl⟩
  have aa : a * a = A * A := by rw [ha, Int.neg_mul_neg]
  have u0 : 0 ≤ u := by omega
  have v0 : 0 ≤ v := by omega
  have ab : 0 < a - B := by omega
  have aB : B * B ≤ a * B := Int.mul_le_mul_of_nonneg_right (by omega) hB
  have hT2 : T = u - v + 2 * (a * B) := by
    rw [hT, hu, hv, ha]
    grind
  have e : T * T - 4 * (P * Q) = (u + v) * (u + v) + 4 * (a - B) * (u * B + v * a) := by
    have eP : P = u + a * a := by omega
    have eQ : Q = B * B - v := by omega
    rw [hT2, eP, eQ]
    grind
  have p2 : 0 ≤ (u + v) * (u + v) := Int.mul_nonneg (by omega) (by omega)
  have p3 : 0 ≤ 4 * (a - B) * (u * B + v * a) := Int.mul_nonneg (by omega) (Int.add_nonneg (Int.mul_nonneg u0 hB) (Int.mul_nonneg v0 (by omega)))
  refine ⟨by omega, by omega, fun h => ?_⟩
  by_cases hB0 : B = 0
  · subst hB0
    simp at q1
    omega
  · exfalso
    have := Int.mul_pos (show 0 < a by omega) (show 0 < B by omega)
    have p4 : 0 < B * B := Int.mul_pos (by omega) (by omega)
    omega
/-- c > 0, the roots' sum under 0 -/
theorem core2 {A B P Q T : Int} (hP : 0 ≤ P) (hA : A < 0) (p1 : A * A ≤ P) (pq : P < Q) (q1 : Q ≤ B * B) (hB : 0 ≤ B) (hc : 0 < A + B) (hT : T = P + Q - (A + B) * (A + B)) (T0 : 0 < T) : T * T ≤ 4 * (P * Q) := by
  obtain ⟨s, hs⟩ : ∃ s, s = A + B := ⟨_, rfl⟩
  obtain ⟨w, hw⟩ : ∃ w, w = Q - P := ⟨_, rfl⟩
  rw [← hs] at hT hc
  have e : T * T - 4 * (P * Q) = (w - s * s) * (w - s * s) - 4 * (s * s * P) := by
    have eQ : Q = P + w := by omega
    rw [hT, eQ]
    grind
  have ss : 0 < s * s := Int.mul_pos hc hc
  have sP : s * s * (A * A) ≤ s * s * P := Int.mul_le_mul_of_nonneg_left p1 (by omega)
  have key : (w - s * s) * (w - s * s) ≤ 4 * (s * s * P) := by
    by_cases h : s * s ≤ w
    · have h1 : w - s * s ≤ 2 * (-A * s) := by
        have e1 : B * B - A * A = s * s + 2 * (-A * s) := by
          have : B = s - A := by omega
          rw [this]
          grind
        omega
      have h2 := sq_le (x := w - s * s) (y := 2 * (-A * s)) (by omega) h1
      have e2 : 2 * (-A * s) * (2 * (-A * s)) = 4 * (s * s * (A * A)) := by grind
      omega
    · have h1 : 0 ≤ s * s - w := by omega
      have h2 : s * s - w ≤ 2 * P := by omega
      have h3 : s * s - w ≤ s * s := by omega
      have h4 : (s * s - w) * (s * s - w) ≤ s * s * (2 * P) := Int.mul_le_mul h3 h2 h1 (by omega)
      have e2 : (w - s * s) * (w - s * s) = (s * s - w) * (s * s - w) := by grind
      have e3 : s * s * (2 * P) = 2 * (s * s * P) := by grind
      have h5 : 0 ≤ s * s * P := Int.mul_nonneg (by omega) hP
      omega
  omega
end Pv

set_option Elab.async false
set_option linter.all false
set_option maxRecDepth 100000
/-! Mh: the sum. -/
namespace Pv
open PySem
theorem sq_nonneg (x : Int) : 0 ≤ x * x := by
  rcases Int.le_total 0 x with g | g
  · exact Int.mul_nonneg g g
  · have := Int.mul_nonneg (show 0 ≤ -x by omega) (show 0 ≤ -x by omega)
    rw [Int.neg_mul_neg] at this
    exact this
/-- x * |x| with the sign told -/
theorem f_pos {x : Int} (h : 0 ≤ x) : x * (x.natAbs : Int) = x * x := by rw [Int.natAbs_of_nonneg h]
theorem f_np {x : Int} (h : x ≤ 0) : x * (x.natAbs : Int) = -(x * x) := by
  have : (x.natAbs : Int) = -x := by omega
  rw [this, Int.mul_neg]
/-- under 0 by a part that is not over 0: so the other is 0 or over it, and its square is great -/
theorem part_np {A x D : Int} (hD : 0 < D) (hx : x ≤ 0) (h : 0 ≤ A * A.natAbs + x * x.natAbs * D) : 0 ≤ A ∧ x * x * D ≤ A * A := by
  have p := Int.mul_nonneg (sq_nonneg x) (Int.le_of_lt hD)
  rw [f_np hx, Int.neg_mul] at h
  by_cases hA : 0 ≤ A
  · rw [f_pos hA] at h
    exact ⟨hA, by omega⟩
  · have q := Int.mul_pos_of_neg_of_neg (show A < 0 by omega) (show A < 0 by omega)
    rw [f_np (by omega)] at h
    omega
theorem part_n {A x D : Int} (hA : A < 0) (hx : 0 ≤ x) (h : 0 ≤ A * A.natAbs + x * x.natAbs * D) : A * A ≤ x * x * D := by
  rw [f_np (by omega), f_pos hx] at h
  omega
theorem sum_ok {A al D B be E : Int} (hD : 0 < D) (hE : 0 < E) (hA : ¬ sq1 A al D < 0) (hB : ¬ sq1 B be E < 0) : ¬ sgG (A + B) al D be E < 0 := by
  rw [nn] at hA hB
  intro h
  have G0 := Int.mul_pos hD hE
  obtain ⟨P, hP⟩ : ∃ P, P = al * al * D := ⟨_, rfl⟩
  obtain ⟨Q, hQ⟩ : ∃ Q, Q = be * be * E := ⟨_, rfl⟩
  have P0 : 0 ≤ P := by rw [hP]; exact Int.mul_nonneg (sq_nonneg al) (Int.le_of_lt hD)
  have Q0 : 0 ≤ Q := by rw [hQ]; exact Int.mul_nonneg (sq_nonneg be) (Int.le_of_lt hE)
  have YG : 2 * al * be * (2 * al * be) * (D * E) = 4 * (P * Q) := by rw [hP, hQ]; grind
  have rr : rts al D be E = (al * al.natAbs * D + be * be.natAbs * E).sign := rfl
  unfold sgG at h
  rw [← hP, ← hQ] at h
  obtain ⟨T, hT⟩ : ∃ T, T = P + Q - (A + B) * (A + B) := ⟨_, rfl⟩
  rw [← hT] at h
  rcases Int.lt_trichotomy (A + B) 0 with hc | hc | hc
  · have fn := f_neg hc
    rw [if_neg (by omega), Int.sign_eq_neg_one_of_neg hc] at h
    rcases sign_cases (al * al.natAbs * D + be * be.natAbs * E) with ⟨g, gs⟩ | ⟨g, gs⟩ | ⟨g, gs⟩
    · omega
    · omega
    · rw [rr, gs] at h
      simp at h
      have h' : sq1 T (2 * al * be) (D * E) < 0 := h
      rw [sq1_lt, sq1_gt G0] at h'
      have e1 : -T * -T = T * T := Int.neg_mul_neg _ _
      have e2 : -(2 * al * be) * -(2 * al * be) * (D * E) = 4 * (P * Q) := by rw [Int.neg_mul_neg]; exact YG
      rw [e1, e2] at h'
      by_cases ha : al ≤ 0
      · obtain ⟨a1, a2⟩ := part_np hD ha hA
        rw [← hP] at a2
        by_cases hb : be ≤ 0
        · exfalso
          rw [f_np ha, f_np hb, Int.neg_mul, Int.neg_mul, ← hP, ← hQ] at g
          omega
        · have b1 : B < 0 := by omega
          have b2 := part_n b1 (by omega) hB
          rw [← hQ] at b2
          have Qp : 0 < Q := by
            have := Int.mul_pos_of_neg_of_neg b1 b1
            omega
          obtain ⟨t0, t1, t2⟩ := core1 (A := B) (B := A) (P := Q) (Q := P) (T := T) Qp P0 a1 a2 (by omega) b2 (by rw [hT, Int.add_comm P Q, Int.add_comm A B])
          have pq : Q * P = P * Q := Int.mul_comm _ _
          rw [pq] at t1
          rcases h' with ⟨z, _⟩ | ⟨z, z2⟩ | ⟨z, _, z3⟩ | ⟨z, z2, z3⟩
          · omega
          · have T0 : T = 0 := by omega
            have P00 := t2 T0
            have al0 : al = 0 := by
              apply Classical.byContradiction
              intro q
              have := pos_of q hD
              omega
            rw [al0] at z2
            simp at z2
          · omega
          · omega
      · by_cases hb : be ≤ 0
        · obtain ⟨a1, a2⟩ := part_np hE hb hB
          rw [← hQ] at a2
          have b1 : A < 0 := by omega
          have b2 := part_n b1 (by omega) hA
          rw [← hP] at b2
          have Pp : 0 < P := by
            have := Int.mul_pos_of_neg_of_neg b1 b1
            omega
          obtain ⟨t0, t1, t2⟩ := core1 (A := A) (B := B) (P := P) (Q := Q) (T := T) Pp Q0 a1 a2 hc b2 hT
          rcases h' with ⟨z, _⟩ | ⟨z, z2⟩ | ⟨z, _, z3⟩ | ⟨z, z2, z3⟩
          · omega
          · have T0 : T = 0 := by omega
            have Q00 := t2 T0
            have be0 : be = 0 := by
              apply Classical.byContradiction
              intro q
              have := pos_of q hE
              omega
            rw [be0] at z2
            simp at z2
          · omega
          · omega
        · have Yp : 0 < 2 * al * be := Int.mul_pos (by omega) (by omega)
          by_cases a0 : 0 ≤ A
          · have b1 : B < 0 := by omega
            have b2 := part_n b1 (by omega) hB
            rw [← hQ] at b2
            have s := sq_le (x := -(A + B)) (y := -B) (by omega) (by omega)
            rw [Int.neg_mul_neg, Int.neg_mul_neg] at s
            rcases h' with ⟨z, _⟩ | ⟨z, z2⟩ | ⟨z, z2, _⟩ | ⟨z, z2, z3⟩ <;> omega
          · have a2 := part_n (by omega) (by omega) hA
            rw [← hP] at a2
            by_cases b0 : 0 ≤ B
            · have s := sq_le (x := -(A + B)) (y := -A) (by omega) (by omega)
              rw [Int.neg_mul_neg, Int.neg_mul_neg] at s
              rcases h' with ⟨z, _⟩ | ⟨z, z2⟩ | ⟨z, z2, _⟩ | ⟨z, z2, z3⟩ <;> omega
            · have b2 := part_n (by omega) (by omega) hB
              rw [← hQ] at b2
              rcases h' with ⟨z, z2⟩ | ⟨z, z2⟩ | ⟨z, z2, z3⟩ | ⟨z, z2, z3⟩
              · omega
              · omega
              · have e : (A + B) * (A + B) = A * A + B * B + 2 * (A * B) := by grind
                have s := sq_le (x := -T) (y := 2 * (A * B)) (by omega) (by omega)
                rw [Int.neg_mul_neg] at s
                have m := Int.mul_le_mul a2 b2 (sq_nonneg B) P0
                have e3 : 2 * (A * B) * (2 * (A * B)) = 4 * (A * A * (B * B)) := by grind
                omega
              · omega
  · have eB : B = -A := by omega
    rw [if_pos hc] at h
    rw [eB, f_odd] at hB
    rcases sign_cases (al * al.natAbs * D + be * be.natAbs * E) with ⟨g, gs⟩ | ⟨g, gs⟩ | ⟨g, gs⟩
    · omega
    · rw [rr, gs] at h; omega
    · rw [rr, gs] at h; omega
  · rw [if_neg (by omega), Int.sign_eq_one_of_pos hc] at h
    rcases sign_cases (al * al.natAbs * D + be * be.natAbs * E) with ⟨g, gs⟩ | ⟨g, gs⟩ | ⟨g, gs⟩
    · rw [rr, gs] at h
      simp at h
      have h' : 0 < sq1 T (2 * al * be) (D * E) := by omega
      rw [sq1_gt G0, YG] at h'
      by_cases ha : 0 ≤ al
      · by_cases hb : 0 ≤ be
        · exfalso
          rw [f_pos ha, f_pos hb, ← hP, ← hQ] at g
          omega
        · obtain ⟨a1, a2⟩ := part_np hE (by omega) hB
          rw [← hQ] at a2
          rw [f_pos ha, f_np (by omega), Int.neg_mul, ← hP, ← hQ] at g
          have Yn : 2 * al * be ≤ 0 := Int.mul_nonpos_of_nonneg_of_nonpos (by omega) (by omega)
          by_cases a0 : 0 ≤ A
          · have s := sq_le (x := B) (y := A + B) a1 (by omega)
            have TP : T ≤ P := by omega
            rcases h' with ⟨z, z2⟩ | ⟨z, z2⟩ | ⟨z, z2, z3⟩ | ⟨z, z2, z3⟩
            · have al0 : al = 0 := by
                apply Classical.byContradiction
                intro q
                have := Int.mul_neg_of_pos_of_neg (show 0 < 2 * al by omega) (show be < 0 by omega)
                omega
              have : P = 0 := by rw [hP, al0]; simp
              omega
            · omega
            · have s2 := sq_le (x := T) (y := P) (by omega) TP
              have s3 : P * P ≤ P * Q := Int.mul_le_mul_of_nonneg_left (by omega) P0
              have s4 : 0 ≤ P * Q := Int.mul_nonneg P0 Q0
              omega
            · omega
          · have b2 := part_n (by omega) ha hA
            rw [← hP] at b2
            rcases h' with ⟨z, z2⟩ | ⟨z, z2⟩ | ⟨z, z2, z3⟩ | ⟨z, z2, z3⟩
            · have := core2 P0 (by omega) b2 (by omega) a2 a1 hc hT z
              have al0 : al ≠ 0 := fun q => by
                have : P = 0 := by rw [hP, q]; simp
                have := Int.mul_pos_of_neg_of_neg (show A < 0 by omega) (show A < 0 by omega)
                omega
              have := Int.mul_neg_of_pos_of_neg (show 0 < 2 * al by omega) (show be < 0 by omega)
              omega
            · omega
            · have := core2 P0 (by omega) b2 (by omega) a2 a1 hc hT z
              omega
            · omega
      · obtain ⟨a1, a2⟩ := part_np hD (by omega) hA
        rw [← hP] at a2
        by_cases hb : 0 ≤ be
        · rw [f_np (by omega), f_pos hb, Int.neg_mul, ← hP, ← hQ] at g
          have Yn : 2 * al * be ≤ 0 := Int.mul_nonpos_of_nonpos_of_nonneg (by omega) hb
          by_cases b0 : 0 ≤ B
          · have s := sq_le (x := A) (y := A + B) a1 (by omega)
            have TQ : T ≤ Q := by omega
            rcases h' with ⟨z, z2⟩ | ⟨z, z2⟩ | ⟨z, z2, z3⟩ | ⟨z, z2, z3⟩
            · have be0 : be = 0 := by
                apply Classical.byContradiction
                intro q
                have := Int.mul_neg_of_neg_of_pos (show 2 * al < 0 by omega) (show 0 < be by omega)
                omega
              have : Q = 0 := by rw [hQ, be0]; simp
              omega
            · omega
            · have s2 := sq_le (x := T) (y := Q) (by omega) TQ
              have s3 : Q * Q ≤ P * Q := Int.mul_le_mul_of_nonneg_right (by omega) Q0
              have s4 : 0 ≤ P * Q := Int.mul_nonneg P0 Q0
              omega
            · omega
          · have b2 := part_n (by omega) hb hB
            rw [← hQ] at b2
            have hT' : T = Q + P - (B + A) * (B + A) := by rw [hT, Int.add_comm P Q, Int.add_comm A B]
            have pq : Q * P = P * Q := Int.mul_comm _ _
            rcases h' with ⟨z, z2⟩ | ⟨z, z2⟩ | ⟨z, z2, z3⟩ | ⟨z, z2, z3⟩
            · have be0 : be ≠ 0 := fun q => by
                have : Q = 0 := by rw [hQ, q]; simp
                have := Int.mul_pos_of_neg_of_neg (show B < 0 by omega) (show B < 0 by omega)
                omega
              have := Int.mul_neg_of_neg_of_pos (show 2 * al < 0 by omega) (show 0 < be by omega)
              omega
            · omega
            · have := core2 Q0 (by omega) b2 (by omega) a2 a1 (by omega) hT' z
              omega
            · omega
        · obtain ⟨b1, b2⟩ := part_np hE (by omega) hB
          rw [← hQ] at b2
          have e : (A + B) * (A + B) = A * A + B * B + 2 * (A * B) := by grind
          have ab := Int.mul_nonneg a1 b1
          have Pp : 0 < P := by rw [hP]; exact pos_of (by omega) hD
          have Qp : 0 < Q := by rw [hQ]; exact pos_of (by omega) hE
          have An : A ≠ 0 := fun q => by rw [q] at a2; simp at a2; omega
          have Bn : B ≠ 0 := fun q => by rw [q] at b2; simp at b2; omega
          have ab' := Int.mul_pos (show 0 < A by omega) (show 0 < B by omega)
          rcases h' with ⟨z, z2⟩ | ⟨z, z2⟩ | ⟨z, z2, z3⟩ | ⟨z, z2, z3⟩
          · omega
          · omega
          · omega
          · have s := sq_le (x := 2 * (A * B)) (y := -T) (by omega) (by omega)
            rw [Int.neg_mul_neg] at s
            have m := Int.mul_le_mul a2 b2 Q0 (sq_nonneg A)
            have e3 : 2 * (A * B) * (2 * (A * B)) = 4 * (A * A * (B * B)) := by grind
            omega
    · rw [rr, gs] at h
      simp at h
    · rw [rr, gs] at h
      simp at h
end Pv

set_option Elab.async false
set_option linter.all false
set_option maxRecDepth 100000
/-! Mi: floors, and that a fine enough step falls between. -/
namespace Pv
open PySem
theorem sq1_scale {k c a d : Int} (hk : 0 < k) : sq1 (k * c) (k * a) d = sq1 c a d := by
  unfold sq1
  have n1 : (k.natAbs : Int) = k := by omega
  rw [Int.natAbs_mul, Int.natAbs_mul, Int.natCast_mul, Int.natCast_mul, n1]
  have e1 : k * c * (k * c.natAbs) + k * a * (k * a.natAbs) * d = k * k * (c * c.natAbs + a * a.natAbs * d) := by grind
  rw [e1, Int.sign_mul, Int.sign_eq_one_of_pos (Int.mul_pos hk hk), Int.one_mul]
/-- the floor of N times a moment; h: the root's floor -/
def floM (N h : Int) : Mo → Int
  | .f u v => u * N / v
  | .r a b _ s => (if 0 < s then -b * N + h else -b * N - h - 1) / (2 * a)
theorem le_div {k z w : Int} (hw : 0 < w) : k ≤ z / w ↔ k * w ≤ z := Int.le_ediv_iff_mul_le hw
theorem sq_lt_of {x y : Int} (hx : 0 ≤ x) (hy : 0 ≤ y) (h : x * x ≤ y * y) : x ≤ y := by
  apply Classical.byContradiction
  intro q
  have s := sq_le (x := y + 1) (y := x) (by omega) (by omega)
  have e : (y + 1) * (y + 1) = y * y + 2 * y + 1 := by grind
  omega
theorem flo_iff {m : Nat} {x : Mo} {N h k : Int} (hx : x.ok m) (hN : 0 < N) (h0 : 0 ≤ h) (h1 : h * h ≤ x.e 1 * N * N) (h2 : x.e 1 * N * N < (h + 1) * (h + 1)) : k ≤ floM N h x ↔ ¬ sq1 (x.p * N - k * x.w) (x.q * N) (x.e 1) < 0 := by
  have w0 := Mo.w_pos hx
  rw [nn]
  cases x with
  | f u v =>
    show k ≤ u * N / v ↔ 0 ≤ (u * N - k * v) * ((u * N - k * v).natAbs : Int) + 0 * N * ((0 * N).natAbs : Int) * 1
    have w0' : 0 < v := w0
    rw [le_div w0', Int.zero_mul]
    simp only [Int.zero_mul, Int.add_zero]
    by_cases q : 0 ≤ u * N - k * v
    · rw [f_pos q]
      have := sq_nonneg (u * N - k * v)
      constructor <;> intro _ <;> omega
    · have p := Int.mul_pos_of_neg_of_neg (show u * N - k * v < 0 by omega) (show u * N - k * v < 0 by omega)
      rw [f_np (by omega)]
      constructor <;> intro _ <;> omega
  | r a b c s =>
    have h1' : h * h ≤ (b * b - 4 * a * c) * N * N := h1
    have h2' : (b * b - 4 * a * c) * N * N < (h + 1) * (h + 1) := h2
    show k ≤ (if 0 < s then -b * N + h else -b * N - h - 1) / (2 * a) ↔ 0 ≤ (-b * N - k * (2 * a)) * ((-b * N - k * (2 * a)).natAbs : Int) + s * N * ((s * N).natAbs : Int) * (b * b - 4 * a * c)
    have ns := nsq_mul (m := N) (by omega) hx.nsq
    have eD : (b * b - 4 * a * c) * N * N = N * N * (b * b - 4 * a * c) := by grind
    rw [eD] at h1' h2'
    have w0' : 0 < 2 * a := w0
    rw [le_div w0']
    show k * (2 * a) ≤ (if 0 < s then -b * N + h else -b * N - h - 1) ↔ _
    obtain ⟨z, hz⟩ : ∃ z, z = -b * N - k * (2 * a) := ⟨_, rfl⟩
    rw [← hz]
    have nz := ns z
    generalize hDD : N * N * (b * b - 4 * a * c) = DD at *
    rcases hx.s1 with rfl | rfl
    · have e : 1 * N * ((1 * N).natAbs : Int) * (b * b - 4 * a * c) = DD := by rw [Int.one_mul, f_pos (by omega), hDD]
      rw [e, if_pos (by decide)]
      by_cases q : 0 ≤ z
      · have := sq_nonneg z
        have := sq_nonneg h
        rw [f_pos q]
        constructor <;> intro _ <;> omega
      · rw [f_np (by omega)]
        constructor
        · intro g
          have := sq_le (x := -z) (y := h) (by omega) (by omega)
          rw [Int.neg_mul_neg] at this
          omega
        · intro g
          have : -z < h + 1 := by
            apply Classical.byContradiction
            intro q'
            have := sq_le (x := h + 1) (y := -z) (by omega) (by omega)
            rw [Int.neg_mul_neg] at this
            omega
          omega
    · have e : -1 * N * ((-1 * N).natAbs : Int) * (b * b - 4 * a * c) = -DD := by
        rw [f_np (by omega), ← hDD]
        grind
      rw [e, if_neg (by decide)]
      by_cases q : 0 ≤ z
      · rw [f_pos q]
        constructor
        · intro g
          have := sq_le (x := h + 1) (y := z) (by omega) (by omega)
          omega
        · intro g
          have : h < z := by
            apply Classical.byContradiction
            intro q'
            have := sq_le (x := z) (y := h) q (by omega)
            omega
          omega
      · have p := Int.mul_pos_of_neg_of_neg (show z < 0 by omega) (show z < 0 by omega)
        have := sq_nonneg h
        rw [f_np (by omega)]
        constructor <;> intro _ <;> omega
/-- a fraction beside a moment -/
theorem cmp_f {m : Nat} {u v : Int} {y : Mo} (hy : y.ok m) : cmpM (.f u v) y = sq1 (u * y.w - y.p * v) (-y.q * v) (y.e 1) := by
  unfold cmpM
  cases y with
  | f u' v' =>
    show sgG (u * v' - u' * v) (0 * v') 1 (-0 * v) 1 = sq1 (u * v' - u' * v) (-0 * v) 1
    rw [Int.zero_mul, Int.neg_zero, Int.zero_mul, sg_ff, sq1_0]
  | r a b c s =>
    show sgG (u * (2 * a) - -b * v) (0 * (2 * a)) 1 (-s * v) (b * b - 4 * a * c) = _
    rw [Int.zero_mul, sg_fr hy.pos]
    rfl
/-- between two moments falls the next step, where the steps are fine -/
theorem apart {m k : Nat} {x y : Mo} {N h u v : Int} (hx : x.ok m) (hy : y.ok k) (hN : 0 < N) (h0 : 0 ≤ h) (h1 : h * h ≤ x.e 1 * N * N) (h2 : x.e 1 * N * N < (h + 1) * (h + 1)) (hv : 0 < v) (e : u * N = (floM N h x + 1) * v) (lt : cmpM x y < 0)
    (big : (2 * (((x.q * y.w) * (x.q * y.w) * x.e 1 + (-y.q * x.w) * (-y.q * x.w) * y.e 1 - (x.p * y.w - y.p * x.w) * (x.p * y.w - y.p * x.w)).natAbs : Int) + 1) * ((2 * (x.p * y.w - y.p * x.w).natAbs + 1) * (x.w * y.w)) < N) : cmpM (.f u v) y < 0 := by
  apply Classical.byContradiction
  intro hn
  have wx := Mo.w_pos hx
  have wy := Mo.w_pos hy
  rw [cmp_f hy] at hn
  obtain ⟨K, hK⟩ : ∃ K, K = floM N h x + 1 := ⟨_, rfl⟩
  rw [← hK] at e
  have fl := (flo_iff (k := K - 1) hx hN h0 h1 h2).mp (by omega)
  have hB : ¬ sq1 (K * y.w - y.p * N) (-y.q * N) (y.e 1) < 0 := by
    rw [← sq1_scale (k := v) hv]
    rw [← sq1_scale (k := N) hN] at hn
    have e1 : v * (K * y.w - y.p * N) = N * (u * y.w - y.p * v) := by grind
    have e2 : v * (-y.q * N) = N * (-y.q * v) := by grind
    rw [e1, e2]
    exact hn
  rw [← sq1_scale (k := y.w) wy] at fl
  rw [← sq1_scale (k := x.w) wx] at hB
  have s := sum_ok (Mo.e_pos hx) (Mo.e_pos hy) fl hB
  have e1 : y.w * (x.p * N - (K - 1) * x.w) + x.w * (K * y.w - y.p * N) = N * (x.p * y.w - y.p * x.w) + x.w * y.w := by grind
  have e2 : y.w * (x.q * N) = N * (x.q * y.w) := by grind
  have e3 : x.w * (-y.q * N) = N * (-y.q * x.w) := by grind
  rw [e1, e2, e3] at s
  have := sepG (Mo.e_pos hx) (Mo.e_pos hy) hN (Int.le_of_lt (Int.mul_pos wx wy)) lt s
  omega
end Pv

set_option Elab.async false
set_option linter.all false
set_option maxRecDepth 100000
/-! Mj: the cuts of a moment (the next part of 2 ** j ones), ascending lists. -/
namespace Pv
open PySem
theorem Mo.ok.mono {m k : Nat} {x : Mo} (h : x.ok m) (q : m ≤ k) : x.ok k := by
  cases x with
  | f u v => exact ⟨h.b1, h.g1, h.ba.mono q, h.bb.mono q⟩
  | r a b c s => exact ⟨h.a1, h.s1, h.g1, h.pos, h.nsq, h.ba.mono q, h.bb.mono q, h.bc.mono q⟩
theorem root_uniq {h g X : Int} (h0 : 0 ≤ h) (g0 : 0 ≤ g) (h1 : h * h ≤ X) (h2 : X < (h + 1) * (h + 1)) (g1 : g * g ≤ X) (g2 : X < (g + 1) * (g + 1)) : h = g := by
  have a := fun q => sq_le (x := h + 1) (y := g) (by omega) q
  have b := fun q => sq_le (x := g + 1) (y := h) (by omega) q
  rcases Int.lt_trichotomy h g with q | q | q
  · have := a (by omega); omega
  · exact q
  · have := b (by omega); omega
theorem sqrt_ex : ∀ n : Nat, ∃ h : Nat, h * h ≤ n ∧ n < (h + 1) * (h + 1)
  | 0 => ⟨0, by decide, by decide⟩
  | n + 1 => by
    obtain ⟨h, a, b⟩ := sqrt_ex n
    by_cases q : n + 1 < (h + 1) * (h + 1)
    · exact ⟨h, by omega, q⟩
    · refine ⟨h + 1, by omega, ?_⟩
      have e : (h + 1 + 1) * (h + 1 + 1) = (h + 1) * (h + 1) + 2 * (h + 1) + 1 := by grind
      omega
/-- the root's floor -/
noncomputable def hh (X : Int) : Int := Classical.epsilon fun h : Int => 0 ≤ h ∧ h * h ≤ X ∧ X < (h + 1) * (h + 1)
theorem hh_spec {X : Int} (h : 0 ≤ X) : 0 ≤ hh X ∧ hh X * hh X ≤ X ∧ X < (hh X + 1) * (hh X + 1) := by
  refine Classical.epsilon_spec (p := fun h : Int => 0 ≤ h ∧ h * h ≤ X ∧ X < (h + 1) * (h + 1)) ?_
  obtain ⟨g, g1, g2⟩ := sqrt_ex X.toNat
  refine ⟨g, by omega, ?_, ?_⟩
  · have e : ((g * g : Nat) : Int) ≤ (X.toNat : Int) := by exact_mod_cast g1
    rw [Int.natCast_mul] at e
    omega
  · have e : (X.toNat : Int) < (((g + 1) * (g + 1) : Nat) : Int) := by exact_mod_cast g2
    rw [Int.natCast_mul, Int.natCast_add] at e
    have e2 : (((1 : Nat) : Int)) = 1 := rfl
    rw [e2] at e
    omega
theorem hh_eq {h X : Int} (h0 : 0 ≤ h) (h1 : h * h ≤ X) (h2 : X < (h + 1) * (h + 1)) : hh X = h := by
  have X0 : 0 ≤ X := Int.le_trans (Int.mul_nonneg h0 h0) h1
  obtain ⟨a, b, c⟩ := hh_spec X0
  exact root_uniq a h0 b c h1 h2
/-- the floor of 2 ** j times a moment -/
noncomputable def flo (x : Mo) (j : Nat) : Int := floM (2 ^ j) (hh (x.e 1 * 2 ^ j * 2 ^ j)) x
theorem flo_eq {x : Mo} {j : Nat} {h : Int} (h0 : 0 ≤ h) (h1 : h * h ≤ x.e 1 * 2 ^ j * 2 ^ j) (h2 : x.e 1 * 2 ^ j * 2 ^ j < (h + 1) * (h + 1)) : floM (2 ^ j) h x = flo x j := by
  unfold flo
  rw [hh_eq h0 h1 h2]
/-- a fraction of its one form -/
def Mo.fr (a b : Int) : Mo := .f (a / Int.gcd a b) (b / Int.gcd a b)
theorem Mo.fr_d {a b : Int} : (Mo.fr a b).d = Pv.fr a b := rfl
theorem Mo.fr_ok {m : Nat} {a b : Int} (hb : 0 < b) (ba : Bd m a) (bb : Bd m b) : (Mo.fr a b).ok m ∧ (a / Int.gcd a b) * b = a * (b / Int.gcd a b) := by
  obtain ⟨u, v, e, F, h, _⟩ := fr_ex hb ba bb
  unfold Pv.fr at e
  injection e with e
  injection e with e1 e2
  injection e1 with e1
  injection e2 with e2
  injection e2 with e2
  unfold Mo.fr
  rw [e1, e2]
  exact ⟨F, h⟩
noncomputable def cutM (x : Mo) (j : Nat) : Mo := Mo.fr (flo x j + 1) (2 ^ j)
theorem bdp {n : Nat} : Bd (n + 1) ((2 : Int) ^ n) := by
  unfold Bd
  rw [Int.natAbs_pow]
  exact Nat.pow_lt_pow_right (by decide) (by omega)
theorem pp0 {n : Nat} : (0 : Int) < 2 ^ n := Int.pow_pos (by decide)
theorem hh_bd {k : Nat} {h X : Int} (h0 : 0 ≤ h) (h1 : h * h ≤ X) (b : Bd (2 * k) X) : Bd k h := by
  unfold Bd at b ⊢
  apply Classical.byContradiction
  intro g
  have g1 : (2 : Int) ^ k ≤ h := by
    have e : ((2 ^ k : Nat) : Int) = (2 : Int) ^ k := by simp
    rw [← e]
    omega
  have g2 := sq_le (x := (2 : Int) ^ k) (y := h) (Int.le_of_lt pp0) g1
  have e2 : ((2 ^ (2 * k) : Nat) : Int) = (2 : Int) ^ k * 2 ^ k := by
    rw [← Int.pow_add, Nat.two_mul]
    simp
  have h3 : 0 ≤ h * h := Int.mul_nonneg h0 h0
  generalize (2 : Int) ^ k * 2 ^ k = W at *
  generalize (2 : Nat) ^ (2 * k) = W' at *
  omega
theorem flo_bd {m j : Nat} {x : Mo} (hx : x.ok m) : Bd (m + j + 5) (flo x j) := by
  have e0 := Mo.e_pos hx
  have N0 := pp0 (n := j)
  have bN := bdp (n := j)
  obtain ⟨h0, h1, h2⟩ := hh_spec (X := x.e 1 * 2 ^ j * 2 ^ j) (Int.le_of_lt (Int.mul_pos (Int.mul_pos e0 N0) N0))
  have w0 := Mo.w_pos hx
  unfold flo
  generalize hH : hh (x.e 1 * 2 ^ j * 2 ^ j) = h at *
  cases x with
  | f u v =>
    show Bd _ (u * 2 ^ j / v)
    exact ((hx.ba.mul bN).mono (by omega)).le (Int.natAbs_ediv_le_natAbs _ _)
  | r a b c s =>
    have bh : Bd (m + j + 3) h := by
      refine hh_bd h0 h1 ?_
      exact ((hx.bdisc.mul bN).mul bN).mono (by omega)
    have b1 : Bd (m + j + 1) (-b * 2 ^ j) := (hx.bb.neg.mul bN).mono (by omega)
    show Bd _ ((if 0 < s then -b * 2 ^ j + h else -b * 2 ^ j - h - 1) / (2 * a))
    split
    · exact ((b1.add bh (m := m + j + 4) (by omega) (by omega)).mono (by omega)).le (Int.natAbs_ediv_le_natAbs _ _)
    · exact (((b1.sub bh (m := m + j + 4) (by omega) (by omega)).sub bd1 (m := m + j + 5) (by omega) (by omega))).le (Int.natAbs_ediv_le_natAbs _ _)
theorem cut_ok {m j : Nat} {x : Mo} (hx : x.ok m) : (cutM x j).ok (m + j + 6) :=
  (Mo.fr_ok pp0 ((flo_bd hx).add bd1 (by omega) (by omega)) (bdp.mono (by omega))).1
theorem near_ok {m j : Nat} {x : Mo} {i : Int} (hx : x.ok m) (hi : Bd 1 i) : (Mo.fr (flo x j + i) (2 ^ j)).ok (m + j + 6) :=
  (Mo.fr_ok pp0 ((flo_bd hx).add hi (by omega) (by omega)) (bdp.mono (by omega))).1
theorem cut_end {x y : Mo} (hx : x.ok 24) (hy : y.ok 24) (lt : cmpM x y < 0) : cmpM (cutM x 230) y < 0 := by
  have e0 := Mo.e_pos hx
  have N0 := pp0 (n := 230)
  obtain ⟨h0, h1, h2⟩ := hh_spec (X := x.e 1 * 2 ^ 230 * 2 ^ 230) (Int.le_of_lt (Int.mul_pos (Int.mul_pos e0 N0) N0))
  obtain ⟨ok, e⟩ := Mo.fr_ok (m := 260) N0 ((flo_bd (j := 230) hx).add bd1 (m := 260) (by omega) (by omega)) (bdp.mono (by omega : 230 + 1 ≤ 260))
  have v1 : 1 ≤ (2 : Int) ^ 230 / Int.gcd (flo x 230 + 1) (2 ^ 230) := ok.b1
  refine apart (u := (flo x 230 + 1) / Int.gcd (flo x 230 + 1) (2 ^ 230)) (v := 2 ^ 230 / Int.gcd (flo x 230 + 1) (2 ^ 230)) hx hy N0 h0 h1 h2 (by omega) e lt ?_
  have wx : Bd 26 x.w := by
    cases x with
    | f u v => exact hx.bb.mono (by omega)
    | r a b c s => exact (bd2.mul hx.ba).mono (by omega)
  have wy : Bd 26 y.w := by
    cases y with
    | f u v => exact hy.bb.mono (by omega)
    | r a b c s => exact (bd2.mul hy.ba).mono (by omega)
  have px : Bd 24 x.p := by
    cases x with
    | f u v => exact hx.ba
    | r a b c s => exact hx.bb.neg
  have py : Bd 24 y.p := by
    cases y with
    | f u v => exact hy.ba
    | r a b c s => exact hy.bb.neg
  have qx : Bd 1 x.q := by
    cases x with
    | f u v => exact bd0
    | r a b c s => exact hx.bs
  have qy : Bd 1 y.q := by
    cases y with
    | f u v => exact bd0
    | r a b c s => exact hy.bs
  have ex : Bd 52 (x.e 1) := by
    cases x with
    | f u v => exact bd1.mono (by omega)
    | r a b c s => exact hx.bdisc
  have ey : Bd 52 (y.e 1) := by
    cases y with
    | f u v => exact bd1.mono (by omega)
    | r a b c s => exact hy.bdisc
  have c1 : Bd 51 (x.p * y.w - y.p * x.w) := (px.mul wy).sub (py.mul wx) (by omega) (by omega)
  have a1 := qx.mul wy
  have a2 := qy.neg.mul wx
  have A : Bd 108 ((x.q * y.w) * (x.q * y.w) * x.e 1 + (-y.q * x.w) * (-y.q * x.w) * y.e 1 - (x.p * y.w - y.p * x.w) * (x.p * y.w - y.p * x.w)) :=
    (((a1.mul a1).mul ex).add ((a2.mul a2).mul ey) (m := 107) (by omega) (by omega)).sub (c1.mul c1) (by omega) (by omega)
  have ab : ∀ {k : Nat} {z : Int}, Bd k z → Bd (k + 3) (2 * (z.natAbs : Int) + 1) := fun {k z} h => by
    have h1 : Bd k (z.natAbs : Int) := h.le (by simp)
    exact (bd2.mul h1).add bd1 (by omega) (by omega)
  have B : Bd 217 ((2 * (((x.q * y.w) * (x.q * y.w) * x.e 1 + (-y.q * x.w) * (-y.q * x.w) * y.e 1 - (x.p * y.w - y.p * x.w) * (x.p * y.w - y.p * x.w)).natAbs : Int) + 1) * ((2 * (x.p * y.w - y.p * x.w).natAbs + 1) * (x.w * y.w))) :=
    ((ab A).mul ((ab c1).mul (wx.mul wy))).mono (by omega)
  have B' := B.mono (by omega : 217 ≤ 230)
  unfold Bd at B'
  generalize ((2 * (((x.q * y.w) * (x.q * y.w) * x.e 1 + (-y.q * x.w) * (-y.q * x.w) * y.e 1 - (x.p * y.w - y.p * x.w) * (x.p * y.w - y.p * x.w)).natAbs : Int) + 1) * ((2 * (x.p * y.w - y.p * x.w).natAbs + 1) * (x.w * y.w))) = Z at *
  have e3 : ((2 ^ 230 : Nat) : Int) = (2 : Int) ^ 230 := by simp
  rw [← e3]
  generalize (2 : Nat) ^ 230 = W at *
  omega
/-! ### ascending lists -/
def Asc : List Mo → Prop
  | [] => True
  | [_] => True
  | x :: y :: l => cmpM x y < 0 ∧ Asc (y :: l)
theorem asc_ins {x : Mo} : ∀ (F : List Mo) (r : Nat), Asc F → r ≤ F.length → (∀ z y, r = z + 1 → F[z]? = some y → cmpM y x < 0) → (∀ y, F[r]? = some y → cmpM x y < 0) → Asc (F.take r ++ x :: F.drop r)
  | [], r, _, h, _, _ => by
    have : r = 0 := by simpa using h
    subst this
    exact True.intro
  | a :: l, 0, hF, _, _, h2 => ⟨h2 a rfl, hF⟩
  | [a], 1, _, _, h1, _ => ⟨h1 0 a rfl rfl, True.intro⟩
  | [a], r + 2, _, h, _, _ => by simp at h
  | a :: b :: l, 1, hF, _, h1, h2 => ⟨h1 0 a rfl rfl, h2 b rfl, hF.2⟩
  | a :: b :: l, r + 2, hF, h, h1, h2 => by
    refine ⟨hF.1, ?_⟩
    exact asc_ins (b :: l) (r + 1) hF.2 (by simpa using h) (fun z y hz hy => h1 (z + 1) y (by omega) (by simpa using hy)) (fun y hy => h2 y (by simpa using hy))
/-- both searches end at one place -/
theorem srch (F : List Mo) (x : Mo) : ∀ (g lo hi : Nat), hi - lo ≤ g → lo ≤ hi → hi ≤ F.length → ∃ r, lo ≤ r ∧ r ≤ hi ∧ (∀ z, r = z + 1 → lo ≤ z → ∃ y, F[z]? = some y ∧ cmpM y x < 0) ∧ (r < hi → ∃ y, F[r]? = some y ∧ ¬ cmpM y x < 0) ∧
    ∀ (c : Rho → Sto → Option (D × Sto)) (b : Rho → Sto → Option (Out × Sto)) (R : Nat → Nat → Slot → Rho) (S : Sto), (∀ lo hi t, c (R lo hi t) S = some (.bl (decide (lo < hi)), S)) →
      (∀ lo hi t y, lo < hi → hi ≤ F.length → F[(lo + hi) / 2]? = some y → ∃ t', b (R lo hi t) S = some (.nx (if cmpM y x < 0 then R ((lo + hi) / 2 + 1) hi t' else R lo ((lo + hi) / 2) t'), S)) →
      ∀ n t, g < n → ∃ t', whl c b n (R lo hi t) S = some (.nx (R r r t'), S)
  | g, lo, hi, hg, hl, hF => by
    by_cases h : lo < hi
    · obtain ⟨g', rfl⟩ : ∃ g', g = g' + 1 := ⟨g - 1, by omega⟩
      obtain ⟨y, hy⟩ : ∃ y, F[(lo + hi) / 2]? = some y := ⟨F[(lo + hi) / 2]'(by omega), List.getElem?_eq_getElem (by omega)⟩
      by_cases q : cmpM y x < 0
      · obtain ⟨r, r1, r2, r3, r4, r5⟩ := srch F x g' ((lo + hi) / 2 + 1) hi (by omega) (by omega) hF
        refine ⟨r, by omega, r2, ?_, r4, ?_⟩
        · intro z hz hlz
          by_cases e : (lo + hi) / 2 + 1 ≤ z
          · exact r3 z hz e
          · have : z = (lo + hi) / 2 := by omega
            subst this
            exact ⟨y, hy, q⟩
        · intro c b R S hc hb n t hn
          obtain ⟨n', rfl⟩ : ∃ n', n = n' + 1 := ⟨n - 1, by omega⟩
          obtain ⟨t1, e1⟩ := hb lo hi t y h hF hy
          rw [if_pos q] at e1
          obtain ⟨t2, e2⟩ := r5 c b R S hc hb n' t1 (by omega)
          refine ⟨t2, ?_⟩
          rw [whl, hc, decide_eq_true h]
          show (b _ S).bind _ = _
          rw [e1]
          exact e2
      · obtain ⟨r, r1, r2, r3, r4, r5⟩ := srch F x g' lo ((lo + hi) / 2) (by omega) (by omega) (by omega)
        refine ⟨r, r1, by omega, r3, ?_, ?_⟩
        · intro hr
          by_cases e : r < (lo + hi) / 2
          · exact r4 e
          · have : r = (lo + hi) / 2 := by omega
            subst this
            exact ⟨y, hy, q⟩
        · intro c b R S hc hb n t hn
          obtain ⟨n', rfl⟩ : ∃ n', n = n' + 1 := ⟨n - 1, by omega⟩
          obtain ⟨t1, e1⟩ := hb lo hi t y h hF hy
          rw [if_neg q] at e1
          obtain ⟨t2, e2⟩ := r5 c b R S hc hb n' t1 (by omega)
          refine ⟨t2, ?_⟩
          rw [whl, hc, decide_eq_true h]
          show (b _ S).bind _ = _
          rw [e1]
          exact e2
    · have e : lo = hi := by omega
      subst e
      refine ⟨lo, Nat.le_refl _, Nat.le_refl _, fun z hz hl => by omega, fun h => by omega, ?_⟩
      intro c b R S hc hb n t hn
      obtain ⟨n', rfl⟩ : ∃ n', n = n' + 1 := ⟨n - 1, by omega⟩
      refine ⟨t, ?_⟩
      rw [whl, hc, decide_eq_false h]
      rfl
/-- one turn of a sorting -/
def insM (F : List Mo) (x : Mo) (r : Nat) : List Mo := if F[r]? = some x then F else F.take r ++ x :: F.drop r
/-! ### lists of values -/
theorem atI_get {α : Type} {xs : List α} {i : Nat} {d : α} (h : xs[i]? = some d) : L2.atI xs (i : Int) = some d := by
  have h2 := (List.getElem?_eq_some_iff.mp h).1
  unfold L2.atI L2.ixN
  rw [if_pos (by omega), if_pos (by omega)]
  simpa using h
theorem cut_from {α : Type} {xs : List α} {k : Nat} : cutD xs (some (k : Int)) none = xs.drop k := by
  unfold cutD
  rw [HT.sIx_nat, HT.sIx_none]
  rw [List.take_of_length_le (by rw [List.length_drop]; omega)]
  by_cases h : k ≤ xs.length
  · rw [Nat.min_eq_left h]
  · rw [Nat.min_eq_right (by omega), List.drop_eq_nil_of_le (Nat.le_refl _), List.drop_eq_nil_of_le (by omega)]
theorem cut_1 {α : Type} {xs : List α} {k : Nat} (h : k ≤ xs.length) : cutD xs (some (k : Int)) (some ((k : Int) + 1)) = xs[k]?.toList := by
  unfold cutD
  have e : ((k : Int) + 1) = ((k + 1 : Nat) : Int) := by omega
  rw [e, HT.sIx_nat, HT.sIx_nat]
  rw [Nat.min_eq_left h]
  by_cases q : k < xs.length
  · rw [Nat.min_eq_left (by omega), show k + 1 - k = 1 by omega, List.getElem?_eq_getElem q, List.drop_eq_getElem_cons q]
    rfl
  · have : k = xs.length := by omega
    subst this
    simp
theorem forL_inv {tg : Tg} {f : Rho → Sto → Option (Out × Sto)} (I : Rho → Sto → Prop) : ∀ (ds : List D) (r : Rho) (S : Sto), I r S → (∀ d ∈ ds, ∀ r S, I r S → ∃ r0 r1 S1, asg tg d r = some r0 ∧ f r0 S = some (.nx r1, S1) ∧ I r1 S1) → ∃ r1 S1, forL tg f ds r S = some (.nx r1, S1) ∧ I r1 S1
  | [], r, S, h, _ => ⟨r, S, rfl, h⟩
  | d :: ds, r, S, h, st => by
    obtain ⟨r0, r1, S1, e0, e1, h1⟩ := st d List.mem_cons_self r S h
    obtain ⟨r2, S2, e2, h2⟩ := forL_inv I ds r1 S1 h1 fun d hd => st d (List.mem_cons_of_mem _ hd)
    refine ⟨r2, S2, ?_, h2⟩
    show (asg tg d r).bind _ = _
    rw [e0]
    show (f r0 S).bind _ = _
    rw [e1]
    exact e2
theorem zip_mem : ∀ (xs ys : List Mo) (d : D), d ∈ zipL (xs.map Mo.d) (ys.map Mo.d) → ∃ x ∈ xs, ∃ y ∈ ys, d = .tup [x.d, y.d]
  | [], _, d, h => by cases h
  | x :: xs, [], d, h => by cases h
  | x :: xs, y :: ys, d, h => by
    have h' : d ∈ D.tup [x.d, y.d] :: zipL (xs.map Mo.d) (ys.map Mo.d) := h
    rcases List.mem_cons.mp h' with rfl | h'
    · exact ⟨x, List.mem_cons_self, y, List.mem_cons_self, rfl⟩
    · obtain ⟨a, ha, b, hb, e⟩ := zip_mem xs ys d h'
      exact ⟨a, List.mem_cons_of_mem _ ha, b, List.mem_cons_of_mem _ hb, e⟩
theorem zip_asc : ∀ (G : List Mo), Asc G → ∀ d, d ∈ zipL (G.map Mo.d) ((G.drop 1).map Mo.d) → ∃ x ∈ G, ∃ y ∈ G, d = .tup [x.d, y.d] ∧ cmpM x y < 0
  | [], _, d, h => by cases h
  | [x], _, d, h => by cases h
  | x :: y :: l, hA, d, h => by
    have h' : d ∈ D.tup [x.d, y.d] :: zipL ((y :: l).map Mo.d) (((y :: l).drop 1).map Mo.d) := h
    rcases List.mem_cons.mp h' with rfl | h'
    · exact ⟨x, List.mem_cons_self, y, List.mem_cons_of_mem _ List.mem_cons_self, rfl, hA.1⟩
    · obtain ⟨a, ha, b, hb, e⟩ := zip_asc (y :: l) hA.2 d h'
      exact ⟨a, List.mem_cons_of_mem _ ha, b, List.mem_cons_of_mem _ hb, e⟩
theorem ne_1 {x y : Mo} : cmpD .NotEq (.lst [y.d]) (.lst [x.d]) = some (!decide (y = x)) := by
  cases x <;> cases y
  · show some (!eqD _ _) = _
    simp [Mo.d, eqD, eqDs]
  · show some (!eqD _ _) = _
    simp [Mo.d, eqD, eqDs]
  · show some (!eqD _ _) = _
    simp [Mo.d, eqD, eqDs]
  · show some (!eqD _ _) = _
    simp [Mo.d, eqD, eqDs]
theorem ne_0 {x : Mo} : cmpD .NotEq (.lst []) (.lst [x.d]) = some true := by
  cases x <;> rfl
theorem mom_mo {m : Nat} {M : D} (h : Mom m M) : ∃ x : Mo, x.d = M ∧ x.ok m := by
  rcases h with ⟨a, b, rfl, F⟩ | ⟨a, b, c, s, rfl, R⟩
  · exact ⟨.f a b, rfl, F⟩
  · exact ⟨.r a b c s, rfl, R⟩
end Pv

set_option Elab.async false
set_option linter.all false
set_option maxRecDepth 100000
/-! Mk: the order of moments is linear. -/
namespace Pv
open PySem
/-- the sign leans on c, a|a|d and b|b|e alone -/
theorem sgG_val {c a d b e a' d' b' e' : Int} (hd : 0 < d) (he : 0 < e) (hd' : 0 < d') (he' : 0 < e') (h1 : a * a.natAbs * d = a' * a'.natAbs * d') (h2 : b * b.natAbs * e = b' * b'.natAbs * e') : sgG c a d b e = sgG c a' d' b' e' := by
  have hr : rts a d b e = rts a' d' b' e' := by
    unfold rts
    rw [h1, h2]
  have sq : ∀ {x D y E : Int}, 0 < D → 0 < E → x * x.natAbs * D = y * y.natAbs * E → x * x * D = y * y * E := fun {x D y E} hD hE h => by
    have h1 := congrArg Int.natAbs h
    rw [Int.natAbs_mul, Int.natAbs_mul, Int.natAbs_mul, Int.natAbs_mul, Int.natAbs_natCast, Int.natAbs_natCast] at h1
    have h2 : ((x.natAbs * x.natAbs * D.natAbs : Nat) : Int) = ((y.natAbs * y.natAbs * E.natAbs : Nat) : Int) := by rw [h1]
    rw [Int.natCast_mul, Int.natCast_mul, Int.natCast_mul, Int.natCast_mul, abs_sq, abs_sq, Int.natAbs_of_nonneg (Int.le_of_lt hD), Int.natAbs_of_nonneg (Int.le_of_lt hE)] at h2
    exact h2
  have hq : sq1 (a * a * d + b * b * e - c * c) (2 * a * b) (d * e) = sq1 (a' * a' * d' + b' * b' * e' - c * c) (2 * a' * b') (d' * e') := by
    rw [sq hd hd' h1, sq he he' h2]
    unfold sq1
    congr 2
    have ab : ∀ x y D E : Int, 2 * x * y * ((2 * x * y).natAbs : Int) * (D * E) = 4 * (x * x.natAbs * D) * (y * y.natAbs * E) := fun x y D E => by
      rw [Int.natAbs_mul, Int.natAbs_mul, Int.natCast_mul, Int.natCast_mul]
      have : (((2 : Int).natAbs : Nat) : Int) = 2 := rfl
      rw [this]
      grind
    rw [ab, ab, h1, h2]
  unfold sgG
  rw [hr, hq]
theorem sgG_scale {k c a d b e : Int} (hk : 0 < k) : sgG (k * c) (k * a) d (k * b) e = sgG c a d b e := by
  have hr := rts_mul (N := k) (a := a) (d := d) (b := b) (e := e) hk
  have kk : 0 < k * k := Int.mul_pos hk hk
  have hq : sq1 (k * a * (k * a) * d + k * b * (k * b) * e - k * c * (k * c)) (2 * (k * a) * (k * b)) (d * e) = sq1 (a * a * d + b * b * e - c * c) (2 * a * b) (d * e) := by
    rw [← sq1_scale (k := k * k) (c := a * a * d + b * b * e - c * c) (a := 2 * a * b) (d := d * e) kk]
    have e1 : k * a * (k * a) * d + k * b * (k * b) * e - k * c * (k * c) = k * k * (a * a * d + b * b * e - c * c) := by grind
    have e2 : 2 * (k * a) * (k * b) = k * k * (2 * a * b) := by grind
    rw [e1, e2]
  have hs : (k * c).sign = c.sign := by rw [Int.sign_mul, Int.sign_eq_one_of_pos hk, Int.one_mul]
  have hz : k * c = 0 ↔ c = 0 := by
    constructor
    · intro h
      rcases Int.mul_eq_zero.mp h with h | h
      · omega
      · exact h
    · rintro rfl
      exact Int.mul_zero k
  unfold sgG
  rw [hr, hq, hs]
  by_cases h : c = 0
  · rw [if_pos h, if_pos (hz.mpr h)]
  · rw [if_neg h, if_neg (fun g => h (hz.mp g))]
/-- a fraction below a moment -/
def Lo (x : Mo) (u v : Int) : Prop := sq1 (u * x.w - x.p * v) (-x.q * v) (x.e 1) < 0
theorem lo_iff {m : Nat} {x : Mo} {u v : Int} (hx : x.ok m) : cmpM (.f u v) x < 0 ↔ Lo x u v := by
  unfold Lo
  rw [cmp_f hx]
theorem mono_sq {c c' : Int} (h : c ≤ c') : c * c.natAbs ≤ c' * c'.natAbs := by
  apply Classical.byContradiction
  intro g
  have := f_neg (A := c - 1 - c') (B := 0)
  by_cases q : 0 ≤ c
  · rw [f_pos q, f_pos (by omega)] at g
    have := sq_le q h
    omega
  · by_cases q' : 0 ≤ c'
    · rw [f_np (by omega), f_pos q'] at g
      have := sq_nonneg c
      have := sq_nonneg c'
      omega
    · rw [f_np (by omega), f_np (by omega)] at g
      have := sq_le (x := -c') (y := -c) (by omega) (by omega)
      rw [Int.neg_mul_neg, Int.neg_mul_neg] at this
      omega
theorem lo_down {m : Nat} {x : Mo} {u v u' v' : Int} (hx : x.ok m) (hv : 0 < v) (hv' : 0 < v') (h : u * v' ≤ u' * v) (g : Lo x u' v') : Lo x u v := by
  unfold Lo at *
  rw [← sq1_scale (k := v) hv] at g
  rw [← sq1_scale (k := v') hv']
  have w0 := Mo.w_pos hx
  have e1 : v * (-x.q * v') = v' * (-x.q * v) := by grind
  rw [e1] at g
  apply Classical.byContradiction
  intro n
  rw [nn] at n
  have m1 : v' * (u * x.w - x.p * v) ≤ v * (u' * x.w - x.p * v') := by
    have := Int.mul_le_mul_of_nonneg_right h (Int.le_of_lt w0)
    have a1 : v' * (u * x.w - x.p * v) = u * v' * x.w - x.p * v * v' := by grind
    have a2 : v * (u' * x.w - x.p * v') = u' * v * x.w - x.p * v * v' := by grind
    omega
  have m2 := mono_sq m1
  have : ¬ sq1 (v * (u' * x.w - x.p * v')) (v' * (-x.q * v)) (x.e 1) < 0 := by
    rw [nn]
    omega
  exact this g
/-- not above a fraction, the fraction below the other: so below -/
theorem lt_of_lo {m k : Nat} {x y : Mo} {u v : Int} (hx : x.ok m) (hy : y.ok k) (hv : 0 < v) (h1 : ¬ Lo x u v) (h2 : Lo y u v) : cmpM x y < 0 := by
  have wx := Mo.w_pos hx
  have wy := Mo.w_pos hy
  have ne : cmpM x y ≠ 0 := fun h => by
    have e := cmp_zero hx hy h
    subst e
    exact h1 h2
  have le : ¬ cmpM y x < 0 := by
    unfold Lo at h1 h2
    have b1 : ¬ sq1 (y.p * v - u * y.w) (y.q * v) (y.e 1) < 0 := by
      intro h
      rw [sq1_lt] at h
      have e1 : -(y.p * v - u * y.w) = u * y.w - y.p * v := by omega
      have e2 : -(y.q * v) = -y.q * v := by rw [Int.neg_mul]
      rw [e1, e2] at h
      omega
    rw [← sq1_scale (k := x.w) wx] at b1
    rw [← sq1_scale (k := y.w) wy] at h1
    have s := sum_ok (Mo.e_pos hy) (Mo.e_pos hx) b1 h1
    have e1 : x.w * (y.p * v - u * y.w) + y.w * (u * x.w - x.p * v) = v * (y.p * x.w - x.p * y.w) := by grind
    have e2 : x.w * (y.q * v) = v * (y.q * x.w) := by grind
    have e3 : y.w * (-x.q * v) = v * (-x.q * y.w) := by grind
    rw [e1, e2, e3, sgG_scale hv] at s
    exact s
  rw [cmpM_neg] at le
  omega
theorem cut_gt {m j : Nat} {x : Mo} (hx : x.ok m) : ¬ Lo x (flo x j + 1) (2 ^ j) := by
  have e0 := Mo.e_pos hx
  have N0 := pp0 (n := j)
  obtain ⟨h0, h1, h2⟩ := hh_spec (X := x.e 1 * 2 ^ j * 2 ^ j) (Int.le_of_lt (Int.mul_pos (Int.mul_pos e0 N0) N0))
  have f := flo_iff (k := flo x j + 1) hx N0 h0 h1 h2
  have n1 : sq1 (x.p * 2 ^ j - (flo x j + 1) * x.w) (x.q * 2 ^ j) (x.e 1) < 0 := by
    apply Classical.byContradiction
    intro g
    have := f.mpr g
    unfold flo at this
    omega
  unfold Lo
  intro g
  rw [sq1_lt] at n1
  have e1 : -(x.p * 2 ^ j - (flo x j + 1) * x.w) = (flo x j + 1) * x.w - x.p * 2 ^ j := by omega
  have e2 : -(x.q * 2 ^ j) = -x.q * 2 ^ j := by rw [Int.neg_mul]
  rw [e1, e2] at n1
  omega
theorem lo_fr {m : Nat} {x : Mo} {u v u' v' : Int} (hx : x.ok m) (hv : 0 < v) (hv' : 0 < v') (e : u * v' = u' * v) : Lo x u v ↔ Lo x u' v' :=
  ⟨lo_down hx hv' hv (by omega), lo_down hx hv hv' (by omega)⟩
theorem apart_lo {m k : Nat} {x y : Mo} (hx : x.ok m) (hy : y.ok k) (lt : cmpM x y < 0) {j : Nat}
    (big : (2 * (((x.q * y.w) * (x.q * y.w) * x.e 1 + (-y.q * x.w) * (-y.q * x.w) * y.e 1 - (x.p * y.w - y.p * x.w) * (x.p * y.w - y.p * x.w)).natAbs : Int) + 1) * ((2 * (x.p * y.w - y.p * x.w).natAbs + 1) * (x.w * y.w)) < 2 ^ j) : Lo y (flo x j + 1) (2 ^ j) := by
  have e0 := Mo.e_pos hx
  have N0 := pp0 (n := j)
  obtain ⟨h0, h1, h2⟩ := hh_spec (X := x.e 1 * 2 ^ j * 2 ^ j) (Int.le_of_lt (Int.mul_pos (Int.mul_pos e0 N0) N0))
  exact (lo_iff hy).mp (apart hx hy N0 h0 h1 h2 N0 rfl lt big)
theorem lt_pow (Z : Int) : ∃ j : Nat, Z < 2 ^ j := by
  refine ⟨Z.toNat, ?_⟩
  have h : Z.toNat < 2 ^ Z.toNat := Nat.lt_two_pow_self
  have e : ((2 ^ Z.toNat : Nat) : Int) = (2 : Int) ^ Z.toNat := by simp
  rw [← e]
  omega
/-- below: a fraction lies between -/
theorem lo_ex {m k : Nat} {x y : Mo} (hx : x.ok m) (hy : y.ok k) (lt : cmpM x y < 0) : ∃ u v : Int, 0 < v ∧ ¬ Lo x u v ∧ Lo y u v := by
  obtain ⟨j, hj⟩ := lt_pow ((2 * (((x.q * y.w) * (x.q * y.w) * x.e 1 + (-y.q * x.w) * (-y.q * x.w) * y.e 1 - (x.p * y.w - y.p * x.w) * (x.p * y.w - y.p * x.w)).natAbs : Int) + 1) * ((2 * (x.p * y.w - y.p * x.w).natAbs + 1) * (x.w * y.w)))
  exact ⟨flo x j + 1, 2 ^ j, pp0, cut_gt hx, apart_lo hx hy lt hj⟩
theorem cmp_trans {m k l : Nat} {x y z : Mo} (hx : x.ok m) (hy : y.ok k) (hz : z.ok l) (h1 : cmpM x y < 0) (h2 : cmpM y z < 0) : cmpM x z < 0 := by
  obtain ⟨u, v, v0, a1, a2⟩ := lo_ex hx hy h1
  obtain ⟨u', v', v0', b1, b2⟩ := lo_ex hy hz h2
  refine lt_of_lo hx hz v0 a1 (lo_down hz v0 v0' ?_ b2)
  apply Classical.byContradiction
  intro g
  exact b1 (lo_down hy v0' v0 (by omega) a2)
end Pv

set_option Elab.async false
set_option linter.all false
set_option maxRecDepth 100000
/-! Ml: stretches over a linear order of cuts, plain. -/
namespace Pv
structure LinO {α : Type} (lt : α → α → Prop) : Prop where
  ir : ∀ a, ¬ lt a a
  tr : ∀ {a b c}, lt a b → lt b c → lt a c
  tot : ∀ a b, lt a b ∨ a = b ∨ lt b a
section
variable {α : Type} {lt : α → α → Prop}
def InS (lt : α → α → Prop) (s : α × α) (c : α) : Prop := ¬ lt c s.1 ∧ lt c s.2
def MemS (lt : α → α → Prop) (L : List (α × α)) (c : α) : Prop := ∃ s ∈ L, InS lt s c
def Can (lt : α → α → Prop) (L : List (α × α)) : Prop := (∀ s ∈ L, lt s.1 s.2) ∧ L.Pairwise (fun s t => lt s.2 t.1)
def EndS (L : List (α × α)) (c : α) : Prop := ∃ s ∈ L, c = s.1 ∨ c = s.2
theorem LinO.as (O : LinO lt) {a b : α} (h : lt a b) : ¬ lt b a := fun g => O.ir a (O.tr h g)
theorem LinO.lt_le (O : LinO lt) {a b c : α} (h : lt a b) (g : ¬ lt c b) : lt a c := by
  rcases O.tot b c with q | q | q
  · exact O.tr h q
  · exact q ▸ h
  · exact absurd q g
theorem LinO.le_lt (O : LinO lt) {a b c : α} (g : ¬ lt b a) (h : lt b c) : lt a c := by
  rcases O.tot a b with q | q | q
  · exact O.tr q h
  · exact q ▸ h
  · exact absurd q g
theorem LinO.le_le (O : LinO lt) {a b c : α} (g : ¬ lt b a) (h : ¬ lt c b) : ¬ lt c a := fun q => h (O.lt_le q g)
theorem memS_cons {s : α × α} {l : List (α × α)} {c : α} : MemS lt (s :: l) c ↔ InS lt s c ∨ MemS lt l c := by
  unfold MemS
  constructor
  · rintro ⟨t, ht, h⟩
    rcases List.mem_cons.mp ht with rfl | ht
    · exact .inl h
    · exact .inr ⟨t, ht, h⟩
  · rintro (h | ⟨t, ht, h⟩)
    · exact ⟨s, List.mem_cons_self, h⟩
    · exact ⟨t, List.mem_cons_of_mem _ ht, h⟩
theorem memS_app {a b : List (α × α)} {c : α} : MemS lt (a ++ b) c ↔ MemS lt a c ∨ MemS lt b c := by
  unfold MemS
  constructor
  · rintro ⟨t, ht, h⟩
    rcases List.mem_append.mp ht with q | q
    · exact .inl ⟨t, q, h⟩
    · exact .inr ⟨t, q, h⟩
  · rintro (⟨t, q, h⟩ | ⟨t, q, h⟩)
    · exact ⟨t, List.mem_append.mpr (.inl q), h⟩
    · exact ⟨t, List.mem_append.mpr (.inr q), h⟩
theorem memS_nil {c : α} : ¬ MemS lt [] c := fun ⟨t, h, _⟩ => by cases h
theorem can_cons {s : α × α} {l : List (α × α)} (h : Can lt (s :: l)) : lt s.1 s.2 ∧ (∀ t ∈ l, lt s.2 t.1) ∧ Can lt l := by
  obtain ⟨h1, h2⟩ := h
  rw [List.pairwise_cons] at h2
  exact ⟨h1 s List.mem_cons_self, h2.1, fun t ht => h1 t (List.mem_cons_of_mem _ ht), h2.2⟩
theorem can_beh (O : LinO lt) {s : α × α} {l : List (α × α)} {c : α} (h : Can lt (s :: l)) (hc : EndS l c) : lt s.2 c := by
  obtain ⟨_, h2, h3⟩ := can_cons h
  obtain ⟨t, ht, rfl | rfl⟩ := hc
  · exact h2 t ht
  · exact O.tr (h2 t ht) (h3.1 t ht)
/-- a set has one form -/
theorem can_uniq (O : LinO lt) : ∀ (L L' : List (α × α)), Can lt L → Can lt L' → (∀ c, EndS L c ∨ EndS L' c → (MemS lt L c ↔ MemS lt L' c)) → L = L'
  | [], [], _, _, _ => rfl
  | [], s :: l, _, h, e => by
    have := (e s.1 (.inr ⟨s, List.mem_cons_self, .inl rfl⟩)).mpr (memS_cons.mpr (.inl ⟨O.ir _, (can_cons h).1⟩))
    exact absurd this memS_nil
  | s :: l, [], h, _, e => by
    have := (e s.1 (.inl ⟨s, List.mem_cons_self, .inl rfl⟩)).mp (memS_cons.mpr (.inl ⟨O.ir _, (can_cons h).1⟩))
    exact absurd this memS_nil
  | s :: l, s' :: l', h, h', e => by
    obtain ⟨a1, a2, a3⟩ := can_cons h
    obtain ⟨b1, b2, b3⟩ := can_cons h'
    have ge : ∀ {s : α × α} {l : List (α × α)}, Can lt (s :: l) → ∀ c, MemS lt (s :: l) c → ¬ lt c s.1 := fun {s l} h c m g => by
      obtain ⟨x1, x2, x3⟩ := can_cons h
      rcases memS_cons.mp m with q | ⟨t, ht, q⟩
      · exact q.1 g
      · exact q.1 (O.tr g (O.tr x1 (x2 t ht)))
    have e1 : s.1 = s'.1 := by
      rcases O.tot s.1 s'.1 with q | q | q
      · exact absurd q (ge h' _ ((e s.1 (.inl ⟨s, List.mem_cons_self, .inl rfl⟩)).mp (memS_cons.mpr (.inl ⟨O.ir _, a1⟩))))
      · exact q
      · exact absurd q (ge h _ ((e s'.1 (.inr ⟨s', List.mem_cons_self, .inl rfl⟩)).mpr (memS_cons.mpr (.inl ⟨O.ir _, b1⟩))))
    have nm : ∀ {s : α × α} {l : List (α × α)}, Can lt (s :: l) → ¬ MemS lt (s :: l) s.2 := fun {s l} h m => by
      obtain ⟨x1, x2, x3⟩ := can_cons h
      rcases memS_cons.mp m with q | ⟨t, ht, q⟩
      · exact O.ir _ q.2
      · exact q.1 (x2 t ht)
    have e2 : s.2 = s'.2 := by
      rcases O.tot s.2 s'.2 with q | q | q
      · exact absurd ((e s.2 (.inl ⟨s, List.mem_cons_self, .inr rfl⟩)).mpr (memS_cons.mpr (.inl ⟨fun z => O.as a1 (by rw [e1]; exact z), q⟩))) (nm h)
      · exact q
      · exact absurd ((e s'.2 (.inr ⟨s', List.mem_cons_self, .inr rfl⟩)).mp (memS_cons.mpr (.inl ⟨fun z => O.as b1 (by rw [← e1]; exact z), q⟩))) (nm h')
    have es : s = s' := Prod.ext e1 e2
    subst es
    congr 1
    refine can_uniq O l l' a3 b3 fun c hc => ?_
    have hs : lt s.2 c := by
      rcases hc with q | q
      · exact can_beh O h q
      · exact can_beh O h' q
    have hn : ¬ InS lt s c := fun z => O.as hs z.2
    have ec := e c (by
      rcases hc with ⟨t, ht, q⟩ | ⟨t, ht, q⟩
      · exact .inl ⟨t, List.mem_cons_of_mem _ ht, q⟩
      · exact .inr ⟨t, List.mem_cons_of_mem _ ht, q⟩)
    rw [memS_cons, memS_cons] at ec
    exact ⟨fun m => (ec.mp (.inr m)).resolve_left hn, fun m => (ec.mpr (.inr m)).resolve_left hn⟩
variable [DecidableRel lt]
variable (lt) in
def mx (a b : α) : α := if lt a b then b else a
variable (lt) in
def mn (a b : α) : α := if lt b a then b else a
variable (lt) in
def mk1 (a b : α) : List (α × α) := if lt a b then [(a, b)] else []
theorem le_mx (O : LinO lt) {a b c : α} : ¬ lt c (mx lt a b) ↔ ¬ lt c a ∧ ¬ lt c b := by
  unfold mx
  split
  · rename_i h
    exact ⟨fun g => ⟨fun q => g (O.tr q h), g⟩, fun g => g.2⟩
  · rename_i h
    exact ⟨fun g => ⟨g, fun q => g (O.lt_le q h)⟩, fun g => g.1⟩
theorem lt_mx (O : LinO lt) {a b c : α} : lt c (mx lt a b) ↔ lt c a ∨ lt c b := by
  have := le_mx O (a := a) (b := b) (c := c)
  by_cases h : lt c (mx lt a b) <;> by_cases h1 : lt c a <;> by_cases h2 : lt c b <;> simp_all
theorem lt_mn (O : LinO lt) {a b c : α} : lt c (mn lt a b) ↔ lt c a ∧ lt c b := by
  unfold mn
  split
  · rename_i h
    exact ⟨fun g => ⟨O.tr g h, g⟩, fun g => g.2⟩
  · rename_i h
    exact ⟨fun g => ⟨g, O.lt_le g h⟩, fun g => g.1⟩
theorem mn_le (O : LinO lt) {a b : α} : ¬ lt a (mn lt a b) ∧ ¬ lt b (mn lt a b) := ⟨fun h => O.ir _ ((lt_mn O).mp h).1, fun h => O.ir _ ((lt_mn O).mp h).2⟩
theorem mx_ge (O : LinO lt) {a b : α} : ¬ lt (mx lt a b) a ∧ ¬ lt (mx lt a b) b := ⟨fun h => O.ir _ ((lt_mx O).mpr (.inl h)), fun h => O.ir _ ((lt_mx O).mpr (.inr h))⟩
theorem mem_mk1 {a b : α} {s : α × α} : s ∈ mk1 lt a b ↔ s = (a, b) ∧ lt a b := by
  unfold mk1
  split <;> simp_all
theorem memS_mk1 (O : LinO lt) {a b c : α} : MemS lt (mk1 lt a b) c ↔ ¬ lt c a ∧ lt c b := by
  unfold MemS
  constructor
  · rintro ⟨s, hs, h⟩
    obtain ⟨rfl, _⟩ := mem_mk1.mp hs
    exact h
  · intro h
    exact ⟨(a, b), mem_mk1.mpr ⟨rfl, O.le_lt h.1 h.2⟩, h⟩
/-! in both -/
variable (lt) in
def bothL (one other : List (α × α)) : List (α × α) := one.flatMap fun h => other.flatMap fun t => mk1 lt (mx lt h.1 t.1) (mn lt h.2 t.2)
theorem mem_both {one other : List (α × α)} {s : α × α} : s ∈ bothL lt one other ↔ ∃ h ∈ one, ∃ t ∈ other, s = (mx lt h.1 t.1, mn lt h.2 t.2) ∧ lt (mx lt h.1 t.1) (mn lt h.2 t.2) := by
  unfold bothL
  simp only [List.mem_flatMap, mem_mk1]
theorem both_mem (O : LinO lt) {one other : List (α × α)} {c : α} : MemS lt (bothL lt one other) c ↔ MemS lt one c ∧ MemS lt other c := by
  constructor
  · rintro ⟨s, hs, h⟩
    obtain ⟨a, ha, b, hb, rfl, _⟩ := mem_both.mp hs
    have h1 := (le_mx O).mp h.1
    have h2 := (lt_mn O).mp h.2
    exact ⟨⟨a, ha, h1.1, h2.1⟩, ⟨b, hb, h1.2, h2.2⟩⟩
  · rintro ⟨⟨a, ha, h1⟩, ⟨b, hb, h2⟩⟩
    have g1 := (le_mx O).mpr ⟨h1.1, h2.1⟩
    have g2 := (lt_mn O).mpr ⟨h1.2, h2.2⟩
    exact ⟨_, mem_both.mpr ⟨a, ha, b, hb, rfl, O.le_lt g1 g2⟩, g1, g2⟩
theorem both_can (O : LinO lt) {one other : List (α × α)} (h1 : Can lt one) (h2 : Can lt other) : Can lt (bothL lt one other) := by
  refine ⟨fun s hs => ?_, ?_⟩
  · obtain ⟨a, ha, b, hb, rfl, h⟩ := mem_both.mp hs
    exact h
  · unfold bothL
    rw [List.pairwise_flatMap]
    refine ⟨fun a ha => ?_, h1.2.imp fun {a b} hab s hs t ht => ?_⟩
    · rw [List.pairwise_flatMap]
      refine ⟨fun b hb => ?_, h2.2.imp fun {b b'} hab s hs t ht => ?_⟩
      · unfold mk1
        split <;> simp
      · obtain ⟨rfl, _⟩ := mem_mk1.mp hs
        obtain ⟨rfl, _⟩ := mem_mk1.mp ht
        exact O.le_lt (mn_le O).2 (O.lt_le hab (mx_ge O).2)
    · obtain ⟨x, hx, hs⟩ := List.mem_flatMap.mp hs
      obtain ⟨y, hy, ht⟩ := List.mem_flatMap.mp ht
      obtain ⟨rfl, _⟩ := mem_mk1.mp hs
      obtain ⟨rfl, _⟩ := mem_mk1.mp ht
      exact O.le_lt (mn_le O).1 (O.lt_le hab (mx_ge O).1)
theorem mx_or (a b : α) : mx lt a b = a ∨ mx lt a b = b := by
  unfold mx
  split
  · exact .inr rfl
  · exact .inl rfl
theorem mn_or (a b : α) : mn lt a b = a ∨ mn lt a b = b := by
  unfold mn
  split
  · exact .inr rfl
  · exact .inl rfl
theorem both_end {one other : List (α × α)} {c : α} (h : EndS (bothL lt one other) c) : EndS one c ∨ EndS other c := by
  obtain ⟨s, hs, h⟩ := h
  obtain ⟨a, ha, b, hb, rfl, _⟩ := mem_both.mp hs
  rcases h with rfl | rfl
  · rcases mx_or (lt := lt) a.1 b.1 with q | q
    · exact .inl ⟨a, ha, .inl q⟩
    · exact .inr ⟨b, hb, .inl q⟩
  · rcases mn_or (lt := lt) a.2 b.2 with q | q
    · exact .inl ⟨a, ha, .inr q⟩
    · exact .inr ⟨b, hb, .inr q⟩
/-! in the first alone -/
variable (lt) in
def lessP (low hi : α) : List (α × α) → List (α × α)
  | [] => mk1 lt low hi
  | t :: ts => mk1 lt low (mn lt hi t.1) ++ lessP (mx lt low t.2) hi ts
variable (lt) in
def lessL (one other : List (α × α)) : List (α × α) := one.flatMap fun h => lessP lt h.1 h.2 other
theorem lessP_in (O : LinO lt) {hi : α} : ∀ (ts : List (α × α)) (low : α), ∀ s ∈ lessP lt low hi ts, ¬ lt s.1 low ∧ ¬ lt hi s.2 ∧ lt s.1 s.2
  | [], low, s, hs => by
    obtain ⟨rfl, h⟩ := mem_mk1.mp hs
    exact ⟨O.ir _, O.ir _, h⟩
  | t :: ts, low, s, hs => by
    rcases List.mem_append.mp (show s ∈ mk1 lt low (mn lt hi t.1) ++ lessP lt (mx lt low t.2) hi ts from hs) with hs | hs
    · obtain ⟨rfl, h⟩ := mem_mk1.mp hs
      exact ⟨O.ir _, (mn_le O).1, h⟩
    · obtain ⟨h1, h2, h3⟩ := lessP_in O ts _ s hs
      exact ⟨((le_mx O).mp h1).1, h2, h3⟩
theorem lessP_can (O : LinO lt) {hi : α} : ∀ (ts : List (α × α)) (low : α), Can lt ts → (lessP lt low hi ts).Pairwise (fun s t => lt s.2 t.1)
  | [], low, _ => by
    show (mk1 lt low hi).Pairwise _
    unfold mk1
    split <;> simp
  | t :: ts, low, h => by
    obtain ⟨a1, a2, a3⟩ := can_cons h
    show (mk1 lt low (mn lt hi t.1) ++ lessP lt (mx lt low t.2) hi ts).Pairwise _
    rw [List.pairwise_append]
    refine ⟨?_, lessP_can O ts _ a3, fun s hs u hu => ?_⟩
    · unfold mk1
      split <;> simp
    · obtain ⟨rfl, _⟩ := mem_mk1.mp hs
      have g := (lessP_in O ts _ u hu).1
      exact O.le_lt (mn_le O).2 (O.lt_le a1 ((le_mx O).mp g).2)
theorem lessP_mem (O : LinO lt) {hi c : α} : ∀ (ts : List (α × α)) (low : α), Can lt ts → (MemS lt (lessP lt low hi ts) c ↔ (¬ lt c low ∧ lt c hi) ∧ ¬ MemS lt ts c)
  | [], low, _ => by
    show MemS lt (mk1 lt low hi) c ↔ _
    rw [memS_mk1 O]
    exact ⟨fun h => ⟨h, memS_nil⟩, fun h => h.1⟩
  | t :: ts, low, h => by
    obtain ⟨a1, a2, a3⟩ := can_cons h
    show MemS lt (mk1 lt low (mn lt hi t.1) ++ lessP lt (mx lt low t.2) hi ts) c ↔ _
    rw [memS_app, memS_mk1 O, lessP_mem O ts _ a3, lt_mn O, le_mx O, memS_cons]
    constructor
    · rintro (⟨h1, h2, h3⟩ | ⟨⟨⟨h1, h2⟩, h3⟩, h4⟩)
      · refine ⟨⟨h1, h2⟩, ?_⟩
        rintro (q | ⟨u, hu, q⟩)
        · exact q.1 h3
        · exact q.1 (O.tr h3 (O.tr a1 (a2 u hu)))
      · refine ⟨⟨h1, h3⟩, ?_⟩
        rintro (q | q)
        · exact h2 q.2
        · exact h4 q
    · rintro ⟨⟨h1, h2⟩, h3⟩
      by_cases q : lt c t.1
      · exact .inl ⟨h1, h2, q⟩
      · exact .inr ⟨⟨⟨h1, fun g => h3 (.inl ⟨q, g⟩)⟩, h2⟩, fun g => h3 (.inr g)⟩
theorem less_mem (O : LinO lt) {one other : List (α × α)} (h : Can lt other) {c : α} : MemS lt (lessL lt one other) c ↔ MemS lt one c ∧ ¬ MemS lt other c := by
  unfold lessL
  constructor
  · rintro ⟨s, hs, hc⟩
    obtain ⟨a, ha, hs⟩ := List.mem_flatMap.mp hs
    have := (lessP_mem O other a.1 h).mp ⟨s, hs, hc⟩
    exact ⟨⟨a, ha, this.1⟩, this.2⟩
  · rintro ⟨⟨a, ha, h1⟩, h2⟩
    obtain ⟨s, hs, hc⟩ := (lessP_mem O other a.1 h).mpr ⟨h1, h2⟩
    exact ⟨s, List.mem_flatMap.mpr ⟨a, ha, hs⟩, hc⟩
theorem less_can (O : LinO lt) {one other : List (α × α)} (h1 : Can lt one) (h2 : Can lt other) : Can lt (lessL lt one other) := by
  refine ⟨fun s hs => ?_, ?_⟩
  · obtain ⟨a, ha, hs⟩ := List.mem_flatMap.mp hs
    exact (lessP_in O other a.1 s hs).2.2
  · unfold lessL
    rw [List.pairwise_flatMap]
    refine ⟨fun a ha => lessP_can O other a.1 h2, h1.2.imp fun {a b} hab s hs t ht => ?_⟩
    exact O.le_lt (lessP_in O other a.1 s hs).2.1 (O.lt_le hab (lessP_in O other b.1 t ht).1)
theorem lessP_end {hi : α} : ∀ (ts : List (α × α)) (low c : α), EndS (lessP lt low hi ts) c → c = low ∨ c = hi ∨ EndS ts c
  | [], low, c, ⟨s, hs, h⟩ => by
    obtain ⟨rfl, _⟩ := mem_mk1.mp hs
    rcases h with rfl | rfl
    · exact .inl rfl
    · exact .inr (.inl rfl)
  | t :: ts, low, c, ⟨s, hs, h⟩ => by
    rcases List.mem_append.mp (show s ∈ mk1 lt low (mn lt hi t.1) ++ lessP lt (mx lt low t.2) hi ts from hs) with hs | hs
    · obtain ⟨rfl, _⟩ := mem_mk1.mp hs
      rcases h with rfl | rfl
      · exact .inl rfl
      · rcases mn_or (lt := lt) hi t.1 with q | q
        · exact .inr (.inl q)
        · exact .inr (.inr ⟨t, List.mem_cons_self, .inl q⟩)
    · rcases lessP_end ts _ c ⟨s, hs, h⟩ with q | q | ⟨u, hu, q⟩
      · rcases mx_or (lt := lt) low t.2 with z | z
        · exact .inl (q.trans z)
        · exact .inr (.inr ⟨t, List.mem_cons_self, .inr (q.trans z)⟩)
      · exact .inr (.inl q)
      · exact .inr (.inr ⟨u, List.mem_cons_of_mem _ hu, q⟩)
theorem less_end {one other : List (α × α)} {c : α} (h : EndS (lessL lt one other) c) : EndS one c ∨ EndS other c := by
  obtain ⟨s, hs, h⟩ := h
  obtain ⟨a, ha, hs⟩ := List.mem_flatMap.mp hs
  rcases lessP_end other a.1 c ⟨s, hs, h⟩ with q | q | q
  · exact .inl ⟨a, ha, .inl q⟩
  · exact .inl ⟨a, ha, .inr q⟩
  · exact .inr q
/-! joined: lined up by low cuts, then merged -/
def Lined (lt : α → α → Prop) (F : List (α × α)) : Prop := F.Pairwise fun s t => ¬ lt t.1 s.1
theorem lined_ins (O : LinO lt) {s : α × α} : ∀ (F : List (α × α)) (k : Nat), Lined lt F → k ≤ F.length → (∀ z, k = z + 1 → ∃ y, F[z]? = some y ∧ ¬ lt s.1 y.1) → (∀ i y, k ≤ i → F[i]? = some y → lt s.1 y.1) → Lined lt (F.take k ++ s :: F.drop k)
  | [], k, _, h, _, _ => by
    have : k = 0 := by simpa using h
    subst this
    exact List.pairwise_singleton _ _
  | a :: l, 0, hF, _, _, h2 => by
    show (s :: a :: l).Pairwise _
    rw [List.pairwise_cons]
    refine ⟨fun t ht => ?_, hF⟩
    obtain ⟨i, hi, e⟩ := List.mem_iff_getElem.mp ht
    exact O.as (h2 i t (Nat.zero_le _) (by rw [List.getElem?_eq_getElem hi, e]))
  | a :: l, n + 1, hF, h, h1, h2 => by
    have hF' := List.pairwise_cons.mp hF
    show (a :: (l.take n ++ s :: l.drop n)).Pairwise _
    rw [List.pairwise_cons]
    have key : ¬ lt s.1 a.1 := by
      obtain ⟨y, hy, q⟩ := h1 n rfl
      cases n with
      | zero =>
        have : a = y := by simpa using hy
        exact this ▸ q
      | succ m =>
        have hy' : l[m]? = some y := by simpa using hy
        exact O.le_le (hF'.1 y (List.mem_of_getElem? hy')) q
    refine ⟨fun t ht => ?_, lined_ins O l n hF'.2 (by simpa using h) (fun z hz => ?_) (fun i y hi hy => h2 (i + 1) y (by omega) (by simpa using hy))⟩
    · rcases List.mem_append.mp ht with q | q
      · exact hF'.1 t (List.mem_of_mem_take q)
      · rcases List.mem_cons.mp q with rfl | q
        · exact key
        · exact hF'.1 t (List.mem_of_mem_drop q)
    · obtain ⟨y, hy, q⟩ := h1 n rfl
      subst hz
      exact ⟨y, by simpa using hy, q⟩
theorem mem_ins {s t : α × α} {F : List (α × α)} {k : Nat} : t ∈ F.take k ++ s :: F.drop k ↔ t = s ∨ t ∈ F := by
  rw [List.mem_append, List.mem_cons]
  constructor
  · rintro (h | h | h)
    · exact .inr (List.mem_of_mem_take h)
    · exact .inl h
    · exact .inr (List.mem_of_mem_drop h)
  · rintro (h | h)
    · exact .inr (.inl h)
    · rw [← List.take_append_drop k F] at h
      rcases List.mem_append.mp h with q | q
      · exact .inl q
      · exact .inr (.inr q)
/-- one step of the merging -/
def Mrg (lt : α → α → Prop) [DecidableRel lt] (F : List (α × α)) (s : α × α) (F' : List (α × α)) : Prop :=
  (F = [] ∧ F' = [s]) ∨ ∃ G u, F = G ++ [u] ∧ ((lt u.2 s.1 ∧ F' = G ++ [u] ++ [s]) ∨ (¬ lt u.2 s.1 ∧ F' = G ++ [(u.1, mx lt u.2 s.2)]))
theorem mrg_ok (O : LinO lt) {F F' : List (α × α)} {s : α × α} (h : Mrg lt F s F') (hF : Can lt F) (hs : lt s.1 s.2) (hl : ∀ t ∈ F, ¬ lt s.1 t.1) : Can lt F' ∧ (∀ c, MemS lt F' c ↔ MemS lt F c ∨ InS lt s c) ∧ (∀ t ∈ F', ¬ lt s.1 t.1) ∧ (∀ c, EndS F' c → EndS F c ∨ c = s.1 ∨ c = s.2) := by
  rcases h with ⟨rfl, rfl⟩ | ⟨G, u, rfl, ⟨h1, rfl⟩ | ⟨h1, rfl⟩⟩
  · refine ⟨⟨fun t ht => ?_, List.pairwise_singleton _ _⟩, fun c => ?_, fun t ht => ?_, fun c ⟨t, ht, hc⟩ => ?_⟩
    · obtain rfl := List.mem_singleton.mp ht
      exact hs
    · rw [memS_cons]
      exact ⟨fun q => q.elim .inr fun z => absurd z memS_nil, fun q => q.elim (fun z => absurd z memS_nil) .inl⟩
    · obtain rfl := List.mem_singleton.mp ht
      exact O.ir _
    · obtain rfl := List.mem_singleton.mp ht
      exact .inr hc
  · refine ⟨⟨fun t ht => ?_, ?_⟩, fun c => ?_, fun t ht => ?_, fun c ⟨t, ht, hc⟩ => ?_⟩
    · rcases List.mem_append.mp ht with q | q
      · exact hF.1 t q
      · obtain rfl := List.mem_singleton.mp q
        exact hs
    · rw [List.pairwise_append]
      refine ⟨hF.2, List.pairwise_singleton _ _, fun a ha b hb => ?_⟩
      obtain rfl := List.mem_singleton.mp hb
      rcases List.mem_append.mp ha with q | q
      · have := (List.pairwise_append.mp hF.2).2.2 a q u (by simp)
        exact O.tr this (O.tr (hF.1 u (by simp)) h1)
      · obtain rfl := List.mem_singleton.mp q
        exact h1
    · rw [memS_app (b := [s]), memS_cons]
      exact ⟨fun q => q.elim .inl fun z => z.elim .inr fun w => absurd w memS_nil, fun q => q.elim .inl fun z => .inr (.inl z)⟩
    · rcases List.mem_append.mp ht with q | q
      · exact hl t q
      · obtain rfl := List.mem_singleton.mp q
        exact O.ir _
    · rcases List.mem_append.mp ht with q | q
      · exact .inl ⟨t, q, hc⟩
      · obtain rfl := List.mem_singleton.mp q
        exact .inr hc
  · have u0 : lt u.1 u.2 := hF.1 u (by simp)
    have us : ¬ lt s.1 u.1 := hl u (by simp)
    have pw := List.pairwise_append.mp hF.2
    refine ⟨⟨fun t ht => ?_, ?_⟩, fun c => ?_, fun t ht => ?_, fun c ⟨t, ht, hc⟩ => ?_⟩
    · rcases List.mem_append.mp ht with q | q
      · exact hF.1 t (List.mem_append.mpr (.inl q))
      · obtain rfl := List.mem_singleton.mp q
        exact O.lt_le u0 (mx_ge O).1
    · rw [List.pairwise_append]
      refine ⟨pw.1, List.pairwise_singleton _ _, fun a ha b hb => ?_⟩
      obtain rfl := List.mem_singleton.mp hb
      exact pw.2.2 a ha u (by simp)
    · rw [memS_app, memS_app, memS_cons, memS_cons]
      have key : InS lt (u.1, mx lt u.2 s.2) c ↔ InS lt u c ∨ InS lt s c := by
        unfold InS
        rw [lt_mx O]
        constructor
        · rintro ⟨q1, q2⟩
          by_cases z : lt c u.2
          · exact .inl ⟨q1, z⟩
          · exact .inr ⟨O.le_le h1 z, q2.resolve_left z⟩
        · rintro (⟨q1, q2⟩ | ⟨q1, q2⟩)
          · exact ⟨q1, .inl q2⟩
          · exact ⟨O.le_le us q1, .inr q2⟩
      rw [key]
      have n := memS_nil (lt := lt) (c := c)
      constructor
      · rintro (q | (q | q) | q)
        · exact .inl (.inl q)
        · exact .inl (.inr (.inl q))
        · exact .inr q
        · exact absurd q n
      · rintro ((q | q | q) | q)
        · exact .inl q
        · exact .inr (.inl (.inl q))
        · exact absurd q n
        · exact .inr (.inl (.inr q))
    · rcases List.mem_append.mp ht with q | q
      · exact hl t (List.mem_append.mpr (.inl q))
      · obtain rfl := List.mem_singleton.mp q
        exact us
    · rcases List.mem_append.mp ht with q | q
      · exact .inl ⟨t, List.mem_append.mpr (.inl q), hc⟩
      · obtain rfl := List.mem_singleton.mp q
        rcases hc with rfl | rfl
        · exact .inl ⟨u, by simp, .inl rfl⟩
        · rcases mx_or (lt := lt) u.2 s.2 with q | q
          · exact .inl ⟨u, by simp, .inr q⟩
          · exact .inr (.inr q)
/-! by flags at ascending cuts -/
def rle : Option α → List (α × Bool) → List (α × α)
  | _, [] => []
  | none, (c, true) :: r => rle (some c) r
  | none, (_, false) :: r => rle none r
  | some l, (_, true) :: r => rle (some l) r
  | some l, (c, false) :: r => (l, c) :: rle none r
def lastF : Bool → List (α × Bool) → Bool
  | b, [] => b
  | _, (_, f) :: r => lastF f r
mutual
theorem rle_some (O : LinO lt) : ∀ (cs : List (α × Bool)) (l : α), cs.Pairwise (fun a b => lt a.1 b.1) → (∀ a ∈ cs, lt l a.1) → lastF true cs = false →
    Can lt (rle (some l) cs) ∧ (∀ c, EndS (rle (some l) cs) c → c = l ∨ ∃ a ∈ cs, c = a.1) ∧ MemS lt (rle (some l) cs) l ∧ (∀ a ∈ cs, MemS lt (rle (some l) cs) a.1 ↔ a.2 = true) ∧ (∀ x, ¬ lt x l → (∀ a ∈ cs, lt x a.1) → MemS lt (rle (some l) cs) x) ∧ (∀ s ∈ rle (some l) cs, ¬ lt s.1 l)
  | [], l, _, _, h => by cases h
  | (d, true) :: r, l, hp, hl, hf => by
    have hp' := List.pairwise_cons.mp hp
    obtain ⟨h1, h2, h3, h4, h5, h6⟩ := rle_some O r l hp'.2 (fun a ha => hl a (List.mem_cons_of_mem _ ha)) hf
    have ld := hl (d, true) List.mem_cons_self
    refine ⟨h1, fun c hc => ?_, h3, fun a ha => ?_, fun x hx hr => h5 x hx fun a ha => hr a (List.mem_cons_of_mem _ ha), h6⟩
    · rcases h2 c hc with q | ⟨a, ha, q⟩
      · exact .inl q
      · exact .inr ⟨a, List.mem_cons_of_mem _ ha, q⟩
    · rcases List.mem_cons.mp ha with rfl | ha
      · exact ⟨fun _ => rfl, fun _ => h5 d (O.as ld) hp'.1⟩
      · exact h4 a ha
  | (d, false) :: r, l, hp, hl, hf => by
    have hp' := List.pairwise_cons.mp hp
    have ld : lt l d := hl (d, false) List.mem_cons_self
    obtain ⟨h1, h2, h3, h4⟩ := rle_none O r hp'.2 hf
    have beh : ∀ s ∈ rle none r, lt d s.1 := fun s hs => by
      obtain ⟨a, ha, q⟩ := h2 s.1 ⟨s, hs, .inl rfl⟩
      rw [q]
      exact hp'.1 a ha
    have nm : ∀ c, ¬ lt d c → ¬ MemS lt (rle none r) c := fun c hc ⟨s, hs, q⟩ => q.1 (O.le_lt hc (beh s hs))
    show Can lt ((l, d) :: rle none r) ∧ _
    refine ⟨⟨fun s hs => ?_, List.pairwise_cons.mpr ⟨fun s hs => beh s hs, h1.2⟩⟩, fun c ⟨s, hs, q⟩ => ?_, memS_cons.mpr (.inl ⟨O.ir _, ld⟩), fun a ha => ?_, fun x hx hr => memS_cons.mpr (.inl ⟨hx, hr _ List.mem_cons_self⟩), fun s hs => ?_⟩
    · rcases List.mem_cons.mp hs with rfl | hs
      · exact ld
      · exact h1.1 s hs
    · rcases List.mem_cons.mp hs with rfl | hs
      · rcases q with rfl | rfl
        · exact .inl rfl
        · exact .inr ⟨_, List.mem_cons_self, rfl⟩
      · obtain ⟨a, ha, z⟩ := h2 c ⟨s, hs, q⟩
        exact .inr ⟨a, List.mem_cons_of_mem _ ha, z⟩
    · show MemS lt ((l, d) :: rle none r) a.1 ↔ _
      rw [memS_cons]
      rcases List.mem_cons.mp ha with rfl | ha
      · constructor
        · rintro (q | q)
          · exact absurd q.2 (O.ir _)
          · exact absurd q (nm _ (O.ir _))
        · intro q
          cases q
      · rw [← h4 a ha]
        exact ⟨fun q => q.resolve_left fun z => O.as (hp'.1 a ha) z.2, .inr⟩
    · rcases List.mem_cons.mp hs with rfl | hs
      · exact O.ir _
      · exact fun q => O.as (O.tr ld (beh s hs)) q
theorem rle_none (O : LinO lt) : ∀ (cs : List (α × Bool)), cs.Pairwise (fun a b => lt a.1 b.1) → lastF false cs = false →
    Can lt (rle none cs) ∧ (∀ c, EndS (rle none cs) c → ∃ a ∈ cs, c = a.1) ∧ True ∧ (∀ a ∈ cs, MemS lt (rle none cs) a.1 ↔ a.2 = true)
  | [], _, _ => ⟨⟨fun s h => absurd h List.not_mem_nil, List.Pairwise.nil⟩, fun c ⟨s, h, _⟩ => absurd h List.not_mem_nil, trivial, fun a h => absurd h List.not_mem_nil⟩
  | (d, true) :: r, hp, hf => by
    have hp' := List.pairwise_cons.mp hp
    obtain ⟨h1, h2, h3, h4, h5, h6⟩ := rle_some O r d hp'.2 hp'.1 hf
    refine ⟨h1, fun c hc => ?_, trivial, fun a ha => ?_⟩
    · rcases h2 c hc with q | ⟨a, ha, q⟩
      · exact ⟨_, List.mem_cons_self, q⟩
      · exact ⟨a, List.mem_cons_of_mem _ ha, q⟩
    · rcases List.mem_cons.mp ha with rfl | ha
      · exact ⟨fun _ => rfl, fun _ => h3⟩
      · exact h4 a ha
  | (d, false) :: r, hp, hf => by
    have hp' := List.pairwise_cons.mp hp
    obtain ⟨h1, h2, h3, h4⟩ := rle_none O r hp'.2 hf
    refine ⟨h1, fun c hc => ?_, trivial, fun a ha => ?_⟩
    · obtain ⟨a, ha, q⟩ := h2 c hc
      exact ⟨a, List.mem_cons_of_mem _ ha, q⟩
    · rcases List.mem_cons.mp ha with rfl | ha
      · constructor
        · rintro ⟨s, hs, q⟩
          obtain ⟨a, ha, z⟩ := h2 s.1 ⟨s, hs, .inl rfl⟩
          exact absurd (hp'.1 a ha) (by rw [← z]; exact q.1)
        · intro q
          cases q
      · exact h4 a ha
end
end
end Pv

set_option Elab.async false
set_option linter.all false
set_option maxRecDepth 100000
/-! SndA: how values D lie in the heap; steps; names. -/
namespace Pv
open PySem PySem.Spec PyProof.Rows L2
abbrev Slots := L2.St

section
variable (K : PySem.W.Frag) (fa : Nat → Addr) (G : Hp) (B : List Addr)
mutual
def Dat : V → D → Prop
  | v, .non => v = .non
  | v, .bl b => v = .bl b
  | v, .int i => v = .int i
  | v, .str s => v = .str s
  | v, .tup ds => ∃ a vs, v = .ref a ∧ SqT K G a vs ∧ Dats vs ds
  | v, .lst ds => ∃ a vs, v = .ref a ∧ G a = some (.lst vs) ∧ Dats vs ds
  | v, .fz ds => ∃ a vs, v = .ref a ∧ SqL K G a vs ∧ Dats vs ds
  | v, .ref n => ∃ a, v = .ref a ∧ B[n]? = some a
  | v, .fn j => v = .ref (fa j)
def Dats : List V → List D → Prop
  | vs, [] => vs = []
  | vs, d :: ds => ∃ v r, vs = v :: r ∧ Dat v d ∧ Dats r ds
end
end

section
variable {K : PySem.W.Frag} {fa : Nat → Addr} {G G' H H' : Hp} {B B' : List Addr}

theorem _root_.L2.Rd.up (k : ∀ a o, G a = some o → G' a = some o) {a : Addr} {u : HO} (h : Rd G a u) : Rd G' a u := by
  rcases h with h | ⟨o, h⟩
  · exact .inl (k _ _ h)
  · exact .inr ⟨o, k _ _ h⟩
theorem _root_.L2.SqL.up (k : ∀ a o, G a = some o → G' a = some o) {a : Addr} {xs : List V} (h : SqL K G a xs) : SqL K G' a xs := by
  rcases h with h | h
  · exact .inl (Rd.up k h)
  · exact .inr h
theorem _root_.L2.SqT.up (k : ∀ a o, G a = some o → G' a = some o) {a : Addr} {xs : List V} (h : SqT K G a xs) : SqT K G' a xs := by
  rcases h with h | h
  · exact .inl (Rd.up k h)
  · exact .inr h
mutual
theorem Dat.up (k : ∀ a o, G a = some o → G' a = some o) (e : ∃ C, B' = B ++ C) : ∀ (d : D) (v : V), Dat K fa G B v d → Dat K fa G' B' v d
  | .non, _, h => h
  | .bl _, _, h => h
  | .int _, _, h => h
  | .str _, _, h => h
  | .tup ds, _, h => by
    obtain ⟨a, vs, e1, h1, h2⟩ := h
    exact ⟨a, vs, e1, SqT.up k h1, Dats.up k e ds vs h2⟩
  | .lst ds, _, h => by
    obtain ⟨a, vs, e1, h1, h2⟩ := h
    exact ⟨a, vs, e1, k _ _ h1, Dats.up k e ds vs h2⟩
  | .fz ds, _, h => by
    obtain ⟨a, vs, e1, h1, h2⟩ := h
    exact ⟨a, vs, e1, SqL.up k h1, Dats.up k e ds vs h2⟩
  | .ref n, _, h => by
    obtain ⟨a, e1, h1⟩ := h
    obtain ⟨C, rfl⟩ := e
    exact ⟨a, e1, by rw [List.getElem?_append_left (List.getElem?_eq_some_iff.mp h1).1]; exact h1⟩
  | .fn _, _, h => h
theorem Dats.up (k : ∀ a o, G a = some o → G' a = some o) (e : ∃ C, B' = B ++ C) : ∀ (ds : List D) (vs : List V), Dats K fa G B vs ds → Dats K fa G' B' vs ds
  | [], _, h => h
  | d :: ds, _, h => by
    obtain ⟨v, r, e1, h1, h2⟩ := h
    exact ⟨v, r, e1, Dat.up k e d v h1, Dats.up k e ds r h2⟩
end
theorem Dats.length : ∀ (ds : List D) (vs : List V), Dats K fa G B vs ds → vs.length = ds.length
  | [], _, h => by cases h; rfl
  | d :: ds, _, h => by
    obtain ⟨v, r, rfl, _, h2⟩ := h
    simp [Dats.length ds r h2]
theorem Dats.get : ∀ {ds : List D} {vs : List V} {i : Nat} {d : D}, Dats K fa G B vs ds → ds[i]? = some d → ∃ v, vs[i]? = some v ∧ Dat K fa G B v d
  | [], _, _, _, _, e => by simp at e
  | d :: ds, _, 0, _, h, e => by
    obtain ⟨v, r, rfl, h1, h2⟩ := h
    simp at e; subst e; exact ⟨v, rfl, h1⟩
  | d :: ds, _, i + 1, _, h, e => by
    obtain ⟨v, r, rfl, h1, h2⟩ := h
    obtain ⟨w, e1, q⟩ := Dats.get (i := i) h2 (by simpa using e)
    exact ⟨w, by simpa using e1, q⟩
theorem Dats.get' : ∀ {ds : List D} {vs : List V} {i : Nat} {v : V}, Dats K fa G B vs ds → vs[i]? = some v → ∃ d, ds[i]? = some d ∧ Dat K fa G B v d
  | [], _, _, _, h, e => by cases h; simp at e
  | d :: ds, _, 0, _, h, e => by
    obtain ⟨v, r, rfl, h1, h2⟩ := h
    simp at e; subst e; exact ⟨d, rfl, h1⟩
  | d :: ds, _, i + 1, _, h, e => by
    obtain ⟨v, r, rfl, h1, h2⟩ := h
    obtain ⟨w, e1, q⟩ := Dats.get' (i := i) h2 (by simpa using e)
    exact ⟨w, by simpa using e1, q⟩
theorem Dats.app : ∀ {ds es : List D} {vs ws : List V}, Dats K fa G B vs ds → Dats K fa G B ws es → Dats K fa G B (vs ++ ws) (ds ++ es)
  | [], _, _, _, h, q => by cases h; exact q
  | d :: ds, _, _, _, h, q => by
    obtain ⟨v, r, rfl, h1, h2⟩ := h
    exact ⟨v, r ++ _, rfl, h1, Dats.app h2 q⟩
theorem Dats.take : ∀ {ds : List D} {vs : List V} (n : Nat), Dats K fa G B vs ds → Dats K fa G B (vs.take n) (ds.take n)
  | _, _, 0, _ => rfl
  | [], _, n + 1, h => by cases h; rfl
  | d :: ds, _, n + 1, h => by
    obtain ⟨v, r, rfl, h1, h2⟩ := h
    exact ⟨v, _, rfl, h1, Dats.take n h2⟩
theorem Dats.drop : ∀ {ds : List D} {vs : List V} (n : Nat), Dats K fa G B vs ds → Dats K fa G B (vs.drop n) (ds.drop n)
  | _, _, 0, h => h
  | [], _, n + 1, h => by cases h; rfl
  | d :: ds, _, n + 1, h => by
    obtain ⟨v, r, rfl, h1, h2⟩ := h
    exact Dats.drop n h2
theorem Dats.one {v : V} {d : D} (h : Dat K fa G B v d) : Dats K fa G B [v] [d] := ⟨v, [], rfl, h, rfl⟩
theorem Dats.rev : ∀ {ds : List D} {vs : List V}, Dats K fa G B vs ds → Dats K fa G B vs.reverse ds.reverse
  | [], _, h => by cases h; rfl
  | d :: ds, _, h => by
    obtain ⟨v, r, rfl, h1, h2⟩ := h
    rw [List.reverse_cons, List.reverse_cons]
    exact Dats.app (Dats.rev h2) (Dats.one h1)
theorem Dats.set : ∀ {ds : List D} {vs : List V} {v : V} {d : D} (j : Nat), Dats K fa G B vs ds → Dat K fa G B v d → Dats K fa G B (vs.set j v) (ds.set j d)
  | [], _, _, _, _, h, _ => by cases h; rfl
  | d :: ds, _, _, _, 0, h, q => by
    obtain ⟨v, r, rfl, h1, h2⟩ := h
    exact ⟨_, r, rfl, q, h2⟩
  | d :: ds, _, _, _, j + 1, h, q => by
    obtain ⟨v, r, rfl, h1, h2⟩ := h
    exact ⟨v, _, rfl, h1, Dats.set j h2 q⟩

/-! what is without places of the store does not lean on the places -/
mutual
theorem Dat.nob : ∀ (d : D) (v : V), d.pure = true → Dat K fa G B v d → Dat K fa G B' v d
  | .non, _, _, h => h
  | .bl _, _, _, h => h
  | .int _, _, _, h => h
  | .str _, _, _, h => h
  | .tup ds, _, p, h => by
    obtain ⟨a, vs, e1, h1, h2⟩ := h
    exact ⟨a, vs, e1, h1, Dats.nob ds vs p h2⟩
  | .lst ds, _, p, h => by
    obtain ⟨a, vs, e1, h1, h2⟩ := h
    exact ⟨a, vs, e1, h1, Dats.nob ds vs p h2⟩
  | .fz ds, _, p, h => by
    obtain ⟨a, vs, e1, h1, h2⟩ := h
    exact ⟨a, vs, e1, h1, Dats.nob ds vs p h2⟩
  | .ref n, _, p, h => by cases p
  | .fn _, _, _, h => h
theorem Dats.nob : ∀ (ds : List D) (vs : List V), pures ds = true → Dats K fa G B vs ds → Dats K fa G B' vs ds
  | [], _, _, h => h
  | d :: ds, _, p, h => by
    obtain ⟨v, r, e1, h1, h2⟩ := h
    have p' : (d.pure && pures ds) = true := p
    rw [Bool.and_eq_true] at p'
    exact ⟨v, r, e1, Dat.nob d v p'.1 h1, Dats.nob ds r p'.2 h2⟩
end

mutual
theorem Dat.dp (k : ∀ a o, G a = some o → H a = some o) : ∀ (d : D) (v : V) (p : PyData), d.py = some p → Dat K fa G B v d → Dp K H v p
  | .non, _, p, e, h => by cases e; cases h; exact .non
  | .bl b, _, p, e, h => by cases e; cases h; exact .bl b
  | .int i, _, p, e, h => by cases e; cases h; exact .int i
  | .str s, _, p, e, h => by cases e; cases h; exact .str s
  | .tup ds, _, p, e, h => by
    obtain ⟨a, vs, rfl, h1, h2⟩ := h
    have e' : (pys ds).map PyData.tuple = some p := e
    obtain ⟨ps, hp, rfl⟩ := Option.map_eq_some_iff.mp e'
    exact .tup (SqT.up k h1) (Dats.dp k ds vs ps hp h2)
  | .lst ds, _, p, e, h => by
    obtain ⟨a, vs, rfl, h1, h2⟩ := h
    have e' : (pys ds).map PyData.list = some p := e
    obtain ⟨ps, hp, rfl⟩ := Option.map_eq_some_iff.mp e'
    exact .lst (.of (k _ _ h1)) (Dats.dp k ds vs ps hp h2)
  | .fz n, _, p, e, h => by cases e
  | .ref n, _, p, e, h => by cases e
  | .fn n, _, p, e, h => by cases e
theorem Dats.dp (k : ∀ a o, G a = some o → H a = some o) : ∀ (ds : List D) (vs : List V) (ps : List PyData), pys ds = some ps → Dats K fa G B vs ds → DpAll K H vs ps
  | [], _, ps, e, h => by cases e; cases h; exact .nil
  | d :: ds, _, ps, e, h => by
    obtain ⟨v, r, rfl, h1, h2⟩ := h
    have e' : (d.py.bind fun y => (pys ds).map fun ys => y :: ys) = some ps := e
    obtain ⟨y, hy, e2⟩ := Option.bind_eq_some_iff.mp e'
    obtain ⟨ys, hys, rfl⟩ := Option.map_eq_some_iff.mp e2
    exact .cons (Dat.dp k d v y hy h1) (Dats.dp k ds r ys hys h2)
end

mutual
theorem eqD_py : ∀ (d e : D) (p q : PyData), d.py = some p → e.py = some q → eqD d e = PyData.eqv p q
  | d, e, p, q, hd, he => by
    cases d with
    | non => cases hd; cases e <;> first | (cases he; rfl) | (obtain ⟨ps, hp, rfl⟩ := Option.map_eq_some_iff.mp he; rfl) | cases he
    | bl b =>
      cases hd
      cases e <;> first | (cases he; rfl) | (cases he; exact (Bool.beq_eq_decide_eq _ _).symm) | (obtain ⟨ps, hp, rfl⟩ := Option.map_eq_some_iff.mp he; rfl) | cases he
    | int i =>
      cases hd
      cases e <;> first | (cases he; rfl) | (cases he; exact (Bool.beq_eq_decide_eq _ _).symm) | (obtain ⟨ps, hp, rfl⟩ := Option.map_eq_some_iff.mp he; rfl) | cases he
    | str s =>
      cases hd
      cases e <;> first | (cases he; rfl) | (cases he; exact (Bool.beq_eq_decide_eq _ _).symm) | (obtain ⟨ps, hp, rfl⟩ := Option.map_eq_some_iff.mp he; rfl) | cases he
    | tup xs =>
      obtain ⟨ps, hp, rfl⟩ := Option.map_eq_some_iff.mp hd
      cases e with
      | tup ys =>
        obtain ⟨qs, hq, rfl⟩ := Option.map_eq_some_iff.mp he
        exact eqDs_py xs ys ps qs hp hq
      | lst ys => obtain ⟨qs, hq, rfl⟩ := Option.map_eq_some_iff.mp he; rfl
      | _ => cases he <;> rfl
    | lst xs =>
      obtain ⟨ps, hp, rfl⟩ := Option.map_eq_some_iff.mp hd
      cases e with
      | lst ys =>
        obtain ⟨qs, hq, rfl⟩ := Option.map_eq_some_iff.mp he
        exact eqDs_py xs ys ps qs hp hq
      | tup ys => obtain ⟨qs, hq, rfl⟩ := Option.map_eq_some_iff.mp he; rfl
      | _ => cases he <;> rfl
    | ref n => cases hd
    | fz n => cases hd
    | fn n => cases hd
theorem eqDs_py : ∀ (xs ys : List D) (ps qs : List PyData), pys xs = some ps → pys ys = some qs → eqDs xs ys = PyData.eqvAll ps qs
  | [], [], _, _, h, h' => by cases h; cases h'; rfl
  | [], y :: ys, ps, qs, h, h' => by
    cases h
    obtain ⟨z, hz, e2⟩ := Option.bind_eq_some_iff.mp h'
    obtain ⟨zs, hzs, rfl⟩ := Option.map_eq_some_iff.mp e2
    rfl
  | x :: xs, [], ps, qs, h, h' => by
    cases h'
    obtain ⟨z, hz, e2⟩ := Option.bind_eq_some_iff.mp h
    obtain ⟨zs, hzs, rfl⟩ := Option.map_eq_some_iff.mp e2
    rfl
  | x :: xs, y :: ys, ps, qs, h, h' => by
    obtain ⟨z, hz, e2⟩ := Option.bind_eq_some_iff.mp h
    obtain ⟨zs, hzs, rfl⟩ := Option.map_eq_some_iff.mp e2
    obtain ⟨u, hu, e3⟩ := Option.bind_eq_some_iff.mp h'
    obtain ⟨us, hus, rfl⟩ := Option.map_eq_some_iff.mp e3
    show (eqD x y && eqDs xs ys) = (PyData.eqv z u && PyData.eqvAll zs us)
    rw [eqD_py x y z u hz hu, eqDs_py xs ys zs us hzs hus]
end

/-! ### the store, the steps, the names -/
structure RelH (K : PySem.W.Frag) (fa : Nat → Addr) (S : Sto) (H G : Hp) (B : List Addr) : Prop where
  sub : ∀ a o, G a = some o → H a = some o
  len : B.length = S.length
  nd : B.Nodup
  at_ : ∀ (n : Nat) (ds : List D), S[n]? = some ds → ∃ a vs, B[n]? = some a ∧ H a = some (.lst vs) ∧ G a = none ∧ Dats K fa G B vs ds ∧ pures ds = true

structure Stp (H G : Hp) (B : List Addr) (H' G' : Hp) (B' : List Addr) : Prop where
  keep : ∀ a o, H a = some o → a ∉ B → H' a = some o
  liv : ∀ a, H a ≠ none → H' a ≠ none
  sub : ∀ a o, G a = some o → G' a = some o
  fr : ∀ a o, G' a = some o → G a = some o ∨ H a = none
  pre : ∃ C, B' = B ++ C ∧ ∀ a ∈ C, H a = none

theorem Stp.refl : Stp H G B H G B := ⟨fun _ _ h _ => h, fun _ h => h, fun _ _ h => h, fun _ _ h => .inl h, [], by simp, by simp⟩
theorem Stp.trans {H1 H2 H3 G1 G2 G3 : Hp} {B1 B2 B3 : List Addr} (a : Stp H1 G1 B1 H2 G2 B2) (b : Stp H2 G2 B2 H3 G3 B3) : Stp H1 G1 B1 H3 G3 B3 := by
  obtain ⟨C, rfl, hC⟩ := a.pre
  obtain ⟨C', rfl, hC'⟩ := b.pre
  have nn : ∀ x, H2 x = none → H1 x = none := fun x h => by
    cases q : H1 x with
    | none => rfl
    | some o => exact absurd h (a.liv x (by rw [q]; simp))
  refine ⟨fun x o h n => b.keep x o (a.keep x o h n) fun z => ?_, fun x h => b.liv x (a.liv x h), fun x o h => b.sub x o (a.sub x o h), fun x o h => ?_, C ++ C', by simp, fun x h => ?_⟩
  · rcases List.mem_append.mp z with z | z
    · exact n z
    · rw [hC x z] at h; cases h
  · rcases b.fr x o h with q | q
    · exact a.fr x o q
    · exact .inr (nn x q)
  · rcases List.mem_append.mp h with z | z
    · exact hC x z
    · exact nn x (hC' x z)

theorem Stp.ext {H' G' : Hp} (s : Stp H G B H' G' B') : ∃ C, B' = B ++ C := let ⟨C, e, _⟩ := s.pre; ⟨C, e⟩
theorem Stp.dat {H' G' : Hp} {v : V} {d : D} (s : Stp H G B H' G' B') (h : Dat K fa G B v d) : Dat K fa G' B' v d := Dat.up s.sub s.ext d v h
theorem Stp.dats {H' G' : Hp} {vs : List V} {ds : List D} (s : Stp H G B H' G' B') (h : Dats K fa G B vs ds) : Dats K fa G' B' vs ds := Dats.up s.sub s.ext ds vs h

variable {S : Sto} {p : Addr} {o : HO}
theorem RelH.Bsome (R : RelH K fa S H G B) {a : Addr} (h : a ∈ B) : ∃ vs, H a = some (.lst vs) ∧ G a = none := by
  obtain ⟨n, hn, e⟩ := List.mem_iff_getElem.mp h
  have hs : n < S.length := by rw [← R.len]; exact hn
  obtain ⟨a', vs, e1, e2, e3, _⟩ := R.at_ n S[n] (by simp [hs])
  have : B[n]? = some a := by simp [hn, e]
  rw [this] at e1; cases e1
  exact ⟨vs, e2, e3⟩
theorem RelH.nB (R : RelH K fa S H G B) (h : H p = none) : p ∉ B := fun z => by
  obtain ⟨vs, e, _⟩ := R.Bsome z
  rw [h] at e; cases e
theorem RelH.nG (R : RelH K fa S H G B) (h : H p = none) : G p = none := by
  cases q : G p with
  | none => rfl
  | some o => rw [R.sub p o q] at h; cases h
/-- a new object that never changes -/
theorem RelH.lay (R : RelH K fa S H G B) (h : H p = none) : Stp H G B (upd H p o) (upd G p o) B ∧ RelH K fa S (upd H p o) (upd G p o) B := by
  have hG := R.nG h
  have kH : ∀ a u, H a = some u → upd H p o a = some u := fun a u e => by rw [upd_ne (ne_of_none e h)]; exact e
  have kG : ∀ a u, G a = some u → upd G p o a = some u := fun a u e => by rw [upd_ne (ne_of_none e hG)]; exact e
  refine ⟨⟨fun a u e _ => kH a u e, fun a e => ?_, kG, fun a u e => ?_, [], by simp, by simp⟩, ⟨fun a u e => ?_, R.len, R.nd, fun n ds e => ?_⟩⟩
  · cases q : H a with
    | none => exact absurd q e
    | some u => rw [kH a u q]; simp
  · by_cases z : a = p
    · subst z; exact .inr h
    · rw [upd_ne z] at e; exact .inl e
  · by_cases z : a = p
    · subst z; rw [upd_same] at e ⊢; exact e
    · rw [upd_ne z] at e ⊢; exact R.sub a u e
  · obtain ⟨a, vs, e1, e2, e3, e4, e5⟩ := R.at_ n ds e
    exact ⟨a, vs, e1, kH _ _ e2, by rw [upd_ne (ne_of_none e2 h)]; exact e3, Dats.up kG ⟨[], by simp⟩ ds vs e4, e5⟩
/-- a new object that may change -/
theorem RelH.layF (R : RelH K fa S H G B) (h : H p = none) : Stp H G B (upd H p o) G B ∧ RelH K fa S (upd H p o) G B := by
  have hG := R.nG h
  have kH : ∀ a u, H a = some u → upd H p o a = some u := fun a u e => by rw [upd_ne (ne_of_none e h)]; exact e
  refine ⟨⟨fun a u e _ => kH a u e, fun a e => ?_, fun _ _ e => e, fun a u e => .inl e, [], by simp, by simp⟩, ⟨fun a u e => kH a u (R.sub a u e), R.len, R.nd, fun n ds e => ?_⟩⟩
  · cases q : H a with
    | none => exact absurd q e
    | some u => rw [kH a u q]; simp
  · obtain ⟨a, vs, e1, e2, e3, e4, e5⟩ := R.at_ n ds e
    exact ⟨a, vs, e1, kH _ _ e2, e3, e4, e5⟩
/-- a new list with a place in the store -/
theorem RelH.layB (R : RelH K fa S H G B) (h : H p = none) {vs : List V} {ds : List D} (hd : Dats K fa G B vs ds) (hp : pures ds = true) :
    Stp H G B (upd H p (.lst vs)) G (B ++ [p]) ∧ RelH K fa (S ++ [ds]) (upd H p (.lst vs)) G (B ++ [p]) := by
  have hG := R.nG h
  have kH : ∀ a u, H a = some u → upd H p (.lst vs) a = some u := fun a u e => by rw [upd_ne (ne_of_none e h)]; exact e
  refine ⟨⟨fun a u e _ => kH a u e, fun a e => ?_, fun _ _ e => e, fun a u e => .inl e, [p], rfl, by simpa using h⟩, ⟨fun a u e => kH a u (R.sub a u e), by simp [R.len], ?_, fun n es e => ?_⟩⟩
  · cases q : H a with
    | none => exact absurd q e
    | some u => rw [kH a u q]; simp
  · exact List.nodup_append.mpr ⟨R.nd, by simp, fun a ha b hb => by
      have e : b = p := by simpa using hb
      subst e
      exact fun z => R.nB h (z ▸ ha)⟩
  · by_cases hn : n < S.length
    · rw [List.getElem?_append_left hn] at e
      obtain ⟨a, ws, e1, e2, e3, e4, e5⟩ := R.at_ n es e
      exact ⟨a, ws, by rw [List.getElem?_append_left (by rw [R.len]; exact hn)]; exact e1, kH _ _ e2, e3, Dats.up (fun _ _ q => q) ⟨[p], rfl⟩ es ws e4, e5⟩
    · rw [List.getElem?_append_right (by omega)] at e
      have hz : n - S.length = 0 := by
        cases q : n - S.length with
        | zero => rfl
        | succ m => rw [q] at e; simp at e
      rw [hz] at e
      have e' : ds = es := by simpa using e
      subst e'
      exact ⟨p, vs, by rw [List.getElem?_append_right (by rw [R.len]; omega), R.len, hz]; rfl, upd_same, hG, Dats.up (fun _ _ q => q) ⟨[p], rfl⟩ ds vs hd, hp⟩
/-- a list with a place is written -/
theorem RelH.wr (R : RelH K fa S H G B) {n : Nat} {a : Addr} {vs : List V} {ds : List D} (hb : B[n]? = some a) (hd : Dats K fa G B vs ds) (hp : pures ds = true) :
    Stp H G B (upd H a (.lst vs)) G B ∧ RelH K fa (S.set n ds) (upd H a (.lst vs)) G B := by
  have ha : a ∈ B := List.mem_of_getElem? hb
  obtain ⟨ws, hw, hg⟩ := R.Bsome ha
  have kH : ∀ b u, H b = some u → b ≠ a → upd H a (.lst vs) b = some u := fun b u e z => by rw [upd_ne z]; exact e
  refine ⟨⟨fun b u e nb => kH b u e fun z => nb (z ▸ ha), fun b e => ?_, fun _ _ e => e, fun b u e => .inl e, [], by simp, by simp⟩, ⟨fun b u e => kH b u (R.sub b u e) fun z => (by subst z; rw [hg] at e; cases e), by simp [R.len], R.nd, fun m es e => ?_⟩⟩
  · by_cases z : b = a
    · subst z; rw [upd_same]; simp
    · rw [upd_ne z]; exact e
  · have hm : m < S.length := by
      have := (List.getElem?_eq_some_iff.mp e).1
      simpa using this
    by_cases hmn : m = n
    · subst hmn
      rw [List.getElem?_set_self hm] at e
      cases e
      exact ⟨a, vs, hb, upd_same, hg, hd, hp⟩
    · rw [List.getElem?_set_ne (Ne.symm hmn)] at e
      obtain ⟨b, us, e1, e2, e3, e4, e5⟩ := R.at_ m es e
      refine ⟨b, us, e1, kH _ _ e2 fun z => hmn ?_, e3, e4, e5⟩
      subst z
      obtain ⟨h1, q1⟩ := List.getElem?_eq_some_iff.mp e1
      obtain ⟨h2, q2⟩ := List.getElem?_eq_some_iff.mp hb
      exact (List.getElem_inj R.nd).mp (q1.trans q2.symm)

/-- one name: owned, or a value -/
def SlotOk (K : PySem.W.Frag) (fa : Nat → Addr) (H0 H G : Hp) (B : List Addr) (v : V) : Bool → D → Prop
  | true, d => ∃ a vs ds, v = .ref a ∧ d = .lst ds ∧ H a = some (.lst vs) ∧ G a = none ∧ a ∉ B ∧ H0 a = none ∧ Dats K fa G B vs ds
  | false, d => Dat K fa G B v d
structure RelR (K : PySem.W.Frag) (fa : Nat → Addr) (H0 : Hp) (r : Rho) (σ : Slots) (H G : Hp) (B : List Addr) : Prop where
  len : r.length = σ.length
  at_ : ∀ (i : Nat) (own : Bool) (d : D), r[i]? = some (some (own, d)) → ∃ v, σ[i]? = some (some v) ∧ SlotOk K fa H0 H G B v own d
  dist : ∀ (i j : Nat) (d e : D), r[i]? = some (some (true, d)) → r[j]? = some (some (true, e)) → i ≠ j → σ[i]? ≠ σ[j]?

variable {H0 : Hp} {r : Rho} {σ : Slots}
theorem SlotOk.step {H' G' : Hp} {v : V} {own : Bool} {d : D} (s : Stp H G B H' G' B') (h : SlotOk K fa H0 H G B v own d) : SlotOk K fa H0 H' G' B' v own d := by
  cases own with
  | false => exact s.dat h
  | true =>
    obtain ⟨a, vs, ds, rfl, rfl, h1, h2, h3, h4, h5⟩ := h
    refine ⟨a, vs, ds, rfl, rfl, s.keep a _ h1 h3, ?_, ?_, h4, s.dats h5⟩
    · cases q : G' a with
      | none => rfl
      | some o =>
        rcases s.fr a o q with z | z
        · rw [h2] at z; cases z
        · rw [h1] at z; cases z
    · obtain ⟨C, rfl, hC⟩ := s.pre
      intro z
      rcases List.mem_append.mp z with z | z
      · exact h3 z
      · rw [hC a z] at h1; cases h1
theorem RelR.step {H' G' : Hp} (R : RelR K fa H0 r σ H G B) (s : Stp H G B H' G' B') : RelR K fa H0 r σ H' G' B' :=
  ⟨R.len, fun i own d e => let ⟨v, e1, q⟩ := R.at_ i own d e; ⟨v, e1, q.step s⟩, R.dist⟩
end
end Pv

set_option Elab.async false
set_option linter.all false
set_option maxRecDepth 100000
/-! SndB: the cases of expressions. -/
namespace Pv
open PySem PySem.Spec PyProof.Rows L2

/-! ### a def that runs where no guard stands -/
abbrev SpG := List V → Hp → VK → Prop
structure FnG (prog : Program) (w : World) (K : PySem.W.Frag) (mg : Str → Option Value) (base : Heap) (k : Nat) (f : Addr) (fd : FuncData) (ps : List Str) (sp : SpG) : Prop where
  len : ∀ vs H Q, sp vs H Q → vs.length = ps.length
  run : ∀ (A : Around) (outer : List Env) (s : Shared) (H : Hp) (args : Args) (us : List Value) (vs : List V) (Q : VK), Room k A → A.guards = some [] → Env0 prog w K mg base A outer s H →
    BindsTo s fd args (ps.zip us) → Vals vs us → sp vs H Q → codeAny (model prog w) A (.call (.ref f) args) (CR CX0 outer prog w H s Q E0) s

/-- what is promised of the def number j where calls answer as cf says -/
def spOf (K : PySem.W.Frag) (fa : Nat → Addr) (np : Nat) (ev : List D → Sto → Option (D × Sto)) : SpG := fun vs H Q => vs.length = np ∧ ∃ G B S ds d S', RelH K fa S H G B ∧ Dats K fa G B vs ds ∧ ev ds S = some (d, S') ∧
  ∀ v H' G' B', Stp H G B H' G' B' → RelH K fa S' H' G' B' → Dat K fa G' B' v d → Q v H'

section
variable {X : Cx} {k : Nat} {f : Addr} {fd : FuncData} {ps : List Str} {sp : SpG}
/-- the callee runs, however its arguments are bound -/
theorem runG {pins : List (Addr × Obj)} {σ : Slots} {H : Hp} {s : Shared} {Q : VK} {us : List Value} {vs : List V} {args : Args} (F : FnG X.prog X.w X.K X.mg X.base k f fd ps sp) (hr : Room k X.A) (hg : X.A.guards = some [])
    (hb : BindsTo s fd args (ps.zip us)) (I : Inv X pins σ H s) (r : Vals vs us) (h : sp vs H Q) : codeAny (model X.prog X.w) X.A (.call (.ref f) args)
      (fun r s' => match r with | .ok (.ret u) => EP X pins σ Q u s' | .ok _ => False | .error e => X.xe e s') s := by
  refine codeAny_mono (F.run X.A X.stack s H args us vs Q hr hg I.env0 hb r h) fun res s' hq => ?_
  cases res with
  | error e => exact False.elim hq
  | ok fl =>
    cases fl with
    | ret u => exact I.after hq
    | next => exact False.elim hq
    | brk => exact False.elim hq
    | cont => exact False.elim hq
end

/-! ### readings of values D -/
section
variable (K : PySem.W.Frag) (fa : Nat → Addr) (H0 : Hp) (r : Rho) (S : Sto)
def TD (d : D) (S' : Sto) : TE := fun σ H Q => ∃ G B, RelR K fa H0 r σ H G B ∧ RelH K fa S H G B ∧
  ∀ v H' G' B', Stp H G B H' G' B' → RelH K fa S' H' G' B' → Dat K fa G' B' v d → Q v H'
def TB (d : D) (S' : Sto) : TE := fun σ H Q => ∃ G B, RelR K fa H0 r σ H G B ∧ RelH K fa S H G B ∧
  ∀ v H' G' B' own, Stp H G B H' G' B' → RelH K fa S' H' G' B' → SlotOk K fa H0 H' G' B' v own d → Q v H'
def TDs (ds : List D) (S' : Sto) : TA := fun σ H Q => ∃ G B, RelR K fa H0 r σ H G B ∧ RelH K fa S H G B ∧
  ∀ vs H' G' B', Stp H G B H' G' B' → RelH K fa S' H' G' B' → Dats K fa G' B' vs ds → Q vs H'
def TBo (b : Bool) (S' : Sto) : TT := fun σ H Q => ∃ G B, RelR K fa H0 r σ H G B ∧ RelH K fa S H G B ∧
  ∀ H' G' B', Stp H G B H' G' B' → RelH K fa S' H' G' B' → Q b H'
def TOp (o : Option Int) (S' : Sto) : TO := fun σ H Q => ∃ G B, RelR K fa H0 r σ H G B ∧ RelH K fa S H G B ∧
  ∀ H' G' B', Stp H G B H' G' B' → RelH K fa S' H' G' B' → Q o H'
end

/-- what a value reads as: what is at a place or owned is read as a list -/
def Rb (K : PySem.W.Frag) (fa : Nat → Addr) (H G : Hp) (B : List Addr) (v : V) (d : D) : Prop := Dat K fa G B v d ∨ ∃ a vs ds, v = .ref a ∧ d = .lst ds ∧ H a = some (.lst vs) ∧ Dats K fa G B vs ds
section
variable {K : PySem.W.Frag} {fa : Nat → Addr} {H0 H G : Hp} {B : List Addr} {S : Sto} {v : V} {d : D} {own : Bool}
theorem Rb.of (h : SlotOk K fa H0 H G B v own d) (R : RelH K fa S H G B) : Rb K fa H G B v (deB S d) := by
  cases own with
  | true =>
    obtain ⟨a, vs, ds, rfl, rfl, h1, _, _, _, h5⟩ := h
    exact .inr ⟨a, vs, ds, rfl, rfl, h1, h5⟩
  | false =>
    have h' : Dat K fa G B v d := h
    cases d with
    | ref n =>
      obtain ⟨a, rfl, hb⟩ := h'
      unfold deB
      cases e : S[n]? with
      | none =>
        have h1 := (List.getElem?_eq_some_iff.mp hb).1
        have h2 := List.getElem?_eq_none_iff.mp e
        rw [R.len] at h1
        exact absurd h1 (Nat.not_lt.mpr h2)
      | some ds =>
        obtain ⟨a', vs, e1, e2, _, e4, _⟩ := R.at_ n ds e
        rw [hb] at e1; cases e1
        exact .inr ⟨_, vs, ds, rfl, by simp only [e], e2, e4⟩
    | _ => exact .inl h'
theorem Rb.lst {ds : List D} (h : Rb K fa H G B v (.lst ds)) (k : ∀ a o, G a = some o → H a = some o) : ∃ a vs, v = .ref a ∧ H a = some (.lst vs) ∧ Dats K fa G B vs ds := by
  rcases h with ⟨a, vs, e, h1, h2⟩ | ⟨a, vs, ds', e, e2, h1, h2⟩
  · exact ⟨a, vs, e, k _ _ h1, h2⟩
  · cases e2
    exact ⟨a, vs, e, h1, h2⟩
theorem Rb.seq {ds : List D} {d : D} (h : Rb K fa H G B v d) (k : ∀ a o, G a = some o → H a = some o) (e : wk d = .lst ds) : ∃ a vs, v = .ref a ∧ SqL K H a vs ∧ Dats K fa G B vs ds := by
  cases d with
  | fz xs =>
    cases e
    rcases h with ⟨a, vs, e, h1, h2⟩ | ⟨a, vs, ds', e, e2, h1, h2⟩
    · exact ⟨a, vs, e, SqL.up k h1, h2⟩
    · cases e2
  | lst xs =>
    cases e
    obtain ⟨a, vs, e1, h1, h2⟩ := h.lst k
    exact ⟨a, vs, e1, .of h1, h2⟩
  | _ => cases e
theorem wk_eq {d e : D} (h : wk d = e) (n : ∀ xs, e ≠ .lst xs) : d = e := by
  cases d with
  | fz xs => exact absurd h.symm (n xs)
  | _ => exact h
theorem Rb.tup {ds : List D} (h : Rb K fa H G B v (.tup ds)) (k : ∀ a o, G a = some o → H a = some o) : ∃ a vs, v = .ref a ∧ SqT K H a vs ∧ Dats K fa G B vs ds ∧ SqT K G a vs := by
  rcases h with ⟨a, vs, e, h1, h2⟩ | ⟨a, vs, ds', e, e2, h1, h2⟩
  · exact ⟨a, vs, e, SqT.up k h1, h2, h1⟩
  · cases e2
theorem Rb.int {i : Int} (h : Rb K fa H G B v (.int i)) : v = .int i := by
  rcases h with h | ⟨_, _, _, _, e2, _⟩
  · exact h
  · cases e2
theorem Rb.bl {i : Bool} (h : Rb K fa H G B v (.bl i)) : v = .bl i := by
  rcases h with h | ⟨_, _, _, _, e2, _⟩
  · exact h
  · cases e2
theorem Rb.str {i : Str} (h : Rb K fa H G B v (.str i)) : v = .str i := by
  rcases h with h | ⟨_, _, _, _, e2, _⟩
  · exact h
  · cases e2
theorem Rb.non (h : Rb K fa H G B v .non) : v = .non := by
  rcases h with h | ⟨_, _, _, _, e2, _⟩
  · exact h
  · cases e2
theorem Rb.dp {p : PyData} (h : Rb K fa H G B v d) (k : ∀ a o, G a = some o → H a = some o) (e : d.py = some p) : Dp K H v p := by
  rcases h with h | ⟨a, vs, ds, rfl, rfl, h1, h2⟩
  · exact Dat.dp k d v p e h
  · obtain ⟨ps, hp, rfl⟩ := Option.map_eq_some_iff.mp (show (pys ds).map PyData.list = some p from e)
    exact .lst (.of h1) (Dats.dp k ds vs ps hp h2)
end

def biNames : List Str := ["abs", "len", "all", "any", "tuple", "list", "sum", "max", "min", "int", "bool", "str", "repr", "isinstance", "range", "zip", "enumerate", "reversed", "sorted", "dict", "set"]

/-- where one stands, and what the text says -/
structure Wd (P : Prg) (cf : Nat → List D → Sto → Option (D × Sto)) (fa : Nat → Addr) (X : Cx) (N : List Str) (sc : Scope) : Prop where
  hN : X.N = N
  hsc : X.env.scope = sc
  nd : N.Nodup
  calm : X.calm = true
  gd : X.A.guards = some []
  un : X.A.units + 128 < cLine
  bi : ∀ x ∈ biNames, X.mg x = none
  cst : ∀ (j : Nat) (p : Str × D), P.csts[j]? = some p → ∃ u v, X.mg p.1 = some u ∧ RelV v u ∧ ∀ G B, Dat X.K fa G B v p.2
  fnv : ∀ (j : Nat) (g : Fn), P.fns[j]? = some g → X.mg g.name = some (.ref (fa j)) ∧ PySem.W.keepIn X.K (.ref (fa j)) = true
  run : ∃ k, Room k X.A ∧ ∀ (j : Nat) (g : Fn), P.fns[j]? = some g → ∃ fd, (Binds X.K fd (g.N.take g.np) [] ∧ ∀ (q : Nat) (w : Kwf), P.kws[q]? = some w → w.f = j → ∀ (s : Shared) (us ws zs : List Value), us.length = w.n → ws.length = w.ks.length → pick w.perm (us ++ ws) = some zs → BindsTo s fd ⟨us, w.ks.zip ws⟩ ((g.N.take g.np).zip zs)) ∧ FnG X.prog X.w X.K X.mg X.base k (fa j) fd (g.N.take g.np) (spOf X.K fa g.np (cf j))

section
variable {P : Prg} {cf : Nat → List D → Sto → Option (D × Sto)} {fa : Nat → Addr} {H0 : Hp} {X : Cx} {N : List Str} {sc : Scope}

theorem _root_.L2.PE.wk {e : Expr} {t t' : TE} (h : PE X e t) (k : ∀ σ H Q, t' σ H Q → t σ H Q) : PE X e t' := ⟨fun pins s σ H Q I q => h.run pins s σ H Q I (k σ H Q q)⟩
theorem _root_.L2.PT.wk {e : Expr} {t t' : TT} (h : PT X e t) (k : ∀ σ H Q, t' σ H Q → t σ H Q) : PT X e t' := ⟨fun pins s σ H Q I q => h.run pins s σ H Q I (k σ H Q q)⟩
theorem _root_.L2.PW.wk {e : Expr} {t t' : TT} (h : PW X e t) (k : ∀ σ H Q, t' σ H Q → t σ H Q) : PW X e t' := ⟨fun wh pins s σ H Q I q => h.run wh pins s σ H Q I (k σ H Q q)⟩
theorem _root_.L2.PA.wk {es : List Expr} {t t' : TA} (h : PA X es t) (k : ∀ σ H Q, t' σ H Q → t σ H Q) : PA X es t' := ⟨fun pos pins s σ H Q I q => h.run pos pins s σ H Q I (k σ H Q q)⟩

variable (P cf fa H0 X)
def SE (x : Expr) (e : E) : Prop := ∀ r S d S', evE P cf e r S = some (d, S') → PE X x (TD X.K fa H0 r S d S')
def ST (x : Expr) (e : E) : Prop := ∀ r S b S', evE P cf e r S = some (.bl b, S') → PT X x (TBo X.K fa H0 r S b S')
def SB (x : Expr) (e : E) : Prop := ∀ r S d S', evE P cf e r S = some (d, S') → PE X x (TB X.K fa H0 r S d S')
def SA (xs : List Expr) (es : List E) : Prop := ∀ r S ds S', evEs P cf es r S = some (ds, S') → PA X xs (TDs X.K fa H0 r S ds S')
variable {P cf fa H0 X}

theorem SE.b {x : Expr} {e : E} (h : SE P cf fa H0 X x e) : SB P cf fa H0 X x e := fun r S d S' hv => (h r S d S' hv).wk fun σ H Q ⟨G, B, R, RS, q⟩ => ⟨G, B, R, RS, fun v H' G' B' st rs dt => q v H' G' B' false st rs dt⟩

/-! names -/
theorem s_bor {i : Nat} {x : Str} {pos : Pos} (hi : X.N[i]? = some x) (hv : Vis X.env.scope x) (hd : (x == ("__debug__" : Str)) = false) (hcd : (x == ("__classdict__" : Str)) = false) : SB P cf fa H0 X (.Name x pos) (.bor i) := by
  intro r S d S' h
  refine (pe_var hi hv hd hcd).wk fun σ H Q ⟨G, B, R, RS, q⟩ => ?_
  have h' := h
  simp only [evE] at h'
  split at h'
  · rename_i own d0 e
    cases h'
    obtain ⟨v, e1, ok⟩ := R.at_ i own d e
    exact ⟨v, e1, q v H G B own .refl RS ok⟩
  · cases h'
theorem s_var {i : Nat} {x : Str} {pos : Pos} (hi : X.N[i]? = some x) (hv : Vis X.env.scope x) (hd : (x == ("__debug__" : Str)) = false) (hcd : (x == ("__classdict__" : Str)) = false) : SE P cf fa H0 X (.Name x pos) (.var i) := by
  intro r S d S' h
  refine (pe_var hi hv hd hcd).wk fun σ H Q ⟨G, B, R, RS, q⟩ => ?_
  have h' := h
  simp only [evE] at h'
  split at h'
  · rename_i d0 e
    cases h'
    obtain ⟨v, e1, ok⟩ := R.at_ i false d e
    exact ⟨v, e1, q v H G B .refl RS ok⟩
  · cases h'
theorem TD.c {v : V} {d : D} {r : Rho} {S : Sto} (h : ∀ G B, Dat X.K fa G B v d) : ∀ σ H Q, TD X.K fa H0 r S d S σ H Q → tC v σ H Q := fun σ H Q ⟨G, B, R, RS, q⟩ => q v H G B .refl RS (h G B)
theorem s_int {i : Int} {j : Nat} {pos : Pos} : SE P cf fa H0 X (.Constant (.int i) j pos) (.cst (.int i)) := fun r S d S' h => by
  have e : (D.int i, S) = (d, S') := Option.some.inj (by simpa only [evE] using h)
  cases e
  exact pe_int.wk (TD.c fun _ _ => rfl)
theorem s_bl {i : Bool} {j : Nat} {pos : Pos} : SE P cf fa H0 X (.Constant (.bool i) j pos) (.cst (.bl i)) := fun r S d S' h => by
  have e : (D.bl i, S) = (d, S') := Option.some.inj (by simpa only [evE] using h)
  cases e
  exact pe_bl.wk (TD.c fun _ _ => rfl)
theorem s_non {j : Nat} {pos : Pos} : SE P cf fa H0 X (.Constant .none j pos) (.cst .non) := fun r S d S' h => by
  have e : (D.non, S) = (d, S') := Option.some.inj (by simpa only [evE] using h)
  cases e
  exact pe_non.wk (TD.c fun _ _ => rfl)
theorem s_str {i : Str} {j : Nat} {pos : Pos} : SE P cf fa H0 X (.Constant (.str i) j pos) (.cst (.str i)) := fun r S d S' h => by
  have e : (D.str i, S) = (d, S') := Option.some.inj (by simpa only [evE] using h)
  cases e
  exact pe_str.wk (TD.c fun _ _ => rfl)
theorem s_glb (W : Wd P cf fa X N sc) {j : Nat} {p : Str × D} {pos : Pos} (hj : P.csts[j]? = some p) (hg : Gl X p.1) (hd : (p.1 == ("__debug__" : Str)) = false) : SE P cf fa H0 X (.Name p.1 pos) (.glb j) := fun r S d S' h => by
  simp only [evE, hj, Option.map_some, Option.some.injEq] at h
  cases h
  obtain ⟨u, v, h1, h2, h3⟩ := W.cst j p hj
  exact (pe_glob hg h1 h2 hd).wk (TD.c h3)
theorem s_fnv (W : Wd P cf fa X N sc) {j : Nat} {g : Fn} {pos : Pos} (hj : P.fns[j]? = some g) (hg : Gl X g.name) (hd : (g.name == ("__debug__" : Str)) = false) : SE P cf fa H0 X (.Name g.name pos) (.fnv j) := fun r S d S' h => by
  have e : (D.fn j, S) = (d, S') := Option.some.inj (by simpa only [evE] using h)
  cases e
  exact (pe_glob (v := .ref (fa j)) hg (W.fnv j g hj).1 rfl hd).wk (TD.c fun _ _ => rfl)

/-! two parts, one behind the other -/
theorem TB.two {r : Rho} {S S1 S2 : Sto} {d1 d2 : D} {σ : Slots} {H : Hp} {rd : R2} {Q : VK} {G : Hp} {B : List Addr} (R : RelR X.K fa H0 r σ H G B) (RS : RelH X.K fa S H G B)
    (q : ∀ v1 v2 H' G' B', Stp H G B H' G' B' → RelH X.K fa S2 H' G' B' → Rb X.K fa H' G' B' v1 (deB S2 d1) → Rb X.K fa H' G' B' v2 (deB S2 d2) → rd v1 v2 H' Q) :
    tOp rd (TB X.K fa H0 r S d1 S1) (TB X.K fa H0 r S1 d2 S2) σ H Q :=
  ⟨G, B, R, RS, fun v1 H1 G1 B1 o1 st1 rs1 ok1 => ⟨G1, B1, R.step st1, rs1, fun v2 H2 G2 B2 o2 st2 rs2 ok2 => q v1 v2 H2 G2 B2 (st1.trans st2) rs2 (.of (ok1.step st2) rs2) (.of ok2 rs2)⟩⟩
end
end Pv

set_option Elab.async false
set_option linter.all false
set_option maxRecDepth 100000
/-! SndC: operators. -/
namespace Pv
open PySem PySem.Spec PyProof.Rows L2

def GoodR (K : PySem.W.Frag) (fa : Nat → Addr) (rd : R2) (x y d : D) : Prop := ∀ v1 v2 H G B S Q, RelH K fa S H G B → Rb K fa H G B v1 x → Rb K fa H G B v2 y →
  (∀ v H' G' B', Stp H G B H' G' B' → RelH K fa S H' G' B' → Dat K fa G' B' v d → Q v H') → rd v1 v2 H Q

section
variable {X : Cx} {fa : Nat → Addr}
theorem op_fdX : OpR X (binaryOp .FloorDiv) (rI (fun _ j => j ≠ 0 ∧ j.natAbs.log2 < 9000) fun i j => .int (i.fdiv j)) :=
  opI fun _ _ _ _ _ _ _ hc q => floordiv_int hc.1 q (.inl (PyProof.noPylong_of_log2 hc.2))

theorem bits_log (i : Int) : Builtin.Int.intBits i ≤ i.natAbs.log2 + 1 := by
  unfold Builtin.Int.intBits
  split <;> omega

theorem op_powX : OpR X (binaryOp .Pow) (rI (fun i j => 0 ≤ j ∧ (Builtin.Int.intBits i : Int) * j ≤ 2 ^ 27) fun i j => .int (i ^ j.toNat)) :=
  opI fun _ _ _ _ _ _ _ hc q => pow_int hc.1 hc.2 q
theorem binD_ok {op : Operator} {x y d : D} (h : binD op x y = some d) : ∃ rd, OpR X (binaryOp op) rd ∧ GoodR X.K fa rd x y d := by
  unfold binD at h
  split at h
  · cases h
    exact ⟨_, op_add, fun v1 v2 H G B S Q RS r1 r2 q => ⟨_, _, r1.int, r2.int, q _ H G B .refl RS rfl⟩⟩
  · cases h
    exact ⟨_, op_sub, fun v1 v2 H G B S Q RS r1 r2 q => ⟨_, _, r1.int, r2.int, q _ H G B .refl RS rfl⟩⟩
  · rename_i i j
    by_cases c : szMul i j = true
    · rw [if_pos c] at h; cases h
      exact ⟨_, op_mulW, fun v1 v2 H G B S Q RS r1 r2 q => ⟨_, _, r1.int, r2.int, (show i.natAbs.log2 + j.natAbs.log2 < 1000000 from of_decide_eq_true c), q _ H G B .refl RS rfl⟩⟩
    · rw [if_neg c] at h; cases h
  · rename_i i j
    by_cases c : szDiv j = true
    · rw [if_pos c] at h; cases h
      have c' := Bool.and_eq_true_iff.mp c
      exact ⟨_, op_fdX, fun v1 v2 H G B S Q RS r1 r2 q => ⟨_, _, r1.int, r2.int, ⟨of_decide_eq_true c'.1, of_decide_eq_true c'.2⟩, q _ H G B .refl RS rfl⟩⟩
    · rw [if_neg c] at h; cases h
  · rename_i i j
    by_cases c : j = 0
    · rw [if_pos c] at h; cases h
    · rw [if_neg c] at h; cases h
      exact ⟨_, op_modN, fun v1 v2 H G B S Q RS r1 r2 q => ⟨_, _, r1.int, r2.int, c, q _ H G B .refl RS rfl⟩⟩
  · rename_i i j
    by_cases c : szPow i j = true
    · rw [if_pos c] at h; cases h
      have c' := Bool.and_eq_true_iff.mp c
      have c2 := Bool.and_eq_true_iff.mp c'.1
      have h1 : i.natAbs.log2 < 100000 := of_decide_eq_true c'.2
      have h2 : j ≤ 1000 := of_decide_eq_true c2.2
      have h0 : 0 ≤ j := of_decide_eq_true c2.1
      have h3 := bits_log i
      have e : (2 : Int) ^ 27 = 134217728 := by decide
      have h4 : (Builtin.Int.intBits i : Int) * j ≤ 2 ^ 27 := by
        have a1 : (Builtin.Int.intBits i : Int) ≤ 100000 := by omega
        have a2 : (Builtin.Int.intBits i : Int) * j ≤ 100000 * 1000 := Int.mul_le_mul a1 h2 h0 (by decide)
        rw [e]
        omega
      exact ⟨_, op_powX, fun v1 v2 H G B S Q RS r1 r2 q => ⟨_, _, r1.int, r2.int, ⟨h0, h4⟩, q _ H G B .refl RS rfl⟩⟩
    · rw [if_neg c] at h; cases h
  · rename_i i j
    by_cases c : szShl i j = true
    · rw [if_pos c] at h; cases h
      have c' := Bool.and_eq_true_iff.mp c
      have c2 := Bool.and_eq_true_iff.mp c'.1
      have h1 : i.natAbs.log2 < 1000000 := of_decide_eq_true c'.2
      have h2 : j ≤ 1000000 := of_decide_eq_true c2.2
      have h3 := bits_log i
      have e : (2 : Int) ^ 27 = 134217728 := by decide
      exact ⟨_, op_shlW, fun v1 v2 H G B S Q RS r1 r2 q => ⟨_, _, r1.int, r2.int, ⟨of_decide_eq_true c2.1, by rw [e]; omega⟩, q _ H G B .refl RS rfl⟩⟩
    · rw [if_neg c] at h; cases h
  · rename_i xs ys
    by_cases c : xs.length + ys.length ≤ 100000
    · rw [if_pos c] at h; cases h
      refine ⟨_, op_catA, fun v1 v2 H G B S Q RS r1 r2 q => ?_⟩
      obtain ⟨a, vs, rfl, h1, d1, g1⟩ := r1.tup RS.sub
      obtain ⟨b, ws, rfl, h2, d2, g2⟩ := r2.tup RS.sub
      have l1 := Dats.length _ _ d1
      have l2 := Dats.length _ _ d2
      refine ⟨a, b, vs, ws, rfl, rfl, h1, h2, by rw [l1, l2, sizeLine_eq]; omega, fun e => ?_, fun n e => ?_, fun n n' p hp => ?_⟩
      · subst e
        have : xs = [] := by cases xs with | nil => rfl | cons _ _ => simp at l1
        subst this
        exact q _ H G B .refl RS ⟨b, ws, rfl, g2, d2⟩
      · subst e
        have : ys = [] := by cases ys with | nil => rfl | cons _ _ => simp at l2
        subst this
        rw [List.append_nil] at q
        exact q _ H G B .refl RS ⟨a, vs, rfl, g1, d1⟩
      · obtain ⟨st, rs⟩ := RS.lay (o := .tup (vs ++ ws)) hp
        exact q _ _ _ _ st rs ⟨p, _, rfl, .inl (.inl upd_same), st.dats (d1.app d2)⟩
    · rw [if_neg c] at h; cases h
  · rename_i xs ys
    by_cases c : xs.length + ys.length ≤ 100000
    · rw [if_pos c] at h; cases h
      refine ⟨_, op_cat, fun v1 v2 H G B S Q RS r1 r2 q => ?_⟩
      obtain ⟨a, vs, rfl, h1, d1⟩ := r1.lst RS.sub
      obtain ⟨b, ws, rfl, h2, d2⟩ := r2.lst RS.sub
      have l1 := Dats.length _ _ d1
      have l2 := Dats.length _ _ d2
      refine ⟨a, b, vs, ws, rfl, rfl, h1, h2, by rw [l1, l2, sizeLine_eq]; omega, fun p hp => ?_⟩
      obtain ⟨st, rs⟩ := RS.lay (o := .lst (vs ++ ws)) hp
      exact q _ _ _ _ st rs ⟨p, _, rfl, upd_same, st.dats (d1.app d2)⟩
    · rw [if_neg c] at h; cases h
  · rename_i xs ys
    by_cases c : xs.length + ys.length ≤ 100000
    · rw [if_pos c] at h; cases h
      exact ⟨_, op_add_str, fun v1 v2 H G B S Q RS r1 r2 q => ⟨_, _, r1.str, r2.str, by rw [sizeLine_eq]; omega, q _ H G B .refl RS rfl⟩⟩
    · rw [if_neg c] at h; cases h
  · cases h

theorem okPy_of {x : D} (h : okPy x = true) : ∃ p, x.py = some p ∧ SeqAt.shaped p = true := by
  unfold okPy at h
  split at h
  · exact ⟨_, by assumption, h⟩
  · cases h

/-! flat values -/
theorem flat_eq {x y : D} {v u : V} {K : PySem.W.Frag} {G : Hp} {B : List Addr} (fx : x.flat = true) (fy : y.flat = true) (r1 : Dat K fa G B v x) (r2 : Dat K fa G B u y) : flatV v = true ∧ eqV v u = eqD x y := by
  cases x <;> first | cases fx | skip
  all_goals cases y <;> first | cases fy | skip
  all_goals (cases r1; cases r2; exact ⟨rfl, by first | rfl | exact (Bool.beq_eq_decide_eq _ _)⟩)
theorem flat_V {x : D} {v : V} {K : PySem.W.Frag} {G : Hp} {B : List Addr} (fx : x.flat = true) (r1 : Dat K fa G B v x) : flatV v = true := by
  cases x <;> first | (cases r1; rfl) | cases fx
theorem flat_in {x : D} {v : V} {K : PySem.W.Frag} {G : Hp} {B : List Addr} (fx : x.flat = true) (r1 : Dat K fa G B v x) : ∀ (ys : List D) (us : List V), ys.all D.flat = true → Dats K fa G B us ys → us.all flatV = true ∧ inV v us = inD x ys
  | [], _, _, h => by cases h; exact ⟨rfl, rfl⟩
  | y :: ys, _, f, h => by
    obtain ⟨u, r, rfl, h1, h2⟩ := h
    rw [List.all_cons, Bool.and_eq_true] at f
    obtain ⟨i1, i2⟩ := flat_in fx r1 ys r f.2 h2
    obtain ⟨f1, e1⟩ := flat_eq f.1 fx h1 r1
    refine ⟨by rw [List.all_cons, f1, i1]; rfl, ?_⟩
    unfold inV inD at i2 ⊢
    rw [List.any_cons, List.any_cons, e1, i2]
theorem Rb.flat {K : PySem.W.Frag} {H G : Hp} {B : List Addr} {v : V} {x : D} (h : Rb K fa H G B v x) (f : x.flat = true) : Dat K fa G B v x := by
  rcases h with h | ⟨_, _, _, _, e, _⟩
  · exact h
  · subst e; cases f

theorem isNon_ok {K : PySem.W.Frag} {H G : Hp} {B : List Addr} {v : V} {x : D} (h : Rb K fa H G B v x) : decide (v = .non) = isNon x := by
  rcases h with h | ⟨a, vs, ds, rfl, rfl, _⟩
  · cases x <;> first
      | (cases h; rfl)
      | (obtain ⟨a, vs, rfl, _⟩ := h; rfl)
      | (obtain ⟨a, rfl, _⟩ := h; rfl)
  · rfl

theorem scal_int (i j : Int) : scal (.int i) (.int j) = true := rfl
theorem scal_str (i j : Str) : scal (.str i) (.str j) = true := rfl

theorem cmpD_ok (hu : X.A.units + 128 < cLine) {op : CmpOp} {x y : D} {b : Bool} (h : cmpD op x y = some b) : ∃ rd, OpR X (compareOp op) rd ∧ GoodR X.K fa rd x y (.bl b) := by
  have hu' : X.A.units + 64 < cLine := by omega
  unfold cmpD at h
  split at h
  · cases h
    exact ⟨_, op_lt, fun v1 v2 H G B S Q RS r1 r2 q => ⟨_, _, r1.int, r2.int, q _ H G B .refl RS rfl⟩⟩
  · cases h
    exact ⟨_, op_le, fun v1 v2 H G B S Q RS r1 r2 q => ⟨_, _, r1.int, r2.int, q _ H G B .refl RS rfl⟩⟩
  · cases h
    exact ⟨_, op_gt, fun v1 v2 H G B S Q RS r1 r2 q => ⟨_, _, r1.int, r2.int, q _ H G B .refl RS rfl⟩⟩
  · cases h
    exact ⟨_, op_ge, fun v1 v2 H G B S Q RS r1 r2 q => ⟨_, _, r1.int, r2.int, q _ H G B .refl RS rfl⟩⟩
  · cases h
    refine ⟨_, op_eq, fun v1 v2 H G B S Q RS r1 r2 q => ?_⟩
    rw [r1.int, r2.int]
    exact ⟨rfl, q _ H G B .refl RS (by show V.bl _ = V.bl _; rw [dec_int, Bool.beq_eq_decide_eq])⟩
  · cases h
    refine ⟨_, op_ne, fun v1 v2 H G B S Q RS r1 r2 q => ?_⟩
    rw [r1.int, r2.int]
    exact ⟨rfl, q _ H G B .refl RS (by show V.bl _ = V.bl _; rw [dec_int, Bool.beq_eq_decide_eq])⟩
  · cases h
    refine ⟨_, op_eq, fun v1 v2 H G B S Q RS r1 r2 q => ?_⟩
    rw [r1.str, r2.str]
    exact ⟨rfl, q _ H G B .refl RS (by show V.bl _ = V.bl _; rw [dec_str, Bool.beq_eq_decide_eq])⟩
  · cases h
    refine ⟨_, op_ne, fun v1 v2 H G B S Q RS r1 r2 q => ?_⟩
    rw [r1.str, r2.str]
    exact ⟨rfl, q _ H G B .refl RS (by show V.bl _ = V.bl _; rw [dec_str, Bool.beq_eq_decide_eq])⟩
  · split at h
    · rename_i c
      cases h
      obtain ⟨c1, c2⟩ := Bool.and_eq_true_iff.mp c
      obtain ⟨p1, e1, s1⟩ := okPy_of c1
      obtain ⟨p2, e2, s2⟩ := okPy_of c2
      refine ⟨_, op_eqD hu', fun v1 v2 H G B S Q RS r1 r2 q => ⟨p1, p2, r1.dp RS.sub e1, r2.dp RS.sub e2, s1, s2, ?_⟩⟩
      rw [← eqD_py _ _ p1 p2 e1 e2]
      exact q _ H G B .refl RS rfl
    · cases h
  · split at h
    · rename_i c
      cases h
      obtain ⟨c1, c2⟩ := Bool.and_eq_true_iff.mp c
      obtain ⟨p1, e1, s1⟩ := okPy_of c1
      obtain ⟨p2, e2, s2⟩ := okPy_of c2
      refine ⟨_, op_neD hu', fun v1 v2 H G B S Q RS r1 r2 q => ⟨p1, p2, r1.dp RS.sub e1, r2.dp RS.sub e2, s1, s2, ?_⟩⟩
      rw [← eqD_py _ _ p1 p2 e1 e2]
      exact q _ H G B .refl RS rfl
    · cases h
  · cases h
    exact ⟨_, op_isN, fun v1 v2 H G B S Q RS r1 r2 q => ⟨r2.non, q _ H G B .refl RS (by show V.bl _ = V.bl _; rw [isNon_ok r1])⟩⟩
  · cases h
    exact ⟨_, op_notN, fun v1 v2 H G B S Q RS r1 r2 q => ⟨r2.non, q _ H G B .refl RS (by show V.bl _ = V.bl _; rw [isNon_ok r1])⟩⟩
  · split at h
    · rename_i c
      cases h
      obtain ⟨c1, c2⟩ := Bool.and_eq_true_iff.mp c
      refine ⟨_, op_in_seq, fun v1 v2 H G B S Q RS r1 r2 q => ?_⟩
      obtain ⟨a, vs, rfl, h1, d1, _⟩ := r2.tup RS.sub
      obtain ⟨i1, i2⟩ := flat_in c1 (r1.flat c1) _ _ c2 d1
      refine ⟨a, vs, rfl, .inr h1, flat_V c1 (r1.flat c1), i1, ?_⟩
      rw [if_neg Bool.false_ne_true, i2]
      exact q _ H G B .refl RS rfl
    · cases h
  · split at h
    · rename_i c
      cases h
      obtain ⟨c1, c2⟩ := Bool.and_eq_true_iff.mp c
      refine ⟨_, op_in_seq, fun v1 v2 H G B S Q RS r1 r2 q => ?_⟩
      obtain ⟨a, vs, rfl, h1, d1⟩ := r2.lst RS.sub
      obtain ⟨i1, i2⟩ := flat_in c1 (r1.flat c1) _ _ c2 d1
      refine ⟨a, vs, rfl, .inl (.of h1), flat_V c1 (r1.flat c1), i1, ?_⟩
      rw [if_neg Bool.false_ne_true, i2]
      exact q _ H G B .refl RS rfl
    · cases h
  · split at h
    · rename_i c
      cases h
      obtain ⟨c1, c2⟩ := Bool.and_eq_true_iff.mp c
      refine ⟨_, op_notIn_seq, fun v1 v2 H G B S Q RS r1 r2 q => ?_⟩
      obtain ⟨a, vs, rfl, h1, d1, _⟩ := r2.tup RS.sub
      obtain ⟨i1, i2⟩ := flat_in c1 (r1.flat c1) _ _ c2 d1
      refine ⟨a, vs, rfl, .inr h1, flat_V c1 (r1.flat c1), i1, ?_⟩
      rw [if_pos rfl, i2]
      exact q _ H G B .refl RS rfl
    · cases h
  · split at h
    · rename_i c
      cases h
      obtain ⟨c1, c2⟩ := Bool.and_eq_true_iff.mp c
      refine ⟨_, op_notIn_seq, fun v1 v2 H G B S Q RS r1 r2 q => ?_⟩
      obtain ⟨a, vs, rfl, h1, d1⟩ := r2.lst RS.sub
      obtain ⟨i1, i2⟩ := flat_in c1 (r1.flat c1) _ _ c2 d1
      refine ⟨a, vs, rfl, .inl (.of h1), flat_V c1 (r1.flat c1), i1, ?_⟩
      rw [if_pos rfl, i2]
      exact q _ H G B .refl RS rfl
    · cases h
  · rename_i x z
    obtain ⟨c, hc, rfl⟩ := Option.map_eq_some_iff.mp h
    have ex : x = ⟨#[c]⟩ := by
      unfold oneOf at hc
      split at hc
      · rename_i c' e
        cases hc
        cases x with
        | mk cps =>
          have : cps = #[c] := by
            apply Array.ext'
            simpa using e
          rw [this]
      · cases hc
    subst ex
    exact ⟨_, op_in_sign, fun v1 v2 H G B S Q RS r1 r2 q => ⟨c, z, r1.str, r2.str, q _ H G B .refl RS rfl⟩⟩
  · cases h
end
end Pv

set_option Elab.async false
set_option linter.all false
set_option maxRecDepth 100000
/-! SndD: expressions, form by form. -/
namespace Pv
open PySem PySem.Spec PyProof.Rows L2

def noStar : Expr → Bool
  | .Starred _ _ => false
  | _ => true
def plainBase : Expr → Bool
  | .Call _ _ _ _ => false
  | _ => true
def okIx : Expr → Bool
  | .Slice _ _ _ _ => false
  | _ => true
def plainT : Expr → Bool
  | .UnaryOp .Not _ _ => false
  | .BoolOp _ _ _ => false
  | .IfExp _ _ _ _ => false
  | .Compare _ _ _ _ => false
  | _ => true

section
variable {X : Cx}
theorem star_of {e : Expr} {es : List Expr} (h : noStar e = true) : starEach (e :: es) X.env = (false, eval e X.env) :: starEach es X.env := by
  cases e <;> first | rfl | cases h
theorem base_of {e : Expr} {n : Str} (h : plainBase e = true) : attributeBase e n X.env (eval e X.env) = eval e X.env := by
  cases e <;> first | rfl | cases h
theorem ix_of {e : Expr} (h : okIx e = true) : PlainIx e := by
  intro o i
  cases e <;> first | rfl | cases h
theorem true_of {e : Expr} (h : plainT e = true) : ∀ whole, isTrue e X.env whole = (do let v ← whole; standAt e.pos; holding [v] (truthy v)) := by
  intro whole
  cases e with
  | UnaryOp op a p => cases op <;> first | rfl | cases h
  | BoolOp _ _ _ => cases h
  | IfExp _ _ _ _ => cases h
  | Compare _ _ _ _ => cases h
  | _ => rfl
theorem plain_of {pos : Pos} : ∀ {es : List Expr}, es.all noStar = true → (backTo pos (starEach es X.env)).any (·.1) = false
  | [], _ => rfl
  | e :: es, h => by
    rw [List.all_cons, Bool.and_eq_true] at h
    rw [star_of h.1]
    show (false || (backTo pos (starEach es X.env)).any (·.1)) = false
    rw [plain_of h.2]
    rfl
theorem pe_no {x : Expr} : PE X x (fun _ _ _ => False) := ⟨fun _ _ _ _ _ _ h => h.elim⟩
theorem pt_no {x : Expr} : PT X x (fun _ _ _ => False) := ⟨fun _ _ _ _ _ _ h => h.elim⟩
theorem pw_no {x : Expr} : PW X x (fun _ _ _ => False) := ⟨fun _ _ _ _ _ _ _ h => h.elim⟩
end

section
variable {P : Prg} {cf : Nat → List D → Sto → Option (D × Sto)} {fa : Nat → Addr} {H0 : Hp} {X : Cx} {N : List Str} {sc : Scope}

theorem SE.t {x : Expr} {e : E} (h : SE P cf fa H0 X x e) (p : plainT x = true) : ST P cf fa H0 X x e := fun r S b S' hv =>
  (pt_val (h r S _ S' hv) (true_of p)).wk fun σ H Q ⟨G, B, R, RS, q⟩ => ⟨G, B, R, RS, fun v H' G' B' st rs dt => ⟨b, dt, q H' G' B' st rs⟩⟩

theorem s_bin {op : Operator} {a b : E} {xa xb : Expr} {pos : Pos} (ha : SB P cf fa H0 X xa a) (hb : SB P cf fa H0 X xb b) : SE P cf fa H0 X (.BinOp xa op xb pos) (.bin op a b) := by
  intro r S d S' h
  simp only [evE] at h
  obtain ⟨⟨d1, S1⟩, e1, h⟩ := Option.bind_eq_some_iff.mp h
  obtain ⟨⟨d2, S2⟩, e2, h⟩ := Option.bind_eq_some_iff.mp h
  obtain ⟨d', e3, h⟩ := Option.map_eq_some_iff.mp h
  cases h
  obtain ⟨rd, hop, good⟩ := binD_ok (X := X) (fa := fa) e3
  exact (pe_op hop (ha r S _ _ e1) (hb r S1 _ _ e2)).wk fun σ H Q ⟨G, B, R, RS, q⟩ => TB.two R RS fun v1 v2 H' G' B' st rs r1 r2 =>
    good v1 v2 H' G' B' _ Q rs r1 r2 fun v H2 G2 B2 st2 rs2 dt => q v H2 G2 B2 (st.trans st2) rs2 dt

theorem s_cmp (W : Wd P cf fa X N sc) {op : CmpOp} {a b : E} {xa xb : Expr} {pos : Pos} (ha : SB P cf fa H0 X xa a) (hb : SB P cf fa H0 X xb b) (hm : behindInMarks op xb = false) :
    SE P cf fa H0 X (.Compare xa [op] [xb] pos) (.cmp op a b) ∧ ST P cf fa H0 X (.Compare xa [op] [xb] pos) (.cmp op a b) := by
  refine ⟨fun r S d S' h => ?_, fun r S d S' h => ?_⟩
  · simp only [evE] at h
    obtain ⟨⟨d1, S1⟩, e1, h⟩ := Option.bind_eq_some_iff.mp h
    obtain ⟨⟨d2, S2⟩, e2, h⟩ := Option.bind_eq_some_iff.mp h
    obtain ⟨d', e3, h⟩ := Option.map_eq_some_iff.mp h
    cases h
    obtain ⟨rd, hop, good⟩ := cmpD_ok (fa := fa) W.un e3
    exact (pe_cmpR hop (ha r S _ _ e1) (hb r S1 _ _ e2) hm).wk fun σ H Q ⟨G, B, R, RS, q⟩ => TB.two R RS fun v1 v2 H' G' B' st rs r1 r2 =>
      good v1 v2 H' G' B' _ Q rs r1 r2 fun v H2 G2 B2 st2 rs2 dt => q v H2 G2 B2 (st.trans st2) rs2 dt
  · simp only [evE] at h
    obtain ⟨⟨d1, S1⟩, e1, h⟩ := Option.bind_eq_some_iff.mp h
    obtain ⟨⟨d2, S2⟩, e2, h⟩ := Option.bind_eq_some_iff.mp h
    obtain ⟨d', e3, h⟩ := Option.map_eq_some_iff.mp h
    cases h
    obtain ⟨rd, hop, good⟩ := cmpD_ok (fa := fa) W.un e3
    exact (pt_cmpR hop (ha r S _ _ e1) (hb r S1 _ _ e2) hm).wk fun σ H Q ⟨G, B, R, RS, q⟩ => TB.two R RS fun v1 v2 H' G' B' st rs r1 r2 =>
      good v1 v2 H' G' B' _ _ rs r1 r2 fun v H2 G2 B2 st2 rs2 dt => ⟨_, dt, q H2 G2 B2 (st.trans st2) rs2⟩

/-- a < b < c -/
theorem TB.three {r : Rho} {S S1 S2 S3 : Sto} {d1 d2 d3 : D} {σ : Slots} {H : Hp} {rd rd' : R2} {Q : VK} {G : Hp} {B : List Addr} (R : RelR X.K fa H0 r σ H G B) (RS : RelH X.K fa S H G B) {b1 b2 : Bool}
    (g1 : GoodR X.K fa rd (deB S2 d1) (deB S2 d2) (.bl b1)) : True := trivial

theorem s_neg {a : E} {xa : Expr} {pos : Pos} (ha : SE P cf fa H0 X xa a) : SE P cf fa H0 X (.UnaryOp .USub xa pos) (.neg a) := by
  intro r S d S' h
  simp only [evE] at h
  obtain ⟨⟨d1, S1⟩, e1, h⟩ := Option.bind_eq_some_iff.mp h
  cases d1 <;> first | cases h | skip
  exact (pe_un un_neg (ha r S _ _ e1)).wk fun σ H Q ⟨G, B, R, RS, q⟩ => ⟨G, B, R, RS, fun v H' G' B' st rs dt => ⟨_, dt, q _ H' G' B' st rs rfl⟩⟩

theorem s_not {a : E} {xa : Expr} {pos : Pos} (ha : SE P cf fa H0 X xa a) (ht : ST P cf fa H0 X xa a) : SE P cf fa H0 X (.UnaryOp .Not xa pos) (.not a) ∧ ST P cf fa H0 X (.UnaryOp .Not xa pos) (.not a) := by
  refine ⟨fun r S d S' h => ?_, fun r S d S' h => ?_⟩
  · simp only [evE] at h
    obtain ⟨⟨d1, S1⟩, e1, h⟩ := Option.bind_eq_some_iff.mp h
    cases d1 <;> first | cases h | skip
    exact (pe_not (ha r S _ _ e1)).wk fun σ H Q ⟨G, B, R, RS, q⟩ => ⟨G, B, R, RS, fun v H' G' B' st rs dt => ⟨_, dt, q _ H' G' B' st rs rfl⟩⟩
  · simp only [evE] at h
    obtain ⟨⟨d1, S1⟩, e1, h⟩ := Option.bind_eq_some_iff.mp h
    cases d1 <;> first | cases h | skip
    exact (pt_not (ht r S _ _ e1)).wk fun σ H Q ⟨G, B, R, RS, q⟩ => ⟨G, B, R, RS, fun H' G' B' st rs => q H' G' B' st rs⟩

variable (P cf fa H0 X)
/-- as SE and ST; and whatever the whole is, for and, or -/
def SW (x : Expr) (e : E) : Prop := ∀ r S b S', evE P cf e r S = some (.bl b, S') → PW X x (TBo X.K fa H0 r S b S')
variable {P cf fa H0 X}

theorem s_and2 {a b : E} {xa xb : Expr} {pos : Pos} (ha : SE P cf fa H0 X xa a) (ta : ST P cf fa H0 X xa a) (hb : SE P cf fa H0 X xb b) (tb : ST P cf fa H0 X xb b) :
    SE P cf fa H0 X (.BoolOp .And [xa, xb] pos) (.and a b) ∧ SW P cf fa H0 X (.BoolOp .And [xa, xb] pos) (.and a b) := by
  refine ⟨fun r S d S' h => ?_, fun r S d S' h => ?_⟩
  · simp only [evE] at h
    obtain ⟨⟨d1, S1⟩, e1, h⟩ := Option.bind_eq_some_iff.mp h
    cases d1 with
    | bl c =>
      cases c with
      | true => exact (pe_and (ha r S _ _ e1) (pe_one (hb r S1 _ _ h))).wk fun σ H Q ⟨G, B, R, RS, q⟩ => ⟨G, B, R, RS, fun v H' G' B' st rs dt => ⟨true, dt, (if_pos rfl).symm ▸ ⟨G', B', R.step st, rs, fun v2 H2 G2 B2 st2 rs2 d2 => q v2 H2 G2 B2 (st.trans st2) rs2 d2⟩⟩⟩
      | false =>
        cases h
        exact (pe_and (ha r S _ _ e1) (pe_one pe_no)).wk fun σ H Q ⟨G, B, R, RS, q⟩ => ⟨G, B, R, RS, fun v H' G' B' st rs dt => ⟨false, dt, iteF (q _ H' G' B' st rs rfl)⟩⟩
    | _ => cases h
  · simp only [evE] at h
    obtain ⟨⟨d1, S1⟩, e1, h⟩ := Option.bind_eq_some_iff.mp h
    cases d1 with
    | bl c =>
      cases c with
      | true => exact (pw_and (ta r S _ _ e1) (pw_and1 (tb r S1 _ _ h))).wk fun σ H Q ⟨G, B, R, RS, q⟩ => ⟨G, B, R, RS, fun H' G' B' st rs => iteT ⟨G', B', R.step st, rs, fun H2 G2 B2 st2 rs2 => q H2 G2 B2 (st.trans st2) rs2⟩⟩
      | false =>
        cases h
        exact (pw_and (ta r S _ _ e1) (pw_and1 pt_no)).wk fun σ H Q ⟨G, B, R, RS, q⟩ => ⟨G, B, R, RS, fun H' G' B' st rs => iteF (q H' G' B' st rs)⟩
    | _ => cases h
theorem s_andm {a b : E} {xa xb xc : Expr} {xs : List Expr} {pos : Pos} (ha : SE P cf fa H0 X xa a) (ta : ST P cf fa H0 X xa a) (hb : SE P cf fa H0 X (.BoolOp .And (xb :: xc :: xs) pos) b) (tb : SW P cf fa H0 X (.BoolOp .And (xb :: xc :: xs) pos) b) :
    SE P cf fa H0 X (.BoolOp .And (xa :: xb :: xc :: xs) pos) (.and a b) ∧ SW P cf fa H0 X (.BoolOp .And (xa :: xb :: xc :: xs) pos) (.and a b) := by
  refine ⟨fun r S d S' h => ?_, fun r S d S' h => ?_⟩
  · simp only [evE] at h
    obtain ⟨⟨d1, S1⟩, e1, h⟩ := Option.bind_eq_some_iff.mp h
    cases d1 with
    | bl c =>
      cases c with
      | true => exact (pe_and (ha r S _ _ e1) (hb r S1 _ _ h)).wk fun σ H Q ⟨G, B, R, RS, q⟩ => ⟨G, B, R, RS, fun v H' G' B' st rs dt => ⟨true, dt, iteT ⟨G', B', R.step st, rs, fun v2 H2 G2 B2 st2 rs2 d2 => q v2 H2 G2 B2 (st.trans st2) rs2 d2⟩⟩⟩
      | false =>
        cases h
        exact (pe_and (ha r S _ _ e1) pe_no).wk fun σ H Q ⟨G, B, R, RS, q⟩ => ⟨G, B, R, RS, fun v H' G' B' st rs dt => ⟨false, dt, iteF (q _ H' G' B' st rs rfl)⟩⟩
    | _ => cases h
  · simp only [evE] at h
    obtain ⟨⟨d1, S1⟩, e1, h⟩ := Option.bind_eq_some_iff.mp h
    cases d1 with
    | bl c =>
      cases c with
      | true => exact (pw_and (ta r S _ _ e1) (tb r S1 _ _ h)).wk fun σ H Q ⟨G, B, R, RS, q⟩ => ⟨G, B, R, RS, fun H' G' B' st rs => iteT ⟨G', B', R.step st, rs, fun H2 G2 B2 st2 rs2 => q H2 G2 B2 (st.trans st2) rs2⟩⟩
      | false =>
        cases h
        exact (pw_and (ta r S _ _ e1) pw_no).wk fun σ H Q ⟨G, B, R, RS, q⟩ => ⟨G, B, R, RS, fun H' G' B' st rs => iteF (q H' G' B' st rs)⟩
    | _ => cases h
theorem s_or2 {a b : E} {xa xb : Expr} {pos : Pos} (ha : SE P cf fa H0 X xa a) (ta : ST P cf fa H0 X xa a) (hb : SE P cf fa H0 X xb b) (tb : ST P cf fa H0 X xb b) :
    SE P cf fa H0 X (.BoolOp .Or [xa, xb] pos) (.or a b) ∧ SW P cf fa H0 X (.BoolOp .Or [xa, xb] pos) (.or a b) := by
  refine ⟨fun r S d S' h => ?_, fun r S d S' h => ?_⟩
  · simp only [evE] at h
    obtain ⟨⟨d1, S1⟩, e1, h⟩ := Option.bind_eq_some_iff.mp h
    cases d1 with
    | bl c =>
      cases c with
      | false => exact (pe_or (ha r S _ _ e1) (pe_one (hb r S1 _ _ h))).wk fun σ H Q ⟨G, B, R, RS, q⟩ => ⟨G, B, R, RS, fun v H' G' B' st rs dt => ⟨false, dt, iteF ⟨G', B', R.step st, rs, fun v2 H2 G2 B2 st2 rs2 d2 => q v2 H2 G2 B2 (st.trans st2) rs2 d2⟩⟩⟩
      | true =>
        cases h
        exact (pe_or (ha r S _ _ e1) (pe_one pe_no)).wk fun σ H Q ⟨G, B, R, RS, q⟩ => ⟨G, B, R, RS, fun v H' G' B' st rs dt => ⟨true, dt, iteT (q _ H' G' B' st rs rfl)⟩⟩
    | _ => cases h
  · simp only [evE] at h
    obtain ⟨⟨d1, S1⟩, e1, h⟩ := Option.bind_eq_some_iff.mp h
    cases d1 with
    | bl c =>
      cases c with
      | false => exact (pw_or (ta r S _ _ e1) (pw_or1 (tb r S1 _ _ h))).wk fun σ H Q ⟨G, B, R, RS, q⟩ => ⟨G, B, R, RS, fun H' G' B' st rs => iteF ⟨G', B', R.step st, rs, fun H2 G2 B2 st2 rs2 => q H2 G2 B2 (st.trans st2) rs2⟩⟩
      | true =>
        cases h
        exact (pw_or (ta r S _ _ e1) (pw_or1 pt_no)).wk fun σ H Q ⟨G, B, R, RS, q⟩ => ⟨G, B, R, RS, fun H' G' B' st rs => iteT (q H' G' B' st rs)⟩
    | _ => cases h
theorem s_orm {a b : E} {xa xb xc : Expr} {xs : List Expr} {pos : Pos} (ha : SE P cf fa H0 X xa a) (ta : ST P cf fa H0 X xa a) (hb : SE P cf fa H0 X (.BoolOp .Or (xb :: xc :: xs) pos) b) (tb : SW P cf fa H0 X (.BoolOp .Or (xb :: xc :: xs) pos) b) :
    SE P cf fa H0 X (.BoolOp .Or (xa :: xb :: xc :: xs) pos) (.or a b) ∧ SW P cf fa H0 X (.BoolOp .Or (xa :: xb :: xc :: xs) pos) (.or a b) := by
  refine ⟨fun r S d S' h => ?_, fun r S d S' h => ?_⟩
  · simp only [evE] at h
    obtain ⟨⟨d1, S1⟩, e1, h⟩ := Option.bind_eq_some_iff.mp h
    cases d1 with
    | bl c =>
      cases c with
      | false => exact (pe_or (ha r S _ _ e1) (hb r S1 _ _ h)).wk fun σ H Q ⟨G, B, R, RS, q⟩ => ⟨G, B, R, RS, fun v H' G' B' st rs dt => ⟨false, dt, iteF ⟨G', B', R.step st, rs, fun v2 H2 G2 B2 st2 rs2 d2 => q v2 H2 G2 B2 (st.trans st2) rs2 d2⟩⟩⟩
      | true =>
        cases h
        exact (pe_or (ha r S _ _ e1) pe_no).wk fun σ H Q ⟨G, B, R, RS, q⟩ => ⟨G, B, R, RS, fun v H' G' B' st rs dt => ⟨true, dt, iteT (q _ H' G' B' st rs rfl)⟩⟩
    | _ => cases h
  · simp only [evE] at h
    obtain ⟨⟨d1, S1⟩, e1, h⟩ := Option.bind_eq_some_iff.mp h
    cases d1 with
    | bl c =>
      cases c with
      | false => exact (pw_or (ta r S _ _ e1) (tb r S1 _ _ h)).wk fun σ H Q ⟨G, B, R, RS, q⟩ => ⟨G, B, R, RS, fun H' G' B' st rs => iteF ⟨G', B', R.step st, rs, fun H2 G2 B2 st2 rs2 => q H2 G2 B2 (st.trans st2) rs2⟩⟩
      | true =>
        cases h
        exact (pw_or (ta r S _ _ e1) pw_no).wk fun σ H Q ⟨G, B, R, RS, q⟩ => ⟨G, B, R, RS, fun H' G' B' st rs => iteT (q H' G' B' st rs)⟩
    | _ => cases h

theorem s_ite {c a b : E} {xc xa xb : Expr} {pos : Pos} (hc : ST P cf fa H0 X xc c) (ha : SE P cf fa H0 X xa a) (hb : SE P cf fa H0 X xb b) : SE P cf fa H0 X (.IfExp xc xa xb pos) (.ite c a b) := by
  intro r S d S' h
  simp only [evE] at h
  obtain ⟨⟨d1, S1⟩, e1, h⟩ := Option.bind_eq_some_iff.mp h
  cases d1 with
  | bl k =>
    cases k with
    | true => exact (pe_ifExp (hc r S _ _ e1) (ha r S1 _ _ h) pe_no).wk fun σ H Q ⟨G, B, R, RS, q⟩ => ⟨G, B, R, RS, fun H' G' B' st rs => iteT ⟨G', B', R.step st, rs, fun v2 H2 G2 B2 st2 rs2 d2 => q v2 H2 G2 B2 (st.trans st2) rs2 d2⟩⟩
    | false => exact (pe_ifExp (hc r S _ _ e1) pe_no (hb r S1 _ _ h)).wk fun σ H Q ⟨G, B, R, RS, q⟩ => ⟨G, B, R, RS, fun H' G' B' st rs => iteF ⟨G', B', R.step st, rs, fun v2 H2 G2 B2 st2 rs2 d2 => q v2 H2 G2 B2 (st.trans st2) rs2 d2⟩⟩
  | _ => cases h

/-! displays -/
theorem sa_nil : SA P cf fa H0 X [] [] := fun r S ds S' h => by
  have e : (([] : List D), S) = (ds, S') := Option.some.inj (by simpa only [evEs] using h)
  cases e
  exact pa_nil.wk fun σ H Q ⟨G, B, R, RS, q⟩ => q [] H G B .refl RS rfl
theorem evEs_cons {e : E} {es : List E} {r : Rho} {S : Sto} (h : ∀ x, e ≠ .star x) : evEs P cf (e :: es) r S = (evE P cf e r S).bind fun p => (evEs P cf es r p.2).map fun q => (p.1 :: q.1, q.2) := by
  cases e <;> first | rfl | (exact absurd rfl (h _))
theorem sa_cons {e : E} {es : List E} {x : Expr} {xs : List Expr} (n : ∀ y, e ≠ .star y) (hx : noStar x = true) (he : SE P cf fa H0 X x e) (hes : SA P cf fa H0 X xs es) : SA P cf fa H0 X (x :: xs) (e :: es) := fun r S ds S' h => by
  rw [evEs_cons n] at h
  obtain ⟨⟨d1, S1⟩, e1, h⟩ := Option.bind_eq_some_iff.mp h
  obtain ⟨⟨d2, S2⟩, e2, h⟩ := Option.map_eq_some_iff.mp h
  cases h
  exact (pa_cons (he r S _ _ e1) (hes r S1 _ _ e2) (star_of hx)).wk fun σ H Q ⟨G, B, R, RS, q⟩ => ⟨G, B, R, RS, fun v H1 G1 B1 st rs dt => ⟨G1, B1, R.step st, rs, fun vs H2 G2 B2 st2 rs2 ds => q (v :: vs) H2 G2 B2 (st.trans st2) rs2 ⟨v, vs, rfl, st2.dat dt, ds⟩⟩⟩

theorem sa_star {e : E} {es : List E} {x : Expr} {xs : List Expr} {pos : Pos} (he : SB P cf fa H0 X x e) (hes : SA P cf fa H0 X xs es) : SA P cf fa H0 X (.Starred x pos :: xs) (.star e :: es) := fun r S ds S' h => by
  simp only [evEs] at h
  obtain ⟨⟨d1, S1⟩, e1, h⟩ := Option.bind_eq_some_iff.mp h
  obtain ⟨ys, e2, h⟩ := Option.bind_eq_some_iff.mp h
  obtain ⟨⟨d3, S3⟩, e3, h⟩ := Option.map_eq_some_iff.mp h
  cases h
  refine (StX.pa_star (he r S _ _ e1) (hes r S1 _ _ e3)).wk fun σ H Q ⟨G, B, R, RS, q⟩ => ⟨G, B, R, RS, fun v H1 G1 B1 own st rs ok => ?_⟩
  have rb := Rb.of ok rs
  have key : ∃ a ws, v = .ref a ∧ (SqT X.K H1 a ws ∨ SqL X.K H1 a ws) ∧ Dats X.K fa G1 B1 ws ys := by
    unfold itemsD at e2
    split at e2
    · rename_i zs ez
      cases e2
      obtain ⟨a, ws, e, h1, h2⟩ := rb.seq rs.sub ez
      exact ⟨a, ws, e, .inr h1, h2⟩
    · rename_i zs ez
      cases e2
      have ez' := wk_eq ez (fun _ z => by cases z)
      rw [ez'] at rb
      obtain ⟨a, ws, e, h1, h2, _⟩ := rb.tup rs.sub
      exact ⟨a, ws, e, .inl h1, h2⟩
    · cases e2
  obtain ⟨a, ws, rfl, hs, hd⟩ := key
  exact ⟨a, ws, rfl, hs, ⟨G1, B1, R.step st, rs, fun vs H2 G2 B2 st2 rs2 ds => q (ws ++ vs) H2 G2 B2 (st.trans st2) rs2 ((st2.dats hd).app ds)⟩⟩
end
end Pv

set_option Elab.async false
set_option linter.all false
set_option maxRecDepth 100000
/-! SndE: displays, subscripts, calls. -/
namespace Pv
open PySem PySem.Spec PyProof.Rows L2

section
variable {P : Prg} {cf : Nat → List D → Sto → Option (D × Sto)} {fa : Nat → Addr} {H0 : Hp} {X : Cx} {N : List Str} {sc : Scope}

theorem s_tup {es : List E} {xs : List Expr} {k : Nat} {pos : Pos} (h : SA P cf fa H0 X xs es) : SE P cf fa H0 X (.Tuple xs k pos) (.tup es) := by
  intro r S d S' hv
  simp only [evE] at hv
  obtain ⟨⟨ds, S1⟩, e1, hv⟩ := Option.bind_eq_some_iff.mp hv
  split at hv
  · rename_i c
    cases hv
    refine (pe_tup (h r S _ _ e1)).wk fun σ H Q ⟨G, B, R, RS, q⟩ => ⟨G, B, R, RS, fun vs H1 G1 B1 st rs dt => ⟨?_, fun p hp => ?_⟩⟩
    · rw [Dats.length _ _ dt, sizeLine_eq]; have c' : ds.length ≤ 100000 := c; omega
    · obtain ⟨st2, rs2⟩ := rs.lay (o := .tup vs) hp
      exact q _ _ _ _ (st.trans st2) rs2 ⟨p, vs, rfl, .inl (.inl upd_same), st2.dats dt⟩
  · cases hv

variable (P cf fa H0 X)
/-- a new list, not yet given away -/
def TF (K : PySem.W.Frag) (r : Rho) (S : Sto) (ds : List D) (S' : Sto) : TE := fun σ H Q => ∃ G B, RelR K fa H0 r σ H G B ∧ RelH K fa S H G B ∧
  ∀ p vs H' G' B', H' p = none → Stp H G B H' G' B' → RelH K fa S' H' G' B' → Dats K fa G' B' vs ds → Q (.ref p) (upd H' p (.lst vs))
def SF (x : Expr) (e : E) : Prop := ∀ r S d S', evE P cf e r S = some (d, S') → ∃ ds, d = .lst ds ∧ PE X x (TF fa H0 X.K r S ds S')
variable {P cf fa H0 X}
/-- a new list that never changes -/
theorem SF.e {x : Expr} {e : E} (h : SF P cf fa H0 X x e) : SE P cf fa H0 X x e := fun r S d S' hv => by
  obtain ⟨ds, rfl, h⟩ := h r S d S' hv
  refine h.wk fun σ H Q ⟨G, B, R, RS, q⟩ => ⟨G, B, R, RS, fun p vs H' G' B' hp st rs dt => ?_⟩
  obtain ⟨st2, rs2⟩ := rs.lay (o := .lst vs) hp
  exact q _ _ _ _ (st.trans st2) rs2 ⟨p, vs, rfl, upd_same, st2.dats dt⟩

theorem f_lst {es : List E} {xs : List Expr} {pos : Pos} (h : SA P cf fa H0 X xs es) : SF P cf fa H0 X (.List xs pos) (.lst es) := by
  intro r S d S' hv
  simp only [evE] at hv
  obtain ⟨⟨ds, S1⟩, e1, hv⟩ := Option.bind_eq_some_iff.mp hv
  split at hv
  · rename_i c
    cases hv
    refine ⟨ds, rfl, (pe_lst (h r S _ _ e1)).wk fun σ H Q ⟨G, B, R, RS, q⟩ => ⟨G, B, R, RS, fun vs H1 G1 B1 st rs dt => ⟨?_, fun p hp => q p vs H1 G1 B1 hp st rs dt⟩⟩⟩
    rw [Dats.length _ _ dt, sizeLine_eq]; have c' : ds.length ≤ 100000 := c; omega
  · cases hv
theorem s_box {es : List E} {xs : List Expr} {pos : Pos} (h : SA P cf fa H0 X xs es) : SE P cf fa H0 X (.List xs pos) (.box es) := by
  intro r S d S' hv
  simp only [evE] at hv
  obtain ⟨⟨ds, S1⟩, e1, hv⟩ := Option.bind_eq_some_iff.mp hv
  split at hv
  · rename_i c
    cases hv
    obtain ⟨c1, c2⟩ := Bool.and_eq_true_iff.mp c
    have c2' : ds.length ≤ 100000 := of_decide_eq_true c2
    refine (pe_lst (h r S _ _ e1)).wk fun σ H Q ⟨G, B, R, RS, q⟩ => ⟨G, B, R, RS, fun vs H1 G1 B1 st rs dt => ⟨?_, fun p hp => ?_⟩⟩
    · rw [Dats.length _ _ dt, sizeLine_eq]; omega
    · obtain ⟨st2, rs2⟩ := rs.layB hp dt c1
      exact q _ _ _ _ (st.trans st2) rs2 ⟨p, rfl, by rw [List.getElem?_append_right (by rw [rs.len]; exact Nat.le_refl _), rs.len, Nat.sub_self]; rfl⟩
  · cases hv

/-! subscripts -/
theorem atI_dat {K : PySem.W.Frag} {G : Hp} {B : List Addr} {vs : List V} {ds : List D} {i : Int} {d : D} (h : Dats K fa G B vs ds) (e : atI ds i = some d) : ∃ v, atI vs i = some v ∧ Dat K fa G B v d := by
  unfold atI at e ⊢
  obtain ⟨j, e1, e2⟩ := Option.bind_eq_some_iff.mp e
  obtain ⟨v, e3, q⟩ := Dats.get h e2
  rw [Dats.length _ _ h, e1]
  exact ⟨v, e3, q⟩
theorem s_idx {a i : E} {xa xi : Expr} {pos : Pos} (ha : SB P cf fa H0 X xa a) (hi : SE P cf fa H0 X xi i) (hx : okIx xi = true) : SE P cf fa H0 X (.Subscript xa xi pos) (.idx a i) := by
  intro r S d S' h
  simp only [evE] at h
  obtain ⟨⟨d1, S1⟩, e1, h⟩ := Option.bind_eq_some_iff.mp h
  obtain ⟨⟨d2, S2⟩, e2, h⟩ := Option.bind_eq_some_iff.mp h
  obtain ⟨d', e3, h⟩ := Option.map_eq_some_iff.mp h
  cases h
  unfold idxD at e3
  split at e3
  · rename_i ys k ey ek
    have ek' : d2 = .int k := ek
    subst ek'
    refine (pe_ix ix_list (ha r S _ _ e1) (hi r S1 _ _ e2) (ix_of hx)).wk fun σ H Q ⟨G, B, R, RS, q⟩ => ⟨G, B, R, RS, fun v1 H1 G1 B1 own st rs ok => ⟨G1, B1, R.step st, rs, fun v2 H2 G2 B2 st2 rs2 dt2 => ?_⟩⟩
    obtain ⟨p, vs, rfl, h1, dts⟩ := (Rb.of (ok.step st2) rs2).seq rs2.sub ey
    obtain ⟨v, ev, dv⟩ := atI_dat dts e3
    exact ⟨p, vs, _, v, rfl, dt2, h1, ev, q v H2 G2 B2 (st.trans st2) rs2 dv⟩
  · rename_i ys k ey ek
    have ek' : d2 = .int k := ek
    subst ek'
    have ey' := wk_eq ey (fun _ z => by cases z)
    refine (pe_ix ix_tup (ha r S _ _ e1) (hi r S1 _ _ e2) (ix_of hx)).wk fun σ H Q ⟨G, B, R, RS, q⟩ => ⟨G, B, R, RS, fun v1 H1 G1 B1 own st rs ok => ⟨G1, B1, R.step st, rs, fun v2 H2 G2 B2 st2 rs2 dt2 => ?_⟩⟩
    have rb := Rb.of (ok.step st2) rs2
    rw [ey'] at rb
    obtain ⟨p, vs, rfl, h1, dts, _⟩ := rb.tup rs2.sub
    obtain ⟨v, ev, dv⟩ := atI_dat dts e3
    exact ⟨p, vs, _, v, rfl, dt2, h1, ev, q v H2 G2 B2 (st.trans st2) rs2 dv⟩
  · rename_i z k ey ek
    have ek' : d2 = .int k := ek
    subst ek'
    have ey' := wk_eq ey (fun _ z => by cases z)
    split at e3
    · rename_i c
      obtain ⟨ch, e4, rfl⟩ := Option.map_eq_some_iff.mp e3
      refine (pe_ix ix_str (ha r S _ _ e1) (hi r S1 _ _ e2) (ix_of hx)).wk fun σ H Q ⟨G, B, R, RS, q⟩ => ⟨G, B, R, RS, fun v1 H1 G1 B1 own st rs ok => ⟨G1, B1, R.step st, rs, fun v2 H2 G2 B2 st2 rs2 dt2 => ?_⟩⟩
      have rb := Rb.of (ok.step st2) rs2
      rw [ey'] at rb
      exact ⟨z, _, ch, rb.str, dt2, by rw [sizeLine_eq]; omega, e4, q _ H2 G2 B2 (st.trans st2) rs2 rfl⟩
    · cases e3
  · cases e3

variable (P cf fa H0 X)
def SO (x : Option Expr) (e : Option E) : Prop := ∀ r S o S', evO P cf e r S = some (o, S') → PO X x (TOp X.K fa H0 r S o S')
variable {P cf fa H0 X}
theorem so_none : SO P cf fa H0 X none none := fun r S o S' h => by
  have e : ((none : Option Int), S) = (o, S') := Option.some.inj (by simpa only [evO] using h)
  cases e
  exact ⟨fun pins s σ H Q I ⟨G, B, R, RS, q⟩ => po_none.run pins s σ H Q I (q H G B .refl RS)⟩
theorem so_some {x : Expr} {e : E} (he : SE P cf fa H0 X x e) : SO P cf fa H0 X (some x) (some e) := fun r S o S' h => by
  simp only [evO] at h
  obtain ⟨⟨d1, S1⟩, e1, h⟩ := Option.bind_eq_some_iff.mp h
  cases d1 <;> first | cases h | skip
  exact ⟨fun pins s σ H Q I ⟨G, B, R, RS, q⟩ => (po_some (he r S _ _ e1)).run pins s σ H Q I ⟨G, B, R, RS, fun v H1 G1 B1 st rs dt => ⟨_, dt, q H1 G1 B1 st rs⟩⟩⟩

theorem cut_dats {K : PySem.W.Frag} {G : Hp} {B : List Addr} {vs : List V} {ds : List D} {lo hi : Option Int} (h : Dats K fa G B vs ds) : Dats K fa G B (cutV vs lo hi) (cutD ds lo hi) := by
  have e := Dats.length _ _ h
  unfold cutV cutD
  rw [e]
  exact Dats.take _ (Dats.drop _ h)
theorem cut_whole {α : Type} {xs : List α} {lo hi : Option Int} (h : HT.sIx xs.length 0 lo = 0 ∧ HT.sIx xs.length xs.length hi = xs.length) : cutD xs lo hi = xs := by
  unfold cutD
  rw [h.1, h.2]
  simp
theorem s_slc {a : E} {lo hi : Option E} {xa : Expr} {xlo xhi : Option Expr} {p2 pos : Pos} (ha : SB P cf fa H0 X xa a) (hl : SO P cf fa H0 X xlo lo) (hh : SO P cf fa H0 X xhi hi) :
    SE P cf fa H0 X (.Subscript xa (.Slice xlo xhi none p2) pos) (.slc a lo hi) := by
  intro r S d S' h
  simp only [evE] at h
  obtain ⟨⟨d1, S1⟩, e1, h⟩ := Option.bind_eq_some_iff.mp h
  obtain ⟨⟨o1, S2⟩, e2, h⟩ := Option.bind_eq_some_iff.mp h
  obtain ⟨⟨o2, S3⟩, e3, h⟩ := Option.bind_eq_some_iff.mp h
  obtain ⟨d', e4, h⟩ := Option.map_eq_some_iff.mp h
  cases h
  unfold slcD at e4
  split at e4
  · rename_i ys _ _ ey
    cases e4
    refine (pe_slice sl_list (ha r S _ _ e1) (hl r S1 _ _ e2) (hh r S2 _ _ e3)).wk fun σ H Q ⟨G, B, R, RS, q⟩ => ⟨G, B, R, RS, fun v1 H1 G1 B1 own st rs ok => ⟨G1, B1, R.step st, rs, fun H2 G2 B2 st2 rs2 =>
      ⟨G2, B2, (R.step st).step st2, rs2, fun H3 G3 B3 st3 rs3 => ?_⟩⟩⟩
    obtain ⟨p, vs, rfl, h1, dts⟩ := (Rb.of ((ok.step st2).step st3) rs3).seq rs3.sub ey
    refine ⟨p, vs, rfl, h1, fun p2 hp => ?_⟩
    obtain ⟨st4, rs4⟩ := rs3.lay (o := .lst (cutV vs o1 o2)) hp
    exact q _ _ _ _ (((st.trans st2).trans st3).trans st4) rs4 ⟨p2, _, rfl, upd_same, st4.dats (cut_dats dts)⟩
  · rename_i ys _ _ ey
    cases e4
    have ey' := wk_eq ey (fun _ z => by cases z)
    refine (pe_slice sl_tupA (ha r S _ _ e1) (hl r S1 _ _ e2) (hh r S2 _ _ e3)).wk fun σ H Q ⟨G, B, R, RS, q⟩ => ⟨G, B, R, RS, fun v1 H1 G1 B1 own st rs ok => ⟨G1, B1, R.step st, rs, fun H2 G2 B2 st2 rs2 =>
      ⟨G2, B2, (R.step st).step st2, rs2, fun H3 G3 B3 st3 rs3 => ?_⟩⟩⟩
    have rb := Rb.of ((ok.step st2).step st3) rs3
    rw [ey'] at rb
    obtain ⟨p, vs, rfl, h1, dts, hg⟩ := rb.tup rs3.sub
    have ln := Dats.length _ _ dts
    refine ⟨p, vs, rfl, h1, fun hw => ?_, fun hw p2 hp => ?_⟩
    · rw [ln] at hw
      have q' := q (.ref p) H3 G3 B3 ((st.trans st2).trans st3) rs3
      rw [cut_whole hw] at q'
      exact q' ⟨p, vs, rfl, hg, dts⟩
    · obtain ⟨st4, rs4⟩ := rs3.lay (o := .tup (cutV vs o1 o2)) hp
      exact q _ _ _ _ (((st.trans st2).trans st3).trans st4) rs4 ⟨p2, _, rfl, .inl (.inl upd_same), st4.dats (cut_dats dts)⟩
  · cases e4

theorem f_rev {a : E} {xa : Expr} {k : Nat} {p1 p2 p3 pos : Pos} (ha : SB P cf fa H0 X xa a) : SF P cf fa H0 X (.Subscript xa (.Slice none none (some (.UnaryOp .USub (.Constant (.int 1) k p1) p2)) p3) pos) (.rev a) := by
  intro r S d S' h
  simp only [evE] at h
  obtain ⟨⟨d1, S1⟩, e1, h⟩ := Option.bind_eq_some_iff.mp h
  obtain ⟨d', e4, h⟩ := Option.map_eq_some_iff.mp h
  cases h
  unfold revD at e4
  split at e4
  · rename_i ys ey
    cases e4
    refine ⟨_, rfl, (pe_revL (ha r S _ _ e1)).wk fun σ H Q ⟨G, B, R, RS, q⟩ => ⟨G, B, R, RS, fun v1 H1 G1 B1 own st rs ok => ?_⟩⟩
    have rb := Rb.of ok rs
    rw [ey] at rb
    obtain ⟨p, vs, rfl, h1, dts⟩ := rb.lst rs.sub
    exact ⟨p, vs, rfl, .of h1, fun p2 hp => q p2 _ H1 G1 B1 hp st rs (Dats.rev dts)⟩
  · cases e4

/-! calls of defs -/
theorem sp_go {K : PySem.W.Frag} {np : Nat} {ev : List D → Sto → Option (D × Sto)} {vs : List V} {H G : Hp} {B : List Addr} {S S' : Sto} {ds : List D} {d : D} {Q : VK} (hl : vs.length = np) (RS : RelH K fa S H G B) (dt : Dats K fa G B vs ds) (e : ev ds S = some (d, S'))
    (q : ∀ v H' G' B', Stp H G B H' G' B' → RelH K fa S' H' G' B' → Dat K fa G' B' v d → Q v H') : spOf K fa np ev vs H Q := ⟨hl, G, B, S, ds, d, S', RS, dt, e, q⟩

theorem run_call (W : Wd P cf fa X N sc) {j : Nat} {g : Fn} (hj : P.fns[j]? = some g) {pins : List (Addr × Obj)} {σ : Slots} {H G : Hp} {B : List Addr} {s : Shared} {Q : VK} {us : List Value} {vs : List V} {ds : List D} {S S' : Sto} {d : D}
    (I : Inv X pins σ H s) (r : Vals vs us) (RS : RelH X.K fa S H G B) (dt : Dats X.K fa G B vs ds) (e : cf j ds S = some (d, S')) (hl : ds.length = g.np)
    (q : ∀ v H' G' B', Stp H G B H' G' B' → RelH X.K fa S' H' G' B' → Dat X.K fa G' B' v d → Q v H') : wpAny (model X.prog X.w) X.A (call (.ref (fa j)) us) (EP X pins σ Q) X.xe s := by
  obtain ⟨k, hr, hf⟩ := W.run
  obtain ⟨fd, ⟨hb, _⟩, F⟩ := hf j g hj
  have sp : spOf X.K fa g.np (cf j) vs H Q := sp_go (by rw [Dats.length _ _ dt, hl]) RS dt e q
  have ln : (us ++ ([] : List Value)).length = (g.N.take g.np).length := by rw [List.append_nil, ← r.length]; exact F.len vs H Q sp
  have hb' := hb s us I.kIn ln
  rw [List.append_nil] at hb'
  refine wpAny_call (codeAny_mono (runG F hr W.gd hb' I r sp) fun res s' hq => ?_)
  cases res with
  | error e => exact hq
  | ok fl =>
    cases fl with
    | ret u => exact hq
    | next => exact False.elim hq
    | brk => exact False.elim hq
    | cont => exact False.elim hq

/-- the callee's number of arguments is right where it gives an answer -/
def Arity (P : Prg) (cf : Nat → List D → Sto → Option (D × Sto)) : Prop := ∀ (j : Nat) (g : Fn) (ds : List D) (S : Sto) (p : D × Sto), P.fns[j]? = some g → cf j ds S = some p → ds.length = g.np

theorem s_call (W : Wd P cf fa X N sc) (ar : Arity P cf) {j : Nat} {g : Fn} (hj : P.fns[j]? = some g) {es : List E} {x : Expr} {xs : List Expr} {p pos : Pos} (hg : Gl X g.name) (hd : (g.name == ("__debug__" : Str)) = false) (hx : noStar x = true) (hxs : xs.all noStar = true)
    (ha : SA P cf fa H0 X (x :: xs) es) : SE P cf fa H0 X (.Call (.Name g.name p) (x :: xs) [] pos) (.call j es) := by
  intro r S d S' h
  simp only [evE] at h
  obtain ⟨⟨ds, S1⟩, e1, h⟩ := Option.bind_eq_some_iff.mp h
  refine ⟨fun pins s σ H Q I ⟨G, B, R, RS, q⟩ => ?_⟩
  refine wpAny_Call_Name_kw (ld_glob I hg (W.fnv j g hj).1 ?_ hd)
  refine PySem.W.callWith_K (h₀ := X.base) I.ok.mod.kin (W.fnv j g hj).2 (thn ((ha r S _ _ e1).run pos pins s σ H (fun vs H1 => ∃ G1 B1, Stp H G B H1 G1 B1 ∧ RelH X.K fa S1 H1 G1 B1 ∧ Dats X.K fa G1 B1 vs ds) I ⟨G, B, R, RS, fun vs H1 G1 B1 st rs dt => ⟨G1, B1, st, rs, dt⟩⟩) fun us s1 ⟨vs, H1, I1, rv, G1, B1, st, rs, dt⟩ => ⟨I1.kIn, ?_⟩) (star_of hx) (plain_of hxs)
  exact run_call W hj I1 rv rs dt h (ar j g ds S1 _ hj h) fun v H' G' B' st2 rs2 dv => q v H' G' B' (st.trans st2) rs2 dv
theorem s_call0 (W : Wd P cf fa X N sc) (ar : Arity P cf) {j : Nat} {g : Fn} (hj : P.fns[j]? = some g) {p pos : Pos} (hg : Gl X g.name) (hd : (g.name == ("__debug__" : Str)) = false) : SE P cf fa H0 X (.Call (.Name g.name p) [] [] pos) (.call j []) := by
  intro r S d S' h
  simp only [evE, evEs, Option.bind_some] at h
  refine ⟨fun pins s σ H Q I ⟨G, B, R, RS, q⟩ => ?_⟩
  refine wpAny_Call_Name_kw (ld_glob I hg (W.fnv j g hj).1 ?_ hd)
  exact PySem.W.callWith_K0 I.kIn (W.fnv j g hj).2 (run_call W hj (us := []) (vs := []) (ds := []) I .nil RS (show Dats X.K fa G B [] [] from rfl) h (ar j g [] S _ hj h) q)
end
end Pv

set_option Elab.async false
set_option linter.all false
set_option maxRecDepth 100000
/-! SndF: calls with keywords, built-ins. -/
namespace Pv
open PySem PySem.Spec PyProof.Rows L2

section
variable {P : Prg} {cf : Nat → List D → Sto → Option (D × Sto)} {fa : Nat → Addr} {H0 : Hp} {X : Cx} {N : List Str} {sc : Scope}

/-! keywords -/
variable (P cf fa H0 X)
def SK (xs : List Keyword) (es : List E) : Prop := ∀ r S ds S', evEs P cf es r S = some (ds, S') → PK X xs (TDs X.K fa H0 r S ds S')
variable {P cf fa H0 X}
theorem sk_nil : SK P cf fa H0 X [] [] := fun r S ds S' h => by
  have e : (([] : List D), S) = (ds, S') := Option.some.inj (by simpa only [evEs] using h)
  cases e
  exact ⟨fun pos pins s σ H Q I ⟨G, B, R, RS, q⟩ => pk_nil.run pos pins s σ H Q I (q [] H G B .refl RS rfl)⟩
theorem sk_cons {e : E} {es : List E} {nm : Option Str} {x : Expr} {kp : Pos} {xs : List Keyword} (n : ∀ y, e ≠ .star y) (he : SE P cf fa H0 X x e) (hes : SK P cf fa H0 X xs es) : SK P cf fa H0 X (⟨nm, x, kp⟩ :: xs) (e :: es) := fun r S ds S' h => by
  rw [evEs_cons n] at h
  obtain ⟨⟨d1, S1⟩, e1, h⟩ := Option.bind_eq_some_iff.mp h
  obtain ⟨⟨d2, S2⟩, e2, h⟩ := Option.map_eq_some_iff.mp h
  cases h
  exact ⟨fun pos pins s σ H Q I ⟨G, B, R, RS, q⟩ => (pk_cons (he r S _ _ e1) (hes r S1 _ _ e2)).run pos pins s σ H Q I ⟨G, B, R, RS, fun v H1 G1 B1 st rs dt => ⟨G1, B1, R.step st, rs, fun vs H2 G2 B2 st2 rs2 ds => q (v :: vs) H2 G2 B2 (st.trans st2) rs2 ⟨v, vs, rfl, st2.dat dt, ds⟩⟩⟩⟩
theorem kw_names {env : Env} {pos : Pos} : ∀ {xs : List Keyword} {ks : List Str}, xs.map (·.arg) = ks.map some →
    (backToKw pos (keywordEach xs env)).filterMap (·.1) = ks ∧ (backToKw pos (keywordEach xs env)).all (·.1.isSome) = true ∧ (backToKw pos (keywordEach xs env)).any (·.1.isNone) = false
  | [], ks, h => by
    cases ks with
    | nil => exact ⟨rfl, rfl, rfl⟩
    | cons _ _ => simp at h
  | ⟨a, e, p⟩ :: xs, ks, h => by
    cases ks with
    | nil => simp at h
    | cons k ks =>
      simp only [List.map_cons, List.cons.injEq] at h
      obtain ⟨h1, h2⟩ := h
      subst h1
      obtain ⟨i1, i2, i3⟩ := kw_names (env := env) (pos := pos) h2
      refine ⟨?_, ?_, ?_⟩
      · show List.filterMap (·.1) ((some k, _) :: backToKw pos (keywordEach xs env)) = _
        rw [List.filterMap_cons]
        show k :: List.filterMap (fun x => x.fst) (backToKw pos (keywordEach xs env)) = _
        rw [i1]
      · show ((some k).isSome && (backToKw pos (keywordEach xs env)).all (·.1.isSome)) = true
        rw [i2]; rfl
      · show ((some k).isNone || (backToKw pos (keywordEach xs env)).any (·.1.isNone)) = false
        rw [i3]; rfl

theorem pick_dats {K : PySem.W.Frag} {G : Hp} {B : List Addr} {vs : List V} {ds : List D} (h : Dats K fa G B vs ds) : ∀ {perm : List Nat} {es : List D}, pick perm ds = some es → ∃ ws, pick perm vs = some ws ∧ Dats K fa G B ws es
  | [], _, e => by cases e; exact ⟨[], rfl, rfl⟩
  | k :: ks, _, e => by
    obtain ⟨d, e1, e2⟩ := Option.bind_eq_some_iff.mp e
    obtain ⟨rd, e3, rfl⟩ := Option.map_eq_some_iff.mp e2
    obtain ⟨v, f1, q1⟩ := Dats.get h e1
    obtain ⟨ws, f2, q2⟩ := pick_dats h e3
    exact ⟨v :: ws, by unfold pick; rw [f1, f2]; rfl, v, ws, rfl, q1, q2⟩
theorem pick_vals {vs : List V} {us : List Value} (h : Vals vs us) : ∀ {perm : List Nat} {ws : List V}, pick perm vs = some ws → ∃ zs, pick perm us = some zs ∧ Vals ws zs
  | [], _, e => by cases e; exact ⟨[], rfl, .nil⟩
  | k :: ks, _, e => by
    obtain ⟨d, e1, e2⟩ := Option.bind_eq_some_iff.mp e
    obtain ⟨rd, e3, rfl⟩ := Option.map_eq_some_iff.mp e2
    obtain ⟨v, f1, q1⟩ := h.get e1
    obtain ⟨ws, f2, q2⟩ := pick_vals h e3
    exact ⟨v :: ws, by unfold pick; rw [f1, f2]; rfl, .cons q1 q2⟩

theorem run_callk (W : Wd P cf fa X N sc) {q : Nat} {w : Kwf} (hw : P.kws[q]? = some w) {g : Fn} (hj : P.fns[w.f]? = some g) {pins : List (Addr × Obj)} {σ : Slots} {H G : Hp} {B : List Addr} {s : Shared} {Q : VK} {us ws : List Value} {vs xs : List V} {ds es fs : List D} {S S' : Sto} {d : D}
    (I : Inv X pins σ H s) (r : Vals vs us) (r2 : Vals xs ws) (RS : RelH X.K fa S H G B) (dt : Dats X.K fa G B vs ds) (dt2 : Dats X.K fa G B xs es) (pk : pick w.perm (ds ++ es) = some fs) (e : cf w.f fs S = some (d, S')) (hl : fs.length = g.np)
    (n1 : us.length = w.n) (n2 : ws.length = w.ks.length)
    (k : ∀ v H' G' B', Stp H G B H' G' B' → RelH X.K fa S' H' G' B' → Dat X.K fa G' B' v d → Q v H') : wpAny (model X.prog X.w) X.A (call (.ref (fa w.f)) us (w.ks.zip ws)) (EP X pins σ Q) X.xe s := by
  obtain ⟨lv, hr, hf⟩ := W.run
  obtain ⟨fd, ⟨_, hb⟩, F⟩ := hf w.f g hj
  obtain ⟨ys, p1, dy⟩ := pick_dats (dt.app dt2) pk
  obtain ⟨zs, p2, vz⟩ := pick_vals (r.append r2) p1
  have sp : spOf X.K fa g.np (cf w.f) ys H Q := sp_go (by rw [Dats.length _ _ dy, hl]) RS dy e k
  refine wpAny_call (codeAny_mono (runG F hr W.gd (hb q w hw rfl s us ws zs n1 n2 p2) I vz sp) fun res s' hq => ?_)
  cases res with
  | error e => exact hq
  | ok fl =>
    cases fl with
    | ret u => exact hq
    | next => exact False.elim hq
    | brk => exact False.elim hq
    | cont => exact False.elim hq

theorem s_callk0 (W : Wd P cf fa X N sc) (ar : Arity P cf) {q : Nat} {w : Kwf} (hw : P.kws[q]? = some w) {g : Fn} (hj : P.fns[w.f]? = some g) {ks : List E} {kws : List Keyword} {p pos : Pos} (hg : Gl X g.name) (hd : (g.name == ("__debug__" : Str)) = false) (hk : kws.map (·.arg) = w.ks.map some)
    (ha : SK P cf fa H0 X kws ks) : SE P cf fa H0 X (.Call (.Name g.name p) [] kws pos) (.callk q [] ks) := by
  intro r S d S' h
  simp only [evE, evEs, hw, Option.bind_some, List.nil_append] at h
  obtain ⟨⟨es, S1⟩, e1, h⟩ := Option.bind_eq_some_iff.mp h
  by_cases c : ([] : List D).length = w.n ∧ es.length = w.ks.length
  case neg => rw [if_neg c] at h; cases h
  rw [if_pos c] at h
  obtain ⟨fs, e2, h⟩ := Option.bind_eq_some_iff.mp h
  obtain ⟨k1, k2, k3⟩ := kw_names (env := X.env) (pos := pos) hk
  refine ⟨fun pins s σ H Q I ⟨G, B, R, RS, k⟩ => ?_⟩
  refine wpAny_Call_Name_kw (ld_glob I hg (W.fnv w.f g hj).1 ?_ hd)
  refine PySem.W.callWith_KW0 (h₀ := X.base) I.ok.mod.kin (W.fnv w.f g hj).2 k2 (thn ((ha r S _ _ e1).run pos pins s σ H (fun vs H1 => ∃ G1 B1, Stp H G B H1 G1 B1 ∧ RelH X.K fa S1 H1 G1 B1 ∧ Dats X.K fa G1 B1 vs es) I ⟨G, B, R, RS, fun vs H1 G1 B1 st rs dt => ⟨G1, B1, st, rs, dt⟩⟩) fun us s1 ⟨vs, H1, I1, rv, G1, B1, st, rs, dt⟩ => ⟨I1.kIn, ?_⟩) (by rw [k3]; rfl)
  rw [k1]
  have ln : us.length = w.ks.length := by
    have a2 := Dats.length _ _ dt
    have a3 := rv.length
    have a4 := c.2
    omega
  exact run_callk W hw hj (us := []) (vs := []) (ds := []) I1 .nil rv rs (show Dats X.K fa G1 B1 [] [] from rfl) dt e2 h (ar w.f g fs S1 _ hj h) c.1 ln fun v H' G' B' st2 rs2 dv => k v H' G' B' (st.trans st2) rs2 dv
theorem s_callk (W : Wd P cf fa X N sc) (ar : Arity P cf) {q : Nat} {w : Kwf} (hw : P.kws[q]? = some w) {g : Fn} (hj : P.fns[w.f]? = some g) {es ks : List E} {x : Expr} {xs : List Expr} {kws : List Keyword} {p pos : Pos} (hg : Gl X g.name) (hd : (g.name == ("__debug__" : Str)) = false)
    (hk : kws.map (·.arg) = w.ks.map some) (hx : noStar x = true) (hxs : xs.all noStar = true) (hp : SA P cf fa H0 X (x :: xs) es)
    (ha : SK P cf fa H0 X kws ks) : SE P cf fa H0 X (.Call (.Name g.name p) (x :: xs) kws pos) (.callk q es ks) := by
  intro r S d S' h
  simp only [evE, hw, Option.bind_some] at h
  obtain ⟨⟨ps, S0⟩, e0, h⟩ := Option.bind_eq_some_iff.mp h
  obtain ⟨⟨fs, S1⟩, e1, h⟩ := Option.bind_eq_some_iff.mp h
  by_cases c : ps.length = w.n ∧ fs.length = w.ks.length
  case neg => rw [if_neg c] at h; cases h
  rw [if_pos c] at h
  obtain ⟨gs, e2, h⟩ := Option.bind_eq_some_iff.mp h
  obtain ⟨k1, k2, k3⟩ := kw_names (env := X.env) (pos := pos) hk
  refine ⟨fun pins s σ H Q I ⟨G, B, R, RS, k⟩ => ?_⟩
  refine wpAny_Call_Name_kw (ld_glob I hg (W.fnv w.f g hj).1 ?_ hd)
  refine PySem.W.callWith_KW (h₀ := X.base) I.ok.mod.kin (W.fnv w.f g hj).2 k2 (thn ((hp r S _ _ e0).run pos pins s σ H (fun vs H1 => ∃ G1 B1, Stp H G B H1 G1 B1 ∧ RelH X.K fa S0 H1 G1 B1 ∧ Dats X.K fa G1 B1 vs ps) I ⟨G, B, R, RS, fun vs H1 G1 B1 st rs dt => ⟨G1, B1, st, rs, dt⟩⟩)
    fun us s1 ⟨vs, H1, I1, rv, G1, B1, st, rs, dt⟩ => thn ((ha r S0 _ _ e1).run pos pins s1 σ H1 (fun zs H2 => ∃ G2 B2, Stp H1 G1 B1 H2 G2 B2 ∧ RelH X.K fa S1 H2 G2 B2 ∧ Dats X.K fa G2 B2 zs fs) I1 ⟨G1, B1, R.step st, rs, fun zs H2 G2 B2 st2 rs2 dt2 => ⟨G2, B2, st2, rs2, dt2⟩⟩)
    fun ws s2 ⟨zs, H2, I2, rz, G2, B2, st2, rs2, dt2⟩ => ⟨I2.kIn, ?_⟩) (by rw [plain_of (es := x :: xs) (by rw [List.all_cons, hx, hxs]; rfl), k3]; rfl) (star_of hx)
  rw [k1]
  have l1 : us.length = w.n := by
    have a2 := Dats.length _ _ dt
    have a3 := rv.length
    have a4 := c.1
    omega
  have l2 : ws.length = w.ks.length := by
    have a2 := Dats.length _ _ dt2
    have a3 := rz.length
    have a4 := c.2
    omega
  exact run_callk W hw hj I2 rv rz rs2 (st2.dats dt) dt2 e2 h (ar w.f g gs S1 _ hj h) l1 l2 fun v H' G' B' st3 rs3 dv => k v H' G' B' ((st.trans st2).trans st3) rs3 dv

/-! ### built-ins of one argument -/
theorem Rb.wdp {K : PySem.W.Frag} {H G : Hp} {B : List Addr} {v : V} {d : D} {p : PyData} (h : Rb K fa H G B v d) (k : ∀ a o, G a = some o → H a = some o) (e : (wk d).py = some p) : Dp K H v p := by
  cases d with
  | fz xs =>
    obtain ⟨a, vs, rfl, h1, h2⟩ := h.seq k rfl
    obtain ⟨ps, hp, rfl⟩ := Option.map_eq_some_iff.mp (show (pys xs).map PyData.list = some p from e)
    exact .lst h1 (Dats.dp k xs vs ps hp h2)
  | _ => exact h.dp k e
theorem ref1 {a : Addr} {us : List Value} (r : Vals [V.ref a] us) : us = [.ref a] := by
  obtain ⟨u, rfl, h⟩ := vals1 r
  cases h
  rfl
def GoodC (K : PySem.W.Frag) (fa : Nat → Addr) (rd : List V → Hp → VK → Prop) (x d : D) : Prop := ∀ v H G B S Q, RelH K fa S H G B → Rb K fa H G B v x →
  (∀ v H' G' B', Stp H G B H' G' B' → RelH K fa S H' G' B' → Dat K fa G' B' v d → Q v H') → rd [v] H Q
/-- the built-in functions -/
def fnId : Bi → Option (String × String)
  | .abs => some ("abs", "abs")
  | .len => some ("len", "len")
  | .all => some ("all", "all")
  | .any => some ("any", "any")
  | .sum => some ("sum", "sum")
  | .repr => some ("repr", "repr")
  | _ => none
def tyId : Bi → Option (String × String)
  | .tuple => some ("tuple", "tuple")
  | .list => some ("list", "list")
  | .int => some ("int", "int")
  | _ => none
theorem bools_dats {K : PySem.W.Frag} {G : Hp} {B : List Addr} : ∀ {ds : List D} {vs : List V} {bs : List Bool}, Dats K fa G B vs ds → boolsOf ds = some bs → vs = bs.map V.bl
  | [], _, _, h, e => by cases h; cases e; rfl
  | d :: ds, _, _, h, e => by
    obtain ⟨v, r, rfl, h1, h2⟩ := h
    cases d <;> first | cases e | skip
    obtain ⟨bs, e1, rfl⟩ := Option.map_eq_some_iff.mp (show (boolsOf ds).map _ = _ from e)
    cases h1
    rw [bools_dats h2 e1]
    rfl
theorem ints_dats {K : PySem.W.Frag} {G : Hp} {B : List Addr} : ∀ {ds : List D} {vs : List V} {bs : List Int}, Dats K fa G B vs ds → intsOf ds = some bs → vs = bs.map V.int
  | [], _, _, h, e => by cases h; cases e; rfl
  | d :: ds, _, _, h, e => by
    obtain ⟨v, r, rfl, h1, h2⟩ := h
    cases d <;> first | cases e | skip
    obtain ⟨bs, e1, rfl⟩ := Option.map_eq_some_iff.mp (show (intsOf ds).map _ = _ from e)
    cases h1
    rw [ints_dats h2 e1]
    rfl

theorem call_reprD (hg : X.A.guards = some []) (hu : X.A.units + 128 < cLine) : CallR X (.builtin "repr") (fun xs H Q => ∃ v p, xs = [v] ∧ Dp X.K H v p ∧ p.hasDict = false ∧ p.showable = true ∧ p.shown.length ≤ 100000 ∧ p.depth ≤ 40 ∧ Q (.str p.shown) H) := by
  intro pins s σ H xs us Q I r h
  obtain ⟨v, p, rfl, hd, hn, hs, hz, hdp, q⟩ := h
  obtain ⟨u, rfl, ru⟩ := vals1 r
  have hz' : p.shown.length ≤ sizeLine := by rw [sizeLine_eq]; omega
  cases hd with
  | non => cases ru; exact PySem.P.repr_of_none ⟨.str _, H, I.tok _, ⟨_, rfl⟩, q⟩
  | bl b => cases ru; exact PySem.P.repr_of_bool ⟨.str _, H, I.tok _, ⟨_, rfl⟩, q⟩
  | int i =>
    obtain ⟨t, rfl⟩ := ru
    exact PySem.P.repr_of_int (of_decide_eq_true hs) ⟨.str _, H, I.tok _, ⟨_, rfl⟩, q⟩
  | str x =>
    obtain ⟨t, rfl⟩ := ru
    exact PySem.P.repr_of_str ⟨.str _, H, I.tok _, ⟨_, rfl⟩, q⟩ hz'
  | lst h1 h2 =>
    cases ru
    obtain ⟨as, rd⟩ := Dp.reads I _ _ _ (.lst h1 h2) rfl
    exact repr_of_reads' rd hs (PyData.noDict_hsm hn) hg (by omega) (fun _ _ e => e) (fun h' u tk hk => ⟨.str _, H, I.kept hk, ⟨_, rfl⟩, q⟩) hz'
  | tup h1 h2 =>
    cases ru
    obtain ⟨as, rd⟩ := Dp.reads I _ _ _ (.tup h1 h2) rfl
    exact repr_of_reads' rd hs (PyData.noDict_hsm hn) hg (by omega) (fun _ _ e => e) (fun h' u tk hk => ⟨.str _, H, I.kept hk, ⟨_, rfl⟩, q⟩) hz'

mutual
theorem py_noDict : ∀ (d : D) (p : PyData), d.py = some p → p.hasDict = false
  | .non, p, e => by cases e; rfl
  | .bl b, p, e => by cases e; rfl
  | .int i, p, e => by cases e; rfl
  | .str s, p, e => by cases e; rfl
  | .tup ds, p, e => by
    obtain ⟨ps, hp, rfl⟩ := Option.map_eq_some_iff.mp (show (pys ds).map PyData.tuple = some p from e)
    show PyData.hasDictAll ps = false
    exact pys_noDict ds ps hp
  | .lst ds, p, e => by
    obtain ⟨ps, hp, rfl⟩ := Option.map_eq_some_iff.mp (show (pys ds).map PyData.list = some p from e)
    show PyData.hasDictAll ps = false
    exact pys_noDict ds ps hp
  | .fz n, p, e => by cases e
  | .ref n, p, e => by cases e
  | .fn n, p, e => by cases e
theorem pys_noDict : ∀ (ds : List D) (ps : List PyData), pys ds = some ps → PyData.hasDictAll ps = false
  | [], ps, e => by cases e; rfl
  | d :: ds, ps, e => by
    obtain ⟨y, hy, e2⟩ := Option.bind_eq_some_iff.mp (show (d.py.bind fun y => (pys ds).map fun ys => y :: ys) = some ps from e)
    obtain ⟨ys, hys, rfl⟩ := Option.map_eq_some_iff.mp e2
    show (PyData.hasDict y || PyData.hasDictAll ys) = false
    rw [py_noDict d y hy, pys_noDict ds ys hys]
    rfl
end

/-- one argument: a function -/
theorem fn1_ok (W : Wd P cf fa X N sc) {b : Bi} {nm id : String} {x d : D} (hb : fnId b = some (nm, id)) (h : biD b [wk x] = some d) : ∃ rd, CallR X (.builtin id) rd ∧ GoodC X.K fa rd x d := by
  cases b <;> first | cases hb | skip
  · -- abs
    generalize e : wk x = y at h
    cases y <;> first | cases h | skip
    rw [wk_eq e (fun _ z => by cases z)]
    exact ⟨_, call_abs, fun v H G B S Q RS r1 q => ⟨_, by rw [r1.int], q _ H G B .refl RS rfl⟩⟩
  · -- len
    generalize e : wk x = y at h
    cases y <;> first | cases h | skip
    · have h' : (if _ then _ else _) = some d := h
      split at h'
      · rename_i c
        cases h'
        rw [wk_eq e (fun _ z => by cases z)]
        exact ⟨_, call_len_str, fun v H G B S Q RS r1 q => ⟨_, by rw [r1.str], by rw [sizeLine_eq]; omega, q _ H G B .refl RS rfl⟩⟩
      · cases h'
    · rw [wk_eq e (fun _ z => by cases z)]
      refine ⟨_, call_len_seq, fun v H G B S Q RS r1 q => ?_⟩
      obtain ⟨a, vs, rfl, h1, h2, _⟩ := r1.tup RS.sub
      exact ⟨a, vs, rfl, .inr h1, q _ H G B .refl RS (by show V.int _ = V.int _; rw [Dats.length _ _ h2])⟩
    · refine ⟨_, call_len_seq, fun v H G B S Q RS r1 q => ?_⟩
      obtain ⟨a, vs, rfl, h1, h2⟩ := r1.seq RS.sub e
      exact ⟨a, vs, rfl, .inl h1, q _ H G B .refl RS (by show V.int _ = V.int _; rw [Dats.length _ _ h2])⟩
  · -- all
    generalize e : wk x = y at h
    cases y <;> first | cases h | skip
    obtain ⟨bs, e1, rfl⟩ := Option.map_eq_some_iff.mp (show (boolsOf _).map _ = some d from h)
    refine ⟨_, cr_all W.calm, fun v H G B S Q RS r1 q => ?_⟩
    obtain ⟨a, vs, rfl, h1, h2⟩ := r1.seq RS.sub e
    rw [bools_dats h2 e1] at h1
    exact ⟨a, bs, rfl, h1, q _ H G B .refl RS rfl⟩
  · -- any
    generalize e : wk x = y at h
    cases y <;> first | cases h | skip
    obtain ⟨bs, e1, rfl⟩ := Option.map_eq_some_iff.mp (show (boolsOf _).map _ = some d from h)
    refine ⟨_, cr_any W.calm, fun v H G B S Q RS r1 q => ?_⟩
    obtain ⟨a, vs, rfl, h1, h2⟩ := r1.seq RS.sub e
    rw [bools_dats h2 e1] at h1
    exact ⟨a, bs, rfl, h1, q _ H G B .refl RS rfl⟩
  · -- sum
    generalize e : wk x = y at h
    cases y <;> first | cases h | skip
    obtain ⟨bs, e1, rfl⟩ := Option.map_eq_some_iff.mp (show (intsOf _).map _ = some d from h)
    refine ⟨_, cr_sum W.calm, fun v H G B S Q RS r1 q => ?_⟩
    obtain ⟨a, vs, rfl, h1, h2⟩ := r1.seq RS.sub e
    rw [ints_dats h2 e1] at h1
    exact ⟨a, bs, rfl, h1, q _ H G B .refl RS rfl⟩
  · -- repr
    obtain ⟨p, e1, h2⟩ := Option.bind_eq_some_iff.mp (show ((wk x).py.bind _) = some d from h)
    split at h2
    · rename_i c
      cases h2
      obtain ⟨c1, c2⟩ := Bool.and_eq_true_iff.mp c
      obtain ⟨c3, c4⟩ := Bool.and_eq_true_iff.mp c1
      exact ⟨_, call_reprD W.gd W.un, fun v H G B S Q RS r1 q => ⟨v, p, rfl, r1.wdp RS.sub e1, py_noDict _ _ e1, c3, of_decide_eq_true c4, of_decide_eq_true c2, q _ H G B .refl RS rfl⟩⟩
    · cases h2
/-- one argument: a type -/
theorem ty1_ok {b : Bi} {nm T : String} {x d : D} (hb : tyId b = some (nm, T)) (h : biD b [wk x] = some d) (nl : b ≠ .list) : ∃ rd, CallR X (.type T) rd ∧ GoodC X.K fa rd x d := by
  cases b <;> first | cases hb | skip
  · -- tuple
    generalize e : wk x = y at h
    cases y <;> first | cases h | skip
    · rw [wk_eq e (fun _ z => by cases z)]
      refine ⟨_, call_tuple_of, fun v H G B S Q RS r1 q => ?_⟩
      obtain ⟨a, vs, rfl, h1, h2, h3⟩ := r1.tup RS.sub
      exact ⟨a, vs, rfl, .inr ⟨h1, q _ H G B .refl RS ⟨a, vs, rfl, h3, h2⟩⟩⟩
    · refine ⟨_, call_tuple_of, fun v H G B S Q RS r1 q => ?_⟩
      obtain ⟨a, vs, rfl, h1, h2⟩ := r1.seq RS.sub e
      refine ⟨a, vs, rfl, .inl ⟨h1, fun l hl => ?_⟩⟩
      obtain ⟨st2, rs2⟩ := RS.lay (o := .tup vs) hl
      exact q _ _ _ _ st2 rs2 ⟨l, vs, rfl, .inl (.inl upd_same), st2.dats h2⟩
  · exact absurd rfl nl
  · -- int
    generalize e : wk x = y at h
    cases y <;> first | cases h | skip
    · rw [wk_eq e (fun _ z => by cases z)]
      exact ⟨_, call_int1, fun v H G B S Q RS r1 q => .inr ⟨_, by rw [r1.bl], q _ H G B .refl RS rfl⟩⟩
    · rw [wk_eq e (fun _ z => by cases z)]
      exact ⟨_, call_int1, fun v H G B S Q RS r1 q => .inl ⟨_, by rw [r1.int], q _ H G B .refl RS rfl⟩⟩

theorem bi1_ev {b : Bi} {e : E} {r : Rho} {S S' : Sto} {d : D} (n : ∀ y, e ≠ .star y) (h : evE P cf (.bi b [e]) r S = some (d, S')) : ∃ x, evE P cf e r S = some (x, S') ∧ biD b [wk (deB S' x)] = some d := by
  simp only [evE] at h
  rw [evEs_cons n] at h
  simp only [evEs, Option.map_some] at h
  obtain ⟨⟨ds, S1⟩, e1, h⟩ := Option.bind_eq_some_iff.mp h
  obtain ⟨⟨x, S2⟩, e2, e3⟩ := Option.bind_eq_some_iff.mp e1
  cases e3
  obtain ⟨d', e4, h⟩ := Option.map_eq_some_iff.mp h
  cases h
  exact ⟨x, e2, e4⟩

theorem s_fn1 (W : Wd P cf fa X N sc) {b : Bi} {nm id : String} {e : E} {x : Expr} {p pos : Pos} (hb : fnId b = some (nm, id)) (hn : (nm : Str) ∈ biNames) (hg : Gl X (nm : Str)) (hx : noStar x = true) (ne : ∀ y, e ≠ .star y) (he : SB P cf fa H0 X x e) :
    SE P cf fa H0 X (.Call (.Name (nm : Str) p) [x] [] pos) (.bi b [e]) := by
  intro r S d S' h
  obtain ⟨y, e1, e2⟩ := bi1_ev ne h
  obtain ⟨rd, hc, good⟩ := fn1_ok W hb e2
  have hv : bootBuiltins (nm : Str) = some (.builtin id) ∧ (nm : Str) ≠ "__name__" ∧ ((nm : Str) == ("__debug__" : Str)) = false := by
    cases b <;> first | (cases hb; decide +kernel) | cases hb
  exact (pe_callB hc hg (W.bi _ hn) hv.1 (pa_cons (he r S _ _ e1) pa_nil (star_of hx)) hv.2.1 hv.2.2 (star_of hx) rfl).wk fun σ H Q ⟨G, B, R, RS, q⟩ => ⟨G, B, R, RS, fun v H1 G1 B1 own st rs ok =>
    good v H1 G1 B1 S' Q rs (.of ok rs) fun v2 H2 G2 B2 st2 rs2 dt => q v2 H2 G2 B2 (st.trans st2) rs2 dt⟩
theorem s_ty1 (W : Wd P cf fa X N sc) {b : Bi} {nm T : String} {e : E} {x : Expr} {p pos : Pos} (hb : tyId b = some (nm, T)) (nl : b ≠ .list) (hn : (nm : Str) ∈ biNames) (hg : Gl X (nm : Str)) (hx : noStar x = true) (ne : ∀ y, e ≠ .star y) (he : SB P cf fa H0 X x e) :
    SE P cf fa H0 X (.Call (.Name (nm : Str) p) [x] [] pos) (.bi b [e]) := by
  intro r S d S' h
  obtain ⟨y, e1, e2⟩ := bi1_ev ne h
  obtain ⟨rd, hc, good⟩ := ty1_ok (X := X) (fa := fa) hb e2 nl
  have hv : bootBuiltins (nm : Str) = some (.type T) ∧ (nm : Str) ≠ "__name__" ∧ ((nm : Str) == ("__debug__" : Str)) = false := by
    cases b <;> first | (cases hb; decide +kernel) | cases hb
  exact (pe_callTy hc hg (W.bi _ hn) hv.1 (pa_cons (he r S _ _ e1) pa_nil (star_of hx)) hv.2.1 hv.2.2 (star_of hx) rfl).wk fun σ H Q ⟨G, B, R, RS, q⟩ => ⟨G, B, R, RS, fun v H1 G1 B1 own st rs ok =>
    good v H1 G1 B1 S' Q rs (.of ok rs) fun v2 H2 G2 B2 st2 rs2 dt => q v2 H2 G2 B2 (st.trans st2) rs2 dt⟩
/-- list(x): a new list -/
theorem f_list (W : Wd P cf fa X N sc) {e : E} {x : Expr} {p pos : Pos} (hg : Gl X ("list" : Str)) (hx : noStar x = true) (ne : ∀ y, e ≠ .star y) (he : SB P cf fa H0 X x e) : SF P cf fa H0 X (.Call (.Name "list" p) [x] [] pos) (.bi .list [e]) := by
  intro r S d S' h
  obtain ⟨y, e1, e2⟩ := bi1_ev ne h
  have hv : bootBuiltins ("list" : Str) = some (.type "list") := by decide +kernel
  have key : ∃ ds, d = .lst ds ∧ ∀ v H G B, RelH X.K fa S' H G B → Rb X.K fa H G B v (deB S' y) → ∃ a vs, v = .ref a ∧ (SqL X.K H a vs ∨ SqT X.K H a vs) ∧ Dats X.K fa G B vs ds := by
    generalize hw : wk (deB S' y) = z at e2
    cases z <;> first | cases e2 | skip
    · refine ⟨_, rfl, fun v H G B RS rb => ?_⟩
      have hw' := wk_eq hw (fun _ z => by cases z)
      rw [hw'] at rb
      obtain ⟨a, vs, rfl, h1, h2, _⟩ := rb.tup RS.sub
      exact ⟨a, vs, rfl, .inr h1, h2⟩
    · refine ⟨_, rfl, fun v H G B RS rb => ?_⟩
      obtain ⟨a, vs, rfl, h1, h2⟩ := rb.seq RS.sub hw
      exact ⟨a, vs, rfl, .inl h1, h2⟩
  obtain ⟨ds, rfl, key⟩ := key
  refine ⟨ds, rfl, (pe_callTy call_list_of hg (W.bi _ (by decide +kernel)) hv (pa_cons (he r S _ _ e1) pa_nil (star_of hx)) (by decide) (by decide) (star_of hx) rfl).wk fun σ H Q ⟨G, B, R, RS, q⟩ => ⟨G, B, R, RS, fun v H1 G1 B1 own st rs ok => ?_⟩⟩
  obtain ⟨a, vs, rfl, h1, h2⟩ := key v H1 G1 B1 rs (.of ok rs)
  exact ⟨a, vs, rfl, h1, fun l hl => q l vs H1 G1 B1 hl st rs h2⟩

theorem bi2_ev {b : Bi} {e1 e2 : E} {r : Rho} {S S' : Sto} {d : D} (n1 : ∀ y, e1 ≠ .star y) (n2 : ∀ y, e2 ≠ .star y) (h : evE P cf (.bi b [e1, e2]) r S = some (d, S')) : ∃ x y S1, evE P cf e1 r S = some (x, S1) ∧ evE P cf e2 r S1 = some (y, S') ∧ biD b [wk (deB S' x), wk (deB S' y)] = some d := by
  simp only [evE] at h
  rw [evEs_cons n1] at h
  obtain ⟨⟨ds, S1⟩, f1, h⟩ := Option.bind_eq_some_iff.mp h
  obtain ⟨⟨x, S2⟩, f2, f3⟩ := Option.bind_eq_some_iff.mp f1
  rw [evEs_cons n2] at f3
  simp only [evEs, Option.map_some] at f3
  obtain ⟨⟨ys, S3⟩, f4, f5⟩ := Option.map_eq_some_iff.mp f3
  obtain ⟨⟨y, S4⟩, f6, f7⟩ := Option.bind_eq_some_iff.mp f4
  cases f7
  cases f5
  obtain ⟨d', f8, h⟩ := Option.map_eq_some_iff.mp h
  cases h
  exact ⟨x, y, S2, f2, f6, f8⟩
theorem s_mm (W : Wd P cf fa X N sc) {b : Bi} {nm : String} {e1 e2 : E} {x1 x2 : Expr} {p pos : Pos} (hb : (b = .max2 ∧ nm = "max") ∨ (b = .min2 ∧ nm = "min")) (hg : Gl X (nm : Str)) (h1 : noStar x1 = true) (h2 : noStar x2 = true)
    (n1 : ∀ y, e1 ≠ .star y) (n2 : ∀ y, e2 ≠ .star y) (he1 : SE P cf fa H0 X x1 e1) (he2 : SE P cf fa H0 X x2 e2) : SE P cf fa H0 X (.Call (.Name (nm : Str) p) [x1, x2] [] pos) (.bi b [e1, e2]) := by
  intro r S d S' h
  obtain ⟨x, y, S1, f1, f2, f3⟩ := bi2_ev n1 n2 h
  have arg := pa_cons (he1.b r S _ _ f1) (pa_cons (he2.b r S1 _ _ f2) pa_nil (star_of h2)) (star_of h1)
  have pl : (backTo pos (starEach [x2] X.env)).any (·.1) = false := plain_of (by rw [List.all_cons, h2]; rfl)
  rcases hb with ⟨rfl, rfl⟩ | ⟨rfl, rfl⟩
  · have key : ∃ i j : Int, deB S' x = .int i ∧ deB S' y = .int j ∧ d = .int (if j > i then j else i) := by
      generalize hx : wk (deB S' x) = u at f3
      generalize hy : wk (deB S' y) = v at f3
      cases u <;> first | cases f3 | skip
      cases v <;> first | cases f3 | skip
      exact ⟨_, _, wk_eq hx (fun _ z => by cases z), wk_eq hy (fun _ z => by cases z), rfl⟩
    obtain ⟨i, j, ex, ey, rfl⟩ := key
    refine (pe_callB (call_max2 W.calm) hg (W.bi _ (by decide +kernel)) (by decide +kernel) arg (by decide) (by decide) (star_of h1) pl).wk fun σ H Q ⟨G, B, R, RS, q⟩ => ⟨G, B, R, RS, fun v H1 G1 B1 own st rs ok => ⟨G1, B1, R.step st, rs, fun v2 H2 G2 B2 own2 st2 rs2 ok2 => ?_⟩⟩
    have r1 := Rb.of (ok.step st2) rs2
    have r2 := Rb.of ok2 rs2
    rw [ex] at r1
    rw [ey] at r2
    exact ⟨i, j, by rw [r1.int, r2.int], q _ H2 G2 B2 (st.trans st2) rs2 rfl⟩
  · have key : ∃ i j : Int, deB S' x = .int i ∧ deB S' y = .int j ∧ d = .int (if j < i then j else i) := by
      generalize hx : wk (deB S' x) = u at f3
      generalize hy : wk (deB S' y) = v at f3
      cases u <;> first | cases f3 | skip
      cases v <;> first | cases f3 | skip
      exact ⟨_, _, wk_eq hx (fun _ z => by cases z), wk_eq hy (fun _ z => by cases z), rfl⟩
    obtain ⟨i, j, ex, ey, rfl⟩ := key
    refine (pe_callB (call_min2 W.calm) hg (W.bi _ (by decide +kernel)) (by decide +kernel) arg (by decide) (by decide) (star_of h1) pl).wk fun σ H Q ⟨G, B, R, RS, q⟩ => ⟨G, B, R, RS, fun v H1 G1 B1 own st rs ok => ⟨G1, B1, R.step st, rs, fun v2 H2 G2 B2 own2 st2 rs2 ok2 => ?_⟩⟩
    have r1 := Rb.of (ok.step st2) rs2
    have r2 := Rb.of ok2 rs2
    rw [ex] at r1
    rw [ey] at r2
    exact ⟨i, j, by rw [r1.int, r2.int], q _ H2 G2 B2 (st.trans st2) rs2 rfl⟩
end
end Pv

set_option Elab.async false
set_option linter.all false
set_option maxRecDepth 100000
/-! SndG: isinstance, bit_length, what is walked, comprehensions. -/
namespace Pv
open PySem PySem.Spec PyProof.Rows L2

section
variable {P : Prg} {cf : Nat → List D → Sto → Option (D × Sto)} {fa : Nat → Addr} {H0 : Hp} {X : Cx} {N : List Str} {sc : Scope}

/-! isinstance -/
def isId : Bi → Option String
  | .isInt => some "int"
  | .isBool => some "bool"
  | .isTuple => some "tuple"
  | .isStr => some "str"
  | _ => none
def tyName : D → String
  | .non => "NoneType"
  | .bl _ => "bool"
  | .int _ => "int"
  | .str _ => "str"
  | .tup _ => "tuple"
  | _ => "list"
theorem ty_of {K : PySem.W.Frag} {H G : Hp} {B : List Addr} {S : Sto} {v : V} {x : D} (RS : RelH K fa S H G B) (r : Rb K fa H G B v x) (o : tyOk x = true) : TyX K H v (.type (tyName x)) := by
  cases x <;> first | cases o | skip
  · rw [r.non]; exact .base .non
  · rw [r.bl]; exact .base (.bl _)
  · rw [r.int]; exact .base (.int _)
  · rw [r.str]; exact .base (.str _)
  · obtain ⟨a, vs, rfl, h1, _⟩ := r.tup RS.sub
    rcases h1 with (h1 | ⟨o, h1⟩) | ⟨o, its, n, h1, h2, _⟩
    · exact .base (.tup h1)
    · exact .fTuple h1
    · exact .kTuple h1 h2
  · obtain ⟨a, vs, rfl, h1, _⟩ := r.lst RS.sub
    exact .base (.lst h1)
theorem is_ok {b : Bi} {T : String} {x : D} (hb : isId b = some T) (o : tyOk x = true) : kitB (tyName x) T = some (isD b x) := by
  cases b <;> first | cases hb | skip
  all_goals cases x <;> first | rfl | (cases o; done)
theorem s_is (W : Wd P cf fa X N sc) {b : Bi} {T : String} {e : E} {x : Expr} {p p2 pos : Pos} (hb : isId b = some T) (hg : Gl X ("isinstance" : Str)) (hg2 : Gl X (T : Str)) (hT : (T : Str) ∈ biNames) (hx : noStar x = true) (ne : ∀ y, e ≠ .star y) (he : SB P cf fa H0 X x e) :
    SE P cf fa H0 X (.Call (.Name "isinstance" p) [x, .Name (T : Str) p2] [] pos) (.bi b [e]) := by
  intro r S d S' h
  obtain ⟨y, e1, e2⟩ := bi1_ev ne h
  have hv : bootBuiltins (T : Str) = some (.type T) ∧ (T : Str) ≠ "__name__" ∧ ((T : Str) == ("__debug__" : Str)) = false := by
    cases b <;> first | (cases hb; decide +kernel) | cases hb
  have key : tyOk (wk (deB S' y)) = true ∧ d = .bl (isD b (wk (deB S' y))) := by
    cases b <;> first | cases hb | skip
    all_goals
      have h' : (if tyOk (wk (deB S' y)) = true then some (D.bl (isD _ (wk (deB S' y)))) else none) = some d := e2
      by_cases c : tyOk (wk (deB S' y)) = true
      · rw [if_pos c] at h'
        cases h'
        exact ⟨c, rfl⟩
      · rw [if_neg c] at h'
        cases h'
  obtain ⟨ok0, rfl⟩ := key
  refine (pe_callB call_isi hg (W.bi _ (by decide +kernel)) (by decide +kernel) (pa_cons (he r S _ _ e1) (pa_cons (pe_bltn (v := .ty T) hg2 (W.bi _ hT) hv.1 rfl hv.2.1 hv.2.2) pa_nil) (star_of hx)) (by decide) (by decide) (star_of hx) rfl).wk fun σ H Q ⟨G, B, R, RS, q⟩ => ⟨G, B, R, RS, fun v H1 G1 B1 own st rs ok => ?_⟩
  have rb := Rb.of ok rs
  have tx : TyX X.K H1 v (.type (tyName (wk (deB S' y)))) := by
    generalize ez : deB S' y = z at rb ok0 ⊢
    cases z with
    | fz xs =>
      obtain ⟨a, vs, rfl, h1, _⟩ := rb.seq rs.sub rfl
      rcases h1 with (h1 | ⟨o, h1⟩) | ⟨o, its, n, h1, h2, _⟩
      · exact .base (.lst h1)
      · exact .base (.frz h1)
      · exact .kList h1 h2
    | _ => exact ty_of rs rb ok0
  exact ⟨v, .ty T, _, .type T, _, rfl, .ty T, tx, kit_ty (is_ok hb ok0), q _ H1 G1 B1 st rs rfl⟩

theorem s_bits {a : E} {xa : Expr} {apos pos : Pos} (ha : SE P cf fa H0 X xa a) (hb : plainBase xa = true) (hl : (apos.endLine == pos.line) = true) : SE P cf fa H0 X (.Call (.Attribute xa "bit_length" apos) [] [] pos) (.bits a) := by
  intro r S d S' h
  simp only [evE] at h
  obtain ⟨⟨d1, S1⟩, e1, h⟩ := Option.bind_eq_some_iff.mp h
  cases d1 <;> first | cases h | skip
  exact (pe_bits (ha r S _ _ e1) (base_of hb) hl).wk fun σ H Q ⟨G, B, R, RS, q⟩ => ⟨G, B, R, RS, fun v H' G' B' st rs dt => ⟨_, dt, q _ H' G' B' st rs rfl⟩⟩

/-! ### readings for any answer -/
section
variable (P cf fa H0) (K : PySem.W.Frag)
def AE (e : E) : TE := fun σ H Q => ∃ r S d S', evE P cf e r S = some (d, S') ∧ TD K fa H0 r S d S' σ H Q
def AT (e : E) : TT := fun σ H Q => ∃ r S b S', evE P cf e r S = some (.bl b, S') ∧ TBo K fa H0 r S b S' σ H Q
end
theorem SE.a {x : Expr} {e : E} (h : SE P cf fa H0 X x e) : PE X x (AE P cf fa H0 X.K e) := ⟨fun pins s σ H Q I ⟨r, S, d, S', hv, q⟩ => (h r S d S' hv).run pins s σ H Q I q⟩
theorem ST.a {x : Expr} {e : E} (h : ST P cf fa H0 X x e) : PT X x (AT P cf fa H0 X.K e) := ⟨fun pins s σ H Q I ⟨r, S, d, S', hv, q⟩ => (h r S d S' hv).run pins s σ H Q I q⟩

/-! ### targets -/
/-- several names take a tuple's or a list's items -/
def gTL (K : PySem.W.Frag) (n : Nat) (t : TGs) : TG := fun v σ H Q => gTup K n t v σ H Q ∨ gLst K n t v σ H Q
theorem pg_tl {es : List Expr} {k : Nat} {t : TGs} {n : Nat} {pos : Pos} (hc : X.calm = true) (h : PGs X es t) (hn : (assignEach es X.env).length = n) (hst : (assignEach es X.env).findIdx? (·.1) = none) : PG X (.Tuple es k pos) (gTL X.K n t) :=
  ⟨fun pins s σ H v u Q I r hw => hw.elim (fun z => (pg_tup hc h hn hst).run pins s σ H v u Q I r z) fun z => (pg_lst hc h hn hst).run pins s σ H v u Q I r z⟩
mutual
def gTg (K : PySem.W.Frag) : Tg → TG
  | .nm i => gName i
  | .tp ts => gTL K ts.length (gTgs K ts)
def gTgs (K : PySem.W.Frag) : List Tg → TGs
  | [] => gNil
  | t :: ts => gCons (gTg K t) (gTgs K ts)
end
theorem wipe_get {σ : Slots} : ∀ {vs : List Nat} {i : Nat}, (wipe σ vs)[i]? = if i ∈ vs then (if i < σ.length then some none else none) else σ[i]?
  | [], i => by simp [wipe]
  | v :: vs, i => by
    unfold wipe
    by_cases h : v = i
    · subst h
      rw [if_pos List.mem_cons_self]
      by_cases hl : v < σ.length
      · rw [List.getElem?_set_self (by rw [wipe_length]; exact hl), if_pos hl]
      · rw [if_neg hl]
        apply List.getElem?_eq_none
        rw [List.length_set, wipe_length]
        omega
    · rw [List.getElem?_set_ne h, wipe_get (vs := vs)]
      by_cases hm : i ∈ vs
      · rw [if_pos hm, if_pos (List.mem_cons_of_mem _ hm)]
      · rw [if_neg hm, if_neg (fun z => (List.mem_cons.mp z).elim (fun e => h e.symm) hm)]
theorem wipe_set {σ : Slots} {vs : List Nat} {i : Nat} {x : Option V} (h : i ∈ vs) : wipe (σ.set i x) vs = wipe σ vs := by
  apply List.ext_getElem?
  intro j
  rw [wipe_get, wipe_get, List.length_set]
  by_cases hm : j ∈ vs
  · rw [if_pos hm, if_pos hm]
  · rw [if_neg hm, if_neg hm, List.getElem?_set_ne (fun e => hm (by rw [← e]; exact h))]
theorem wipe_wipe {σ : Slots} {vs : List Nat} : wipe (wipe σ vs) vs = wipe σ vs := by
  apply List.ext_getElem?
  intro j
  rw [wipe_get, wipe_get, wipe_length]
  by_cases hm : j ∈ vs
  · rw [if_pos hm, if_pos hm]
  · rw [if_neg hm, if_neg hm]
theorem wipeR_length (r : Rho) : ∀ vs : List Nat, (wipeR r vs).length = r.length
  | [] => rfl
  | v :: vs => by unfold wipeR; rw [List.length_set, wipeR_length r vs]
theorem wipeR_some {r : Rho} {i : Nat} {x : Bool × D} : ∀ {vs : List Nat}, (wipeR r vs)[i]? = some (some x) → r[i]? = some (some x) ∧ i ∉ vs
  | [], h => ⟨h, by simp⟩
  | v :: vs, h => by
    unfold wipeR at h
    by_cases hi : v = i
    · subst hi
      by_cases hv : v < (wipeR r vs).length
      · rw [List.getElem?_set_self hv] at h; cases h
      · rw [List.getElem?_eq_none (by simpa using hv)] at h; cases h
    · rw [List.getElem?_set_ne hi] at h
      obtain ⟨h1, h2⟩ := wipeR_some h
      exact ⟨h1, fun z => (List.mem_cons.mp z).elim (fun e => hi e.symm) h2⟩
theorem RelR.wipe {K : PySem.W.Frag} {r : Rho} {σ : Slots} {H G : Hp} {B : List Addr} (R : RelR K fa H0 r σ H G B) (vs : List Nat) : RelR K fa H0 (wipeR r vs) (L2.wipe σ vs) H G B where
  len := by rw [wipeR_length, wipe_length]; exact R.len
  at_ := fun i own d e => by
    obtain ⟨e1, e2⟩ := wipeR_some e
    obtain ⟨v, f1, ok⟩ := R.at_ i own d e1
    exact ⟨v, by rw [wipe_get, if_neg e2]; exact f1, ok⟩
  dist := fun i j d e h1 h2 hn => by
    obtain ⟨a1, a2⟩ := wipeR_some h1
    obtain ⟨b1, b2⟩ := wipeR_some h2
    rw [wipe_get, wipe_get, if_neg a2, if_neg b2]
    exact R.dist i j d e a1 b1 hn
theorem RelR.setv {K : PySem.W.Frag} {r : Rho} {σ : Slots} {H G : Hp} {B : List Addr} {i : Nat} {v : V} {d : D} (R : RelR K fa H0 r σ H G B) (h : Dat K fa G B v d) : RelR K fa H0 (r.set i (some (false, d))) (σ.set i (some v)) H G B where
  len := by rw [List.length_set, List.length_set]; exact R.len
  at_ := fun j own e hj => by
    by_cases hi : i = j
    · subst hi
      have hl : i < r.length := by
        have := (List.getElem?_eq_some_iff.mp hj).1
        simpa using this
      rw [List.getElem?_set_self hl] at hj
      cases hj
      exact ⟨v, List.getElem?_set_self (by rw [← R.len]; exact hl), h⟩
    · rw [List.getElem?_set_ne hi] at hj ⊢
      exact R.at_ j own e hj
  dist := fun j l d' e' h1 h2 hn => by
    have nj : i ≠ j := fun z => by
      subst z
      have hl : i < r.length := by
        have := (List.getElem?_eq_some_iff.mp h1).1
        simpa using this
      rw [List.getElem?_set_self hl] at h1
      cases h1
    have nl : i ≠ l := fun z => by
      subst z
      have hl : i < r.length := by
        have := (List.getElem?_eq_some_iff.mp h2).1
        simpa using this
      rw [List.getElem?_set_self hl] at h2
      cases h2
    rw [List.getElem?_set_ne nj, List.getElem?_set_ne nl]
    rw [List.getElem?_set_ne nj] at h1
    rw [List.getElem?_set_ne nl] at h2
    exact R.dist j l d' e' h1 h2 hn

mutual
theorem asg_ok {K : PySem.W.Frag} {H G : Hp} {B : List Addr} (k : ∀ a o, G a = some o → H a = some o) : ∀ (tg : Tg) (d : D) (r r1 : Rho) (v : V) (σ : Slots) (Q : Slots → Hp → Prop), asg tg d r = some r1 → RelR K fa H0 r σ H G B → Dat K fa G B v d →
    (∀ σ', RelR K fa H0 r1 σ' H G B → (∀ vs : List Nat, (∀ i ∈ tg.slots, i ∈ vs) → wipe σ' vs = wipe σ vs) → Q σ' H) → gTg K tg v σ H Q
  | .nm i, d, r, r1, v, σ, Q, e, R, dt, q => by
    have e' : (if i < r.length then some (r.set i (some (false, d))) else none) = some r1 := by simpa only [asg] using e
    split at e'
    · cases e'
      show gName i v σ H Q
      exact q _ (R.setv dt) fun vs hv => wipe_set (hv i (by simp [Tg.slots]))
    · cases e'
  | .tp ts, d, r, r1, v, σ, Q, e, R, dt, q => by
    cases d with
    | tup ds =>
      simp only [asg] at e
      obtain ⟨a, vs, rfl, h1, h2⟩ := dt
      have ln := asgs_len ts ds r r1 e
      exact .inl ⟨a, vs, rfl, SqT.up k h1, by rw [Dats.length _ _ h2, ln], asgs_ok k ts ds r r1 vs σ Q e R h2 q⟩
    | lst ds =>
      simp only [asg] at e
      obtain ⟨a, vs, rfl, h1, h2⟩ := dt
      have ln := asgs_len ts ds r r1 e
      exact .inr ⟨a, vs, rfl, .of (k _ _ h1), by rw [Dats.length _ _ h2, ln], asgs_ok k ts ds r r1 vs σ Q e R h2 q⟩
    | _ => simp only [asg] at e; cases e
theorem asgs_len : ∀ (ts : List Tg) (ds : List D) (r r1 : Rho), asgs ts ds r = some r1 → ds.length = ts.length
  | [], [], _, _, _ => rfl
  | [], _ :: _, _, _, e => by simp only [asgs] at e; cases e
  | _ :: _, [], _, _, e => by simp only [asgs] at e; cases e
  | t :: ts, d :: ds, r, r1, e => by
    simp only [asgs] at e
    obtain ⟨r2, _, e2⟩ := Option.bind_eq_some_iff.mp e
    rw [List.length_cons, List.length_cons, asgs_len ts ds r2 r1 e2]
theorem asgs_ok {K : PySem.W.Frag} {H G : Hp} {B : List Addr} (k : ∀ a o, G a = some o → H a = some o) : ∀ (ts : List Tg) (ds : List D) (r r1 : Rho) (vs : List V) (σ : Slots) (Q : Slots → Hp → Prop), asgs ts ds r = some r1 → RelR K fa H0 r σ H G B → Dats K fa G B vs ds →
    (∀ σ', RelR K fa H0 r1 σ' H G B → (∀ vs : List Nat, (∀ i ∈ slotss ts, i ∈ vs) → wipe σ' vs = wipe σ vs) → Q σ' H) → gTgs K ts vs σ H Q
  | [], [], r, r1, vs, σ, Q, e, R, dt, q => by
    simp only [asgs] at e
    cases e
    cases dt
    exact ⟨rfl, q σ R fun _ _ => rfl⟩
  | [], _ :: _, _, _, _, _, _, e, _, _, _ => by simp only [asgs] at e; cases e
  | _ :: _, [], _, _, _, _, _, e, _, _, _ => by simp only [asgs] at e; cases e
  | t :: ts, d :: ds, r, r1, vs, σ, Q, e, R, dt, q => by
    simp only [asgs] at e
    obtain ⟨r2, e1, e2⟩ := Option.bind_eq_some_iff.mp e
    obtain ⟨v, ws, rfl, h1, h2⟩ := dt
    refine ⟨v, ws, rfl, asg_ok k t d r r2 v σ _ e1 R h1 fun σ1 R1 w1 => asgs_ok k ts ds r2 r1 ws σ1 Q e2 R1 h2 fun σ2 R2 w2 => q σ2 R2 fun us hu => ?_⟩
    rw [w2 us fun i hi => hu i (by simp only [slotss]; exact List.mem_append_right _ hi), w1 us fun i hi => hu i (by simp only [slotss]; exact List.mem_append_left _ hi)]
end
end
end Pv

set_option Elab.async false
set_option linter.all false
set_option maxRecDepth 100000
/-! SndH: what is walked; comprehensions. -/
namespace Pv
open PySem PySem.Spec PyProof.Rows L2

/-- an iterator that yields the values xs, one by one -/
def Yld (K : PySem.W.Frag) (fa : Nat → Addr) (J : It) (G0 : Hp) (B0 : List Addr) (xs : List D) : Prop := ∀ H1 G1 B1, (∀ a o, G0 a = some o → G1 a = some o) → (∃ C, B1 = B0 ++ C) → (∀ a o, G1 a = some o → H1 a = some o) → ∀ i : Nat,
  (∀ d, xs[i]? = some d → J.go i H1 ∧ ∀ x H2, J.yld i H1 x H2 → ∃ G2, Dat K fa G2 B1 x d ∧ (∀ S1, RelH K fa S1 H1 G1 B1 → Stp H1 G1 B1 H2 G2 B1 ∧ RelH K fa S1 H2 G2 B1)) ∧ (xs.length ≤ i → J.stop i H1)

section
variable {K : PySem.W.Frag} {fa : Nat → Addr} {G H : Hp} {B : List Addr} {a b : Addr} {vs ws : List V} {xs ys : List D}
theorem y_list (h : SqL K G a vs) (d : Dats K fa G B vs xs) : Yld K fa (Itl K a) G B xs := by
  intro H1 G1 B1 k e k1 i
  have h1 : SqL K H1 a vs := SqL.up k1 (SqL.up k h)
  refine ⟨fun x hx => ?_, fun hl => ⟨vs, h1, by rw [Dats.length _ _ d]; exact hl⟩⟩
  obtain ⟨v, hv, dv⟩ := Dats.get d hx
  refine ⟨⟨vs, v, h1, hv⟩, fun y H2 hy => ?_⟩
  obtain ⟨rfl, hy⟩ := hy
  have e2 := hy vs h1
  rw [hv] at e2
  cases e2
  exact ⟨G1, Dat.up k e x _ dv, fun S1 RS => ⟨.refl, RS⟩⟩
theorem y_tup (h : SqT K G a vs) (d : Dats K fa G B vs xs) : Yld K fa (Itt K a) G B xs := by
  intro H1 G1 B1 k e k1 i
  have h1 : SqT K H1 a vs := SqT.up k1 (SqT.up k h)
  refine ⟨fun x hx => ?_, fun hl => ⟨vs, h1, by rw [Dats.length _ _ d]; exact hl⟩⟩
  obtain ⟨v, hv, dv⟩ := Dats.get d hx
  refine ⟨⟨vs, v, h1, hv⟩, fun y H2 hy => ?_⟩
  obtain ⟨rfl, hy⟩ := hy
  have e2 := hy vs h1
  rw [hv] at e2
  cases e2
  exact ⟨G1, Dat.up k e x _ dv, fun S1 RS => ⟨.refl, RS⟩⟩
theorem rangeL_get {lo : Int} {n i : Nat} {d : D} (h : (rangeL lo n)[i]? = some d) : i < n ∧ d = .int (lo + i) := by
  unfold rangeL at h
  rw [List.getElem?_map] at h
  by_cases c : i < n
  · rw [List.getElem?_range c] at h
    cases h
    exact ⟨c, rfl⟩
  · rw [List.getElem?_eq_none (by simpa using c)] at h
    cases h
theorem y_rng {lo : Int} {n : Nat} : Yld K fa (Itr lo n) G B (rangeL lo n) := by
  intro H1 G1 B1 k e k1 i
  refine ⟨fun x hx => ?_, fun hl => (show n ≤ i by simpa [rangeL] using hl)⟩
  obtain ⟨hi, rfl⟩ := rangeL_get hx
  refine ⟨hi, fun y H2 hy => ?_⟩
  obtain ⟨rfl, rfl⟩ := hy
  exact ⟨G1, rfl, fun S1 RS => ⟨.refl, RS⟩⟩
theorem zipL_get : ∀ {xs ys : List D} {i : Nat} {d : D}, (zipL xs ys)[i]? = some d → ∃ x y, xs[i]? = some x ∧ ys[i]? = some y ∧ d = .tup [x, y]
  | [], ys, i, d, h => by cases ys <;> simp [zipL] at h
  | x :: xs, [], i, d, h => by simp [zipL] at h
  | x :: xs, y :: ys, 0, d, h => by
    simp [zipL] at h
    exact ⟨x, y, rfl, rfl, h.symm⟩
  | x :: xs, y :: ys, i + 1, d, h => by
    simp [zipL] at h
    obtain ⟨u, v, e1, e2, e3⟩ := zipL_get h
    exact ⟨u, v, by simpa using e1, by simpa using e2, e3⟩
theorem zipL_len : ∀ {xs ys : List D} {i : Nat}, (zipL xs ys).length ≤ i → xs.length ≤ i ∨ ys.length ≤ i
  | [], ys, i, h => .inl (Nat.zero_le _)
  | x :: xs, [], i, h => .inr (Nat.zero_le _)
  | x :: xs, y :: ys, 0, h => by simp [zipL] at h
  | x :: xs, y :: ys, i + 1, h => by
    simp only [zipL, List.length_cons, Nat.add_le_add_iff_right] at h
    rcases zipL_len h with q | q
    · exact .inl (by simpa using q)
    · exact .inr (by simpa using q)
theorem pair_dat {H1 G1 : Hp} {B1 : List Addr} {S1 : Sto} {T : Addr} {u v : V} {x y : D} (hT : H1 T = none) (du : Dat K fa G1 B1 u x) (dv : Dat K fa G1 B1 v y) (nG : G1 T = none) : Dat K fa (upd G1 T (.tup [u, v])) B1 (.ref T) (.tup [x, y]) := by
  have kk : ∀ a o, G1 a = some o → upd G1 T (.tup [u, v]) a = some o := fun a o e => by rw [upd_ne (ne_of_none e nG)]; exact e
  exact ⟨T, [u, v], rfl, .inl (.inl upd_same), u, [v], rfl, Dat.up kk ⟨[], by simp⟩ x u du, v, [], rfl, Dat.up kk ⟨[], by simp⟩ y v dv, rfl⟩
theorem none_up {G1 H1 : Hp} (k : ∀ a o, G1 a = some o → H1 a = some o) {T : Addr} (h : H1 T = none) : G1 T = none := by
  cases q : G1 T with
  | none => rfl
  | some o => rw [k T o q] at h; cases h
theorem y_zip (h : SqL K G a vs) (d : Dats K fa G B vs xs) (h' : SqL K G b ws) (d' : Dats K fa G B ws ys) : Yld K fa (Itz K a b) G B (zipL xs ys) := by
  intro H1 G1 B1 k e k1 i
  have h1 : SqL K H1 a vs := SqL.up k1 (SqL.up k h)
  have h2 : SqL K H1 b ws := SqL.up k1 (SqL.up k h')
  refine ⟨fun z hz => ?_, fun hl => ?_⟩
  · obtain ⟨x, y, e1, e2, rfl⟩ := zipL_get hz
    obtain ⟨u, hu, du⟩ := Dats.get d e1
    obtain ⟨v, hv, dv⟩ := Dats.get d' e2
    refine ⟨⟨vs, ws, u, v, h1, h2, hu, hv⟩, fun w H2 hy => ?_⟩
    obtain ⟨T, u', v', rfl, hT, rfl, q1, q2⟩ := hy
    have f1 := q1 vs h1
    have f2 := q2 ws h2
    rw [hu] at f1; cases f1
    rw [hv] at f2; cases f2
    exact ⟨_, pair_dat (S1 := []) hT (Dat.up k e x _ du) (Dat.up k e y _ dv) (none_up k1 hT), fun S1 RS => RS.lay hT⟩
  · refine ⟨vs, ws, h1, h2, ?_⟩
    rw [Dats.length _ _ d, Dats.length _ _ d']
    exact zipL_len hl
theorem y_zipT (h : SqT K G a vs) (d : Dats K fa G B vs xs) (h' : SqT K G b ws) (d' : Dats K fa G B ws ys) : Yld K fa (RZ.ItzT K a b) G B (zipL xs ys) := by
  intro H1 G1 B1 k e k1 i
  have h1 : SqT K H1 a vs := SqT.up k1 (SqT.up k h)
  have h2 : SqT K H1 b ws := SqT.up k1 (SqT.up k h')
  refine ⟨fun z hz => ?_, fun hl => ?_⟩
  · obtain ⟨x, y, e1, e2, rfl⟩ := zipL_get hz
    obtain ⟨u, hu, du⟩ := Dats.get d e1
    obtain ⟨v, hv, dv⟩ := Dats.get d' e2
    refine ⟨⟨vs, ws, u, v, h1, h2, hu, hv⟩, fun w H2 hy => ?_⟩
    obtain ⟨T, u', v', rfl, hT, rfl, q1, q2⟩ := hy
    have f1 := q1 vs h1
    have f2 := q2 ws h2
    rw [hu] at f1; cases f1
    rw [hv] at f2; cases f2
    exact ⟨_, pair_dat (S1 := []) hT (Dat.up k e x _ du) (Dat.up k e y _ dv) (none_up k1 hT), fun S1 RS => RS.lay hT⟩
  · refine ⟨vs, ws, h1, h2, ?_⟩
    rw [Dats.length _ _ d, Dats.length _ _ d']
    exact zipL_len hl
theorem enuL_get : ∀ {xs : List D} {n i : Nat} {d : D}, (enuL n xs)[i]? = some d → ∃ x, xs[i]? = some x ∧ d = .tup [.int ((n + i : Nat) : Int), x]
  | [], n, i, d, h => by simp [enuL] at h
  | x :: xs, n, 0, d, h => by
    simp [enuL] at h
    exact ⟨x, rfl, by rw [← h]; rfl⟩
  | x :: xs, n, i + 1, d, h => by
    simp [enuL] at h
    obtain ⟨u, e1, e3⟩ := enuL_get h
    refine ⟨u, by simpa using e1, ?_⟩
    rw [e3, show n + 1 + i = n + (i + 1) by omega]
theorem enuL_len : ∀ (xs : List D) (n : Nat), (enuL n xs).length = xs.length
  | [], n => rfl
  | x :: xs, n => by simp [enuL, enuL_len xs]
theorem y_enu (h : SqL K G a vs) (d : Dats K fa G B vs xs) : Yld K fa (Ite K a) G B (enuL 0 xs) := by
  intro H1 G1 B1 k e k1 i
  have h1 : SqL K H1 a vs := SqL.up k1 (SqL.up k h)
  refine ⟨fun z hz => ?_, fun hl => ⟨vs, h1, by rw [enuL_len] at hl; rw [Dats.length _ _ d]; exact hl⟩⟩
  obtain ⟨x, e1, rfl⟩ := enuL_get hz
  obtain ⟨u, hu, du⟩ := Dats.get d e1
  refine ⟨⟨vs, u, h1, hu⟩, fun w H2 hy => ?_⟩
  obtain ⟨T, u', rfl, hT, rfl, q1⟩ := hy
  have f1 := q1 vs h1
  rw [hu] at f1; cases f1
  rw [Nat.zero_add]
  exact ⟨_, pair_dat (S1 := []) hT rfl (Dat.up k e x _ du) (none_up k1 hT), fun S1 RS => RS.lay hT⟩
end

section
variable {P : Prg} {cf : Nat → List D → Sto → Option (D × Sto)} {fa : Nat → Addr} {H0 : Hp} {X : Cx} {N : List Str} {sc : Scope}
variable (P cf fa H0) in
def AI (K : PySem.W.Frag) (e : E) : TI := fun σ H R => ∃ r S d S' xs G B, evE P cf e r S = some (d, S') ∧ itemsD (wk d) = some xs ∧ RelR K fa H0 r σ H G B ∧ RelH K fa S H G B ∧
  ∀ J H' G' B', Stp H G B H' G' B' → RelH K fa S' H' G' B' → Yld K fa J G' B' xs → R J H'
theorem PI.wk {tg x : Expr} {w w' : TI} (h : PI X tg x w) (k : ∀ σ H R, w' σ H R → w σ H R) : PI X tg x w' := ⟨fun pins s σ H R I q => h.run pins s σ H R I (k σ H R q)⟩
theorem PI.or2 {tg x : Expr} {w w' : TI} (h : PI X tg x w) (h' : PI X tg x w') : PI X tg x (fun σ H R => w σ H R ∨ w' σ H R) := ⟨fun pins s σ H R I q => q.elim (h.run pins s σ H R I) (h'.run pins s σ H R I)⟩

variable (P cf fa H0 X) in
def SI (tg x : Expr) (e : E) : Prop := PI X tg x (AI P cf fa H0 X.K e)
theorem si_e {tg x : Expr} {e : E} (he : SE P cf fa H0 X x e) : SI P cf fa H0 X tg x e := by
  refine PI.wk (PI.or2 (pi_list he.a) (pi_tup he.a)) fun σ H R ⟨r, S, d, S', xs, G, B, hv, hx, RR, RS, q⟩ => ?_
  unfold itemsD at hx
  split at hx
  · rename_i zs ez
    cases hx
    refine .inl ⟨r, S, d, S', hv, G, B, RR, RS, fun v H' G' B' st rs dt => ?_⟩
    have key : ∃ a vs, v = .ref a ∧ SqL X.K G' a vs ∧ Dats X.K fa G' B' vs xs := by
      cases d with
      | fz ys => cases ez; exact dt
      | lst ys =>
        cases ez
        obtain ⟨a, vs, e1, h1, h2⟩ := dt
        exact ⟨a, vs, e1, .of h1, h2⟩
      | _ => cases ez
    obtain ⟨a, vs, rfl, h1, h2⟩ := key
    exact ⟨a, rfl, ⟨vs, SqL.up rs.sub h1⟩, q _ H' G' B' st rs (y_list h1 h2)⟩
  · rename_i zs ez
    cases hx
    have ez' := wk_eq ez (fun _ z => by cases z)
    subst ez'
    refine .inr ⟨r, S, _, S', hv, G, B, RR, RS, fun v H' G' B' st rs dt => ?_⟩
    obtain ⟨a, vs, rfl, h1, h2⟩ := dt
    exact ⟨a, rfl, ⟨vs, SqT.up rs.sub h1⟩, q _ H' G' B' st rs (y_tup h1 h2)⟩
  · cases hx
theorem sq_of {K : PySem.W.Frag} {G : Hp} {B : List Addr} {v : V} {d : D} {xs : List D} (h : wk d = .lst xs) (dt : Dat K fa G B v d) : ∃ a vs, v = .ref a ∧ SqL K G a vs ∧ Dats K fa G B vs xs := by
  cases d with
  | fz ys => cases h; exact dt
  | lst ys =>
    cases h
    obtain ⟨a, vs, e1, h1, h2⟩ := dt
    exact ⟨a, vs, e1, .of h1, h2⟩
  | _ => cases h

theorem si_zip (W : Wd P cf fa X N sc) {elts : List Expr} {kk : Nat} {tpos : Pos} {x y : Expr} {p pos : Pos} {e1 e2 : E} (hg : Gl X ("zip" : Str)) (hx : noStar x = true) (hy : noStar y = true) (h1 : SE P cf fa H0 X x e1) (h2 : SE P cf fa H0 X y e2) :
    SI P cf fa H0 X (.Tuple elts kk tpos) (.Call (.Name "zip" p) [x, y] [] pos) (.zip e1 e2) := by
  refine PI.wk (RZ.pi_zipA hg (W.bi _ (by decide +kernel)) (pa_cons h1.a (pa_cons h2.a pa_nil (star_of hy)) (star_of hx)) (star_of hx) (plain_of (by rw [List.all_cons, hy]; rfl))) fun σ H R ⟨r, S, d, S', xs, G, B, hv, hi, RR, RS, q⟩ => ?_
  simp only [evE] at hv
  obtain ⟨⟨d1, S1⟩, f1, hv⟩ := Option.bind_eq_some_iff.mp hv
  obtain ⟨⟨d2, S2⟩, f2, hv⟩ := Option.bind_eq_some_iff.mp hv
  refine ⟨r, S, d1, S1, f1, G, B, RR, RS, fun v1 H1 G1 B1 st1 rs1 dt1 => ⟨r, S1, d2, S2, f2, G1, B1, RR.step st1, rs1, fun v2 H2 G2 B2 st2 rs2 dt2 => ?_⟩⟩
  have dt1' := st2.dat dt1
  split at hv
  · rename_i us ws k1 k2
    cases hv
    cases hi
    obtain ⟨a, vs, rfl, s1, t1⟩ := sq_of k1 dt1'
    obtain ⟨b, vs2, rfl, s2, t2⟩ := sq_of k2 dt2
    exact ⟨a, b, vs, vs2, rfl, .inl ⟨SqL.up rs2.sub s1, SqL.up rs2.sub s2, q _ H2 G2 B2 (st1.trans st2) rs2 (y_zip s1 t1 s2 t2)⟩⟩
  · rename_i us ws k1 k2
    cases hv
    cases hi
    have k1' := wk_eq k1 (fun _ z => by cases z)
    have k2' := wk_eq k2 (fun _ z => by cases z)
    have k1'' : d1 = .tup us := k1'
    have k2'' : d2 = .tup ws := k2'
    subst k1'' k2''
    obtain ⟨a, vs, rfl, s1, t1⟩ := dt1'
    obtain ⟨b, vs2, rfl, s2, t2⟩ := dt2
    exact ⟨a, b, vs, vs2, rfl, .inr ⟨SqT.up rs2.sub s1, SqT.up rs2.sub s2, q _ H2 G2 B2 (st1.trans st2) rs2 (y_zipT s1 t1 s2 t2)⟩⟩
  · cases hv
theorem si_enu (W : Wd P cf fa X N sc) {elts : List Expr} {kk : Nat} {tpos : Pos} {x : Expr} {p pos : Pos} {e1 : E} (hg : Gl X ("enumerate" : Str)) (hx : noStar x = true) (h1 : SE P cf fa H0 X x e1) :
    SI P cf fa H0 X (.Tuple elts kk tpos) (.Call (.Name "enumerate" p) [x] [] pos) (.enu e1) := by
  refine PI.wk (pi_enum hg (W.bi _ (by decide +kernel)) (pa_cons h1.a pa_nil (star_of hx)) (star_of hx)) fun σ H R ⟨r, S, d, S', xs, G, B, hv, hi, RR, RS, q⟩ => ?_
  simp only [evE] at hv
  obtain ⟨⟨d1, S1⟩, f1, hv⟩ := Option.bind_eq_some_iff.mp hv
  split at hv
  · rename_i us k1
    cases hv
    cases hi
    refine ⟨r, S, d1, S1, f1, G, B, RR, RS, fun v1 H1 G1 B1 st1 rs1 dt1 => ?_⟩
    obtain ⟨a, vs, rfl, s1, t1⟩ := sq_of k1 dt1
    exact ⟨a, vs, rfl, SqL.up rs1.sub s1, q _ H1 G1 B1 st1 rs1 (y_enu s1 t1)⟩
  · cases hv
theorem rangeOk_of {i j : Int} (h : rangeOk i j = true) : -(2 ^ 62) ≤ i ∧ i < 2 ^ 62 ∧ -(2 ^ 62) ≤ j ∧ j < 2 ^ 62 := by
  unfold rangeOk at h
  simp only [Bool.and_eq_true, decide_eq_true_eq] at h
  exact ⟨h.1.1.1.1, h.1.1.1.2, h.1.1.2, h.1.2⟩
theorem si_rng1 (W : Wd P cf fa X N sc) {tg x : Expr} {p pos : Pos} {e1 : E} (hg : Gl X ("range" : Str)) (hx : noStar x = true) (n1 : ∀ y, e1 ≠ .star y) (h1 : SE P cf fa H0 X x e1) : SI P cf fa H0 X tg (.Call (.Name "range" p) [x] [] pos) (.rng [e1]) := by
  refine PI.wk (pi_range1 hg (W.bi _ (by decide +kernel)) (pa_cons h1.a pa_nil (star_of hx)) (star_of hx)) fun σ H R ⟨r, S, d, S', xs, G, B, hv, hi, RR, RS, q⟩ => ?_
  simp only [evE] at hv
  rw [evEs_cons n1] at hv
  simp only [evEs, Option.map_some] at hv
  obtain ⟨⟨ds, S1⟩, f1, hv⟩ := Option.bind_eq_some_iff.mp hv
  obtain ⟨⟨d1, S2⟩, f2, f3⟩ := Option.bind_eq_some_iff.mp f1
  cases f3
  obtain ⟨ys, f4, hv⟩ := Option.map_eq_some_iff.mp hv
  cases hv
  cases hi
  unfold rngD at f4
  split at f4
  · rename_i j ej
    split at f4
    · rename_i c
      cases f4
      have c' := rangeOk_of c
      refine ⟨r, S, d1, _, f2, G, B, RR, RS, fun v1 H1 G1 B1 st1 rs1 dt1 => ?_⟩
      have ej' : d1 = .int j := by simpa using ej
      subst ej'
      cases dt1
      exact ⟨j, rfl, c'.2.2.1, c'.2.2.2, q _ H1 G1 B1 st1 rs1 y_rng⟩
    · cases f4
  · rename_i i j ej
    simp at ej
  · cases f4
theorem si_rng2 (W : Wd P cf fa X N sc) {tg x y : Expr} {p pos : Pos} {e1 e2 : E} (hg : Gl X ("range" : Str)) (hx : noStar x = true) (hy : noStar y = true) (n1 : ∀ y, e1 ≠ .star y) (n2 : ∀ y, e2 ≠ .star y) (h1 : SE P cf fa H0 X x e1) (h2 : SE P cf fa H0 X y e2) :
    SI P cf fa H0 X tg (.Call (.Name "range" p) [x, y] [] pos) (.rng [e1, e2]) := by
  refine PI.wk (pi_range2 hg (W.bi _ (by decide +kernel)) (pa_cons h1.a (pa_cons h2.a pa_nil (star_of hy)) (star_of hx)) (by rw [star_of hx, star_of hy]; rfl) (star_of hy)) fun σ H R ⟨r, S, d, S', xs, G, B, hv, hi, RR, RS, q⟩ => ?_
  simp only [evE] at hv
  rw [evEs_cons n1] at hv
  obtain ⟨⟨ds, S1⟩, f1, hv⟩ := Option.bind_eq_some_iff.mp hv
  obtain ⟨⟨d1, S2⟩, f2, f3⟩ := Option.bind_eq_some_iff.mp f1
  rw [evEs_cons n2] at f3
  simp only [evEs, Option.map_some] at f3
  obtain ⟨⟨d2s, S3⟩, f5, f6⟩ := Option.map_eq_some_iff.mp f3
  obtain ⟨⟨d2, S4⟩, f7, f8⟩ := Option.bind_eq_some_iff.mp f5
  cases f8
  cases f6
  obtain ⟨ys, f4, hv⟩ := Option.map_eq_some_iff.mp hv
  cases hv
  cases hi
  unfold rngD at f4
  split at f4
  · rename_i j ej
    simp at ej
  · rename_i i j ej
    split at f4
    · rename_i c
      cases f4
      have c' := rangeOk_of c
      have ej' : d1 = .int i ∧ d2 = .int j := by simpa using ej
      obtain ⟨rfl, rfl⟩ := ej'
      refine ⟨r, S, _, S2, f2, G, B, RR, RS, fun v1 H1 G1 B1 st1 rs1 dt1 => ⟨r, S2, _, _, f7, G1, B1, RR.step st1, rs1, fun v2 H2 G2 B2 st2 rs2 dt2 => ?_⟩⟩
      cases dt1
      cases dt2
      exact ⟨i, j, rfl, c', q _ H2 G2 B2 (st1.trans st2) rs2 y_rng⟩
    · cases f4
  · cases f4
end
end Pv

set_option Elab.async false
set_option linter.all false
set_option maxRecDepth 100000
/-! SndI: list comprehensions; bit by bit. -/
namespace Pv
open PySem PySem.Spec PyProof.Rows L2

section
variable {K : PySem.W.Frag} {fa : Nat → Addr} {H G H1 G1 : Hp} {B B1 : List Addr} {S : Sto} {p : Addr}
/-- an owned list is written -/
theorem RelH.wrF (R : RelH K fa S H G B) {o o' : HO} (h : H p = some o) (hg : G p = none) (hb : p ∉ B) : RelH K fa S (upd H p o') G B where
  sub := fun a u e => by rw [upd_ne (fun z => by subst z; rw [hg] at e; cases e)]; exact R.sub a u e
  len := R.len
  nd := R.nd
  at_ := fun n ds e => by
    obtain ⟨a, vs, e1, e2, e3, e4, e5⟩ := R.at_ n ds e
    exact ⟨a, vs, e1, by rw [upd_ne (fun z => hb (by rw [← z]; exact List.mem_of_getElem? e1))]; exact e2, e3, e4, e5⟩
theorem Stp.wrF {o : HO} (s : Stp H G B H1 G1 B1) (h : H p = none) : Stp H G B (upd H1 p o) G1 B1 where
  keep := fun a u e n => by rw [upd_ne (ne_of_none e h)]; exact s.keep a u e n
  liv := fun a e => by
    by_cases z : a = p
    · subst z; rw [upd_same]; simp
    · rw [upd_ne z]; exact s.liv a e
  sub := s.sub
  fr := s.fr
  pre := s.pre
/-- an object is forgotten -/
def les (H : Hp) (p : Addr) : Hp := fun b => if b = p then none else H b
theorem les_upd {o : HO} (h : H p = some o) : upd (les H p) p o = H := by
  funext b
  by_cases z : b = p
  · subst z; rw [upd_same, h]
  · rw [upd_ne z]; unfold les; rw [if_neg z]
theorem les_same : les H p p = none := by unfold les; rw [if_pos rfl]
theorem les_ne {b : Addr} (h : b ≠ p) : les H p b = H b := by unfold les; rw [if_neg h]
theorem RelH.les (R : RelH K fa S H G B) (hg : G p = none) (hb : p ∉ B) : RelH K fa S (Pv.les H p) G B where
  sub := fun a u e => by rw [les_ne (fun z => by subst z; rw [hg] at e; cases e)]; exact R.sub a u e
  len := R.len
  nd := R.nd
  at_ := fun n ds e => by
    obtain ⟨a, vs, e1, e2, e3, e4, e5⟩ := R.at_ n ds e
    exact ⟨a, vs, e1, by rw [les_ne (fun z => hb (by rw [← z]; exact List.mem_of_getElem? e1))]; exact e2, e3, e4, e5⟩
theorem Stp.les (s : Stp H G B H1 G1 B1) (h : H p = none) : Stp H G B (Pv.les H1 p) G1 B1 where
  keep := fun a u e n => by rw [les_ne (ne_of_none e h)]; exact s.keep a u e n
  liv := fun a e => by rw [les_ne (fun z => e (by rw [z]; exact h))]; exact s.liv a e
  sub := s.sub
  fr := s.fr
  pre := s.pre
/-- what is tracked but has no place, and does not stay for ever: it stays through a step -/
theorem Stp.own (s : Stp H G B H1 G1 B1) {o : HO} (h : H p = some o) (hg : G p = none) (hb : p ∉ B) : H1 p = some o ∧ G1 p = none ∧ p ∉ B1 := by
  refine ⟨s.keep p o h hb, ?_, ?_⟩
  · cases q : G1 p with
    | none => rfl
    | some u =>
      rcases s.fr p u q with z | z
      · rw [hg] at z; cases z
      · rw [h] at z; cases z
  · obtain ⟨C, rfl, hC⟩ := s.pre
    intro z
    rcases List.mem_append.mp z with z | z
    · exact hb z
    · rw [hC p z] at h; cases h
end

section
variable {P : Prg} {cf : Nat → List D → Sto → Option (D × Sto)} {fa : Nat → Addr} {H0 : Hp} {X : Cx} {N : List Str} {sc : Scope}

theorem compL_len {f : D → Sto → Option (Option D × Sto)} : ∀ {xs : List D} {S : Sto} {ds : List D} {S' : Sto}, compL f xs S = some (ds, S') → ds.length ≤ xs.length
  | [], S, ds, S', h => by simp only [compL] at h; cases h; exact Nat.le_refl _
  | x :: xs, S, ds, S', h => by
    simp only [compL] at h
    obtain ⟨⟨o, S1⟩, e1, h⟩ := Option.bind_eq_some_iff.mp h
    obtain ⟨⟨es, S2⟩, e2, h⟩ := Option.map_eq_some_iff.mp h
    have l := compL_len e2
    cases o with
    | none => cases h; simp; omega
    | some y => cases h; simp; omega

/-- the reading of the tests -/
def AIfs (P : Prg) (cf : Nat → List D → Sto → Option (D × Sto)) (fa : Nat → Addr) (H0 : Hp) (K : PySem.W.Frag) : List E → TT
  | [] => tYes
  | e :: _ => AT P cf fa H0 K e

def turnC (P : Prg) (cf : Nat → List D → Sto → Option (D × Sto)) (tg : Tg) (ifs : List E) (elt : E) (r : Rho) (own : List Nat) : D → Sto → Option (Option D × Sto) := fun x S1 =>
  (asg tg x (wipeR r own)).bind fun r1 => (evIfs P cf ifs r1 S1).bind fun b => if b.1 then (evE P cf elt r1 b.2).map fun y => (some y.1, y.2) else some (none, b.2)

/-- what holds between two turns: acc is what is made so far, rest what is to come -/
structure TurnI (K : PySem.W.Frag) (fa : Nat → Addr) (f : D → Sto → Option (Option D × Sto)) (Hs Gs : Hp) (Bs : List Addr) (D0 : Addr) (xs : List D) (ds : List D) (S' : Sto) (i : Nat) (H : Hp) : Prop where
  ex : ∃ G B Si acc vs rest, Stp Hs Gs Bs H G B ∧ RelH K fa Si H G B ∧ H D0 = some (.lst vs) ∧ G D0 = none ∧ D0 ∉ B ∧ Dats K fa G B vs acc ∧ compL f (xs.drop i) Si = some (rest, S') ∧ acc ++ rest = ds ∧ acc.length ≤ i

theorem comp_go {J : It} {Hs Gs : Hp} {Bs : List Addr} {S1 S' : Sto} {xs ds : List D} {r : Rho} {σ : Slots} {tg : Tg} {ifs : List E} {elt : E} {own : List Nat} {D0 : Addr} {Qd : Hp → Prop}
    (hl : xs.length < 100000) (hif : ifs.length ≤ 1) (hsl : ∀ i ∈ tg.slots, i ∈ own) (R : RelR X.K fa H0 r σ Hs Gs Bs) (RS : RelH X.K fa S1 Hs Gs Bs) (Y : Yld X.K fa J Gs Bs xs) (hD : Hs D0 = none)
    (hc : compL (turnC P cf tg ifs elt r own) xs S1 = some (ds, S'))
    (q : ∀ H G B vs, Stp Hs Gs Bs H G B → RelH X.K fa S' H G B → H D0 = some (.lst vs) → G D0 = none → D0 ∉ B → Dats X.K fa G B vs ds → Qd H) :
    ∃ W : Nat → Nat → Hp → Prop, (∃ m, W 0 m (upd Hs D0 (.lst []))) ∧ ∀ i m H, W i m H →
      (J.stop i H ∧ Qd H) ∨ (J.go i H ∧ ∃ Nx : Hp → Prop, (∀ H', Nx H' → ∃ m', m' < m ∧ W (i + 1) m' H') ∧ ∀ x H', J.yld i H x H' → gTg X.K tg x (wipe σ own) H' fun σ2 H2 => wipe σ2 own = wipe σ own ∧ AIfs P cf fa H0 X.K ifs σ2 H2 fun b H3 =>
        if b = true then AE P cf fa H0 X.K elt σ2 H3 fun y H4 => ∃ acc, H4 D0 = some (.lst acc) ∧ acc.length < sizeLine ∧ Nx (upd H4 D0 (.lst (acc ++ [y]))) else Nx H3) := by
  have gD : Gs D0 = none := RS.nG hD
  have bD : D0 ∉ Bs := RS.nB hD
  refine ⟨fun i m H => m = xs.length - i ∧ i ≤ xs.length ∧ TurnI X.K fa (turnC P cf tg ifs elt r own) Hs Gs Bs D0 xs ds S' i H, ⟨xs.length, by simp, Nat.zero_le _, ?_⟩, ?_⟩
  · exact ⟨Gs, Bs, S1, [], [], ds, Stp.refl.wrF hD, (RS.layF hD).2, upd_same, gD, bD, rfl, by simpa using hc, rfl, Nat.le_refl _⟩
  · rintro i m H ⟨rfl, hi, ⟨G, B, Si, acc, vs, rest, st, rs, hH, hG, hB, da, hr, hac, hle⟩⟩
    have y := Y H G B st.sub st.ext rs.sub i
    by_cases hlt : i < xs.length
    · have hx : xs[i]? = some xs[i] := by simp [hlt]
      obtain ⟨hgo, hy⟩ := y.1 _ hx
      refine .inr ⟨hgo, TurnI X.K fa (turnC P cf tg ifs elt r own) Hs Gs Bs D0 xs ds S' (i + 1), fun H' t => ⟨xs.length - (i + 1), by omega, rfl, hlt, t⟩, fun x H' hyl => ?_⟩
      obtain ⟨G2, dx, stp⟩ := hy x H' hyl
      obtain ⟨st2, rs2⟩ := stp Si rs
      have hdr : xs.drop i = xs[i] :: xs.drop (i + 1) := List.drop_eq_getElem_cons hlt
      rw [hdr] at hr
      simp only [compL] at hr
      obtain ⟨⟨o, S3⟩, e1, hr⟩ := Option.bind_eq_some_iff.mp hr
      obtain ⟨⟨es, S4⟩, e2, hr⟩ := Option.map_eq_some_iff.mp hr
      unfold turnC at e1
      obtain ⟨r1, f1, e1⟩ := Option.bind_eq_some_iff.mp e1
      obtain ⟨⟨b, S5⟩, f2, e1⟩ := Option.bind_eq_some_iff.mp e1
      obtain ⟨hH2, hG2, hB2⟩ := st2.own hH hG hB
      have da2 := st2.dats da
      refine asg_ok rs2.sub tg _ _ r1 x (wipe σ own) _ f1 (((R.wipe own).step st).step st2) dx fun σ' R' w' => ⟨?_, ?_⟩
      · rw [w' own hsl, wipe_wipe]
      · -- the tests
        have fin : ∀ (H3 G3 : Hp) (B3 : List Addr), Stp H' G2 B H3 G3 B3 → RelH X.K fa S5 H3 G3 B3 → (if b = true then AE P cf fa H0 X.K elt σ' H3 fun y H4 => ∃ acc, H4 D0 = some (.lst acc) ∧ acc.length < sizeLine ∧ TurnI X.K fa (turnC P cf tg ifs elt r own) Hs Gs Bs D0 xs ds S' (i + 1) (upd H4 D0 (.lst (acc ++ [y]))) else TurnI X.K fa (turnC P cf tg ifs elt r own) Hs Gs Bs D0 xs ds S' (i + 1) H3) := by
          intro H3 G3 B3 st3 rs3
          obtain ⟨hH3, hG3, hB3⟩ := st3.own hH2 hG2 hB2
          have da3 := st3.dats da2
          cases b with
          | false =>
            rw [if_neg Bool.false_ne_true]
            have e1' : (some ((none : Option D), S5)) = some (o, S3) := e1
            cases e1'
            cases hr
            exact ⟨G3, B3, _, acc, vs, _, (st.trans st2).trans st3, rs3, hH3, hG3, hB3, da3, e2, hac, by omega⟩
          | true =>
            rw [if_pos rfl]
            obtain ⟨⟨y, S6⟩, e3, e1⟩ := Option.map_eq_some_iff.mp (show (evE P cf elt r1 S5).map _ = some (o, S3) from e1)
            cases e1
            cases hr
            refine ⟨r1, S5, y, S6, e3, G3, B3, R'.step st3, rs3, fun v H4 G4 B4 st4 rs4 dv => ?_⟩
            obtain ⟨hH4, hG4, hB4⟩ := st4.own hH3 hG3 hB3
            have da4 := st4.dats da3
            refine ⟨vs, hH4, by rw [Dats.length _ _ da4, sizeLine_eq]; omega, ⟨G4, B4, S6, acc ++ [y], vs ++ [v], es, ((((st.trans st2).trans st3).trans st4).wrF hD), rs4.wrF hH4 hG4 hB4, upd_same, hG4, hB4, da4.app (Dats.one dv), e2, by rw [List.append_assoc]; exact hac, by simp; omega⟩⟩
        cases ifs with
        | nil =>
          simp only [evIfs] at f2
          cases f2
          exact fin H' G2 B .refl rs2
        | cons e er =>
          have er0 : er = [] := by
            cases er with
            | nil => rfl
            | cons _ _ => simp at hif
          subst er0
          simp only [evIfs] at f2
          obtain ⟨⟨d0, S7⟩, f3, f2⟩ := Option.bind_eq_some_iff.mp f2
          cases d0 <;> first | cases f2 | skip
          rename_i bb
          have hb : b = bb ∧ S5 = S7 := by
            cases bb with
            | true => cases f2; exact ⟨rfl, rfl⟩
            | false => cases f2; exact ⟨rfl, rfl⟩
          obtain ⟨rfl, rfl⟩ := hb
          exact ⟨r1, Si, _, _, f3, G2, B, R', rs2, fun H3 G3 B3 st3 rs3 => fin H3 G3 B3 st3 rs3⟩
    · have e : i = xs.length := by omega
      subst e
      rw [List.drop_length] at hr
      simp only [compL] at hr
      cases hr
      rw [List.append_nil] at hac
      subst hac
      exact .inl ⟨y.2 (Nat.le_refl _), q H G B vs st rs hH hG hB da⟩

/-- the parts of a comprehension, wherever its block stands -/
structure CompOk (P : Prg) (cf : Nat → List D → Sto → Option (D × Sto)) (fa : Nat → Addr) (H0 : Hp) (X : Cx) (own : List (Str × Nat)) (scope : Scope) (tgx itx : Expr) (ifx : List Expr) (eltx : Expr) (tg : Tg) (it : E) (ifs : List E) (elt : E) : Prop where
  it : SI P cf fa H0 X tgx itx it
  ok : BlkOk X.N X.env.scope scope own
  one : ifs.length ≤ 1
  slots : ∀ i ∈ tg.slots, i ∈ own.map (·.2)
  tg : ∀ (s : Shared) (H : Hp) (C : Addr) (cl : List (Str × Addr)) (fp : List Addr), PG (X.blk s H scope (compEnvC scope cl C X.env) fp) tgx (gTg X.K tg)
  ifs : ∀ (s : Shared) (H : Hp) (C : Addr) (cl : List (Str × Addr)) (fp : List Addr), PTs (X.blk s H scope (compEnvC scope cl C X.env) fp) ifx (AIfs P cf fa H0 X.K ifs)
  elt : ∀ (s : Shared) (H : Hp) (C : Addr) (cl : List (Str × Addr)) (fp : List Addr), SE P cf fa H0 (X.blk s H scope (compEnvC scope cl C X.env) fp) eltx elt
  fs : ∀ x, foldedSetIterable itx X.env x = pure x

theorem comp_read {own : List (Str × Nat)} {tg : Tg} {it : E} {ifs : List E} {elt : E} {r : Rho} {S : Sto} {d : D} {S' : Sto} (one : ifs.length ≤ 1) (slots : ∀ i ∈ tg.slots, i ∈ own.map (·.2)) (h : evE P cf (.cmpr (own.map (·.2)) tg it ifs elt) r S = some (d, S')) :
    ∃ ds, d = .lst ds ∧ ∀ σ H Q, TF fa H0 X.K r S ds S' σ H Q → tLc (AI P cf fa H0 X.K it) (gTg X.K tg) (AIfs P cf fa H0 X.K ifs) (AE P cf fa H0 X.K elt) (own.map (·.2)) σ H Q := by
  simp only [evE] at h
  obtain ⟨⟨d1, S1⟩, e1, h⟩ := Option.bind_eq_some_iff.mp h
  obtain ⟨xs, e2, h⟩ := Option.bind_eq_some_iff.mp h
  by_cases c : xs.length < 100000
  case neg => rw [if_neg c] at h; cases h
  rw [if_pos c] at h
  obtain ⟨⟨ds, S2⟩, e3, h⟩ := Option.map_eq_some_iff.mp h
  cases h
  refine ⟨ds, rfl, fun σ H Q ⟨G, B, R, RS, q⟩ => ⟨r, S, d1, S1, xs, G, B, e1, e2, R, RS, fun J H' G' B' st rs Y D0 hD => ?_⟩⟩
  refine comp_go (X := X) (P := P) (cf := cf) c one slots (R.step st) rs Y hD e3 fun H2 G2 B2 vs st2 rs2 hH hG hB da => ?_
  have q' := q D0 vs (les H2 D0) G2 B2 les_same (st.trans (st2.les hD)) (rs2.les hG hB) da
  rw [les_upd hH] at q'
  exact q'
theorem f_comp (W : Wd P cf fa X N sc) {own : List (Str × Nat)} {scope : Scope} {tgx itx eltx : Expr} {ifx : List Expr} {tg : Tg} {it elt : E} {ifs : List E} {pos : Pos} (c : CompOk P cf fa H0 X own scope tgx itx ifx eltx tg it ifs elt) :
    SF P cf fa H0 X (.ListComp eltx [⟨tgx, itx, ifx, 0⟩] scope pos) (.cmpr (own.map (·.2)) tg it ifs elt) := by
  intro r S d S' h
  obtain ⟨ds, rfl, k⟩ := comp_read (X := X) (fa := fa) (H0 := H0) c.one c.slots h
  exact ⟨ds, rfl, (pe_lc W.calm (by rw [W.hN]; exact W.nd) c.it c.ok c.tg c.ifs (fun s H C cl fp => (c.elt s H C cl fp).a) c.fs).wk k⟩
end
end Pv

set_option Elab.async false
set_option linter.all false
set_option maxRecDepth 100000
/-! SndJ: chains, list(range), calls of a name that holds a def. -/
namespace Pv
open PySem PySem.Spec PyProof.Rows L2

section
variable {P : Prg} {cf : Nat → List D → Sto → Option (D × Sto)} {fa : Nat → Addr} {H0 : Hp} {X : Cx} {N : List Str} {sc : Scope}

theorem op_no {f : Value → Value → Sem Value} : OpR X f (fun _ _ _ _ => False) := fun _ _ _ _ _ _ _ _ _ _ _ _ h => h.elim
theorem GoodR.at {K : PySem.W.Frag} {rd : R2} {x y d : D} (g : GoodR K fa rd x y d) {v1 v2 : V} {H G : Hp} {B : List Addr} {S : Sto} {Q : VK} (RS : RelH K fa S H G B) (d1 : Dat K fa G B v1 x) (d2 : Dat K fa G B v2 y)
    (q : ∀ v H' G' B', Stp H G B H' G' B' → RelH K fa S H' G' B' → Dat K fa G' B' v d → Q v H') : rd v1 v2 H Q := g v1 v2 H G B S Q RS (.inl d1) (.inl d2) q

theorem s_chn (W : Wd P cf fa X N sc) {op op2 : CmpOp} {a b c : E} {xa xb xc : Expr} {pos : Pos} (ha : SE P cf fa H0 X xa a) (hb : SE P cf fa H0 X xb b) (hc : SE P cf fa H0 X xc c) (hm : lastMarks [op, op2] [xb, xc] = false) :
    SE P cf fa H0 X (.Compare xa [op, op2] [xb, xc] pos) (.chn op op2 a b c) ∧ ST P cf fa H0 X (.Compare xa [op, op2] [xb, xc] pos) (.chn op op2 a b c) := by
  refine ⟨fun r S d S' h => ?_, fun r S d S' h => ?_⟩
  · simp only [evE] at h
    obtain ⟨⟨d1, S1⟩, e1, h⟩ := Option.bind_eq_some_iff.mp h
    obtain ⟨⟨d2, S2⟩, e2, h⟩ := Option.bind_eq_some_iff.mp h
    obtain ⟨k, e3, h⟩ := Option.bind_eq_some_iff.mp h
    obtain ⟨rd, hop, good⟩ := cmpD_ok (fa := fa) W.un e3
    cases k with
    | true =>
      rw [if_pos rfl] at h
      obtain ⟨⟨d3, S3⟩, e4, h⟩ := Option.bind_eq_some_iff.mp h
      obtain ⟨k2, e5, h⟩ := Option.map_eq_some_iff.mp h
      cases h
      obtain ⟨rd2, hop2, good2⟩ := cmpD_ok (fa := fa) W.un e5
      exact (pe_chain hop hop2 (ha r S _ _ e1) (hb r S1 _ _ e2) (hc r S2 _ _ e4) hm).wk fun σ H Q ⟨G, B, R, RS, q⟩ => ⟨G, B, R, RS, fun v1 H1 G1 B1 st1 rs1 dt1 => ⟨G1, B1, R.step st1, rs1, fun v2 H2 G2 B2 st2 rs2 dt2 =>
        good.at rs2 (st2.dat dt1) dt2 fun v H3 G3 B3 st3 rs3 dt3 => ⟨true, dt3, iteT ⟨G3, B3, ((R.step st1).step st2).step st3, rs3, fun v3 H4 G4 B4 st4 rs4 dt4 =>
          good2.at rs4 (st4.dat (st3.dat dt2)) dt4 fun w H5 G5 B5 st5 rs5 dt5 => q w H5 G5 B5 ((((st1.trans st2).trans st3).trans st4).trans st5) rs5 dt5⟩⟩⟩⟩
    | false =>
      rw [if_neg Bool.false_ne_true] at h
      cases h
      exact (pe_chain hop op_no (ha r S _ _ e1) (hb r S1 _ _ e2) pe_no hm).wk fun σ H Q ⟨G, B, R, RS, q⟩ => ⟨G, B, R, RS, fun v1 H1 G1 B1 st1 rs1 dt1 => ⟨G1, B1, R.step st1, rs1, fun v2 H2 G2 B2 st2 rs2 dt2 =>
        good.at rs2 (st2.dat dt1) dt2 fun v H3 G3 B3 st3 rs3 dt3 => ⟨false, dt3, iteF (q _ H3 G3 B3 ((st1.trans st2).trans st3) rs3 rfl)⟩⟩⟩
  · simp only [evE] at h
    obtain ⟨⟨d1, S1⟩, e1, h⟩ := Option.bind_eq_some_iff.mp h
    obtain ⟨⟨d2, S2⟩, e2, h⟩ := Option.bind_eq_some_iff.mp h
    obtain ⟨k, e3, h⟩ := Option.bind_eq_some_iff.mp h
    obtain ⟨rd, hop, good⟩ := cmpD_ok (fa := fa) W.un e3
    cases k with
    | true =>
      rw [if_pos rfl] at h
      obtain ⟨⟨d3, S3⟩, e4, h⟩ := Option.bind_eq_some_iff.mp h
      obtain ⟨k2, e5, h⟩ := Option.map_eq_some_iff.mp h
      cases h
      obtain ⟨rd2, hop2, good2⟩ := cmpD_ok (fa := fa) W.un e5
      exact (pt_chain hop hop2 (ha r S _ _ e1) (hb r S1 _ _ e2) (hc r S2 _ _ e4) hm).wk fun σ H Q ⟨G, B, R, RS, q⟩ => ⟨G, B, R, RS, fun v1 H1 G1 B1 st1 rs1 dt1 => ⟨G1, B1, R.step st1, rs1, fun v2 H2 G2 B2 st2 rs2 dt2 =>
        good.at rs2 (st2.dat dt1) dt2 fun v H3 G3 B3 st3 rs3 dt3 => ⟨true, dt3, iteT ⟨G3, B3, ((R.step st1).step st2).step st3, rs3, fun v3 H4 G4 B4 st4 rs4 dt4 =>
          good2.at rs4 (st4.dat (st3.dat dt2)) dt4 fun w H5 G5 B5 st5 rs5 dt5 => ⟨_, dt5, q H5 G5 B5 ((((st1.trans st2).trans st3).trans st4).trans st5) rs5⟩⟩⟩⟩⟩
    | false =>
      rw [if_neg Bool.false_ne_true] at h
      cases h
      exact (pt_chain hop op_no (ha r S _ _ e1) (hb r S1 _ _ e2) pe_no hm).wk fun σ H Q ⟨G, B, R, RS, q⟩ => ⟨G, B, R, RS, fun v1 H1 G1 B1 st1 rs1 dt1 => ⟨G1, B1, R.step st1, rs1, fun v2 H2 G2 B2 st2 rs2 dt2 =>
        good.at rs2 (st2.dat dt1) dt2 fun v H3 G3 B3 st3 rs3 dt3 => ⟨false, dt3, iteF ⟨_, rfl, q H3 G3 B3 ((st1.trans st2).trans st3) rs3⟩⟩⟩⟩

theorem dats_ints {K : PySem.W.Frag} {G : Hp} {B : List Addr} (f : Nat → Int) : ∀ l : List Nat, Dats K fa G B (l.map fun i => V.int (f i)) (l.map fun i => D.int (f i))
  | [] => rfl
  | i :: l => ⟨_, _, rfl, rfl, dats_ints f l⟩
theorem rg_ok {i j : Int} (h : rangeOk i j = true) : RgOk i j := by
  unfold rangeOk at h
  simp only [Bool.and_eq_true, decide_eq_true_eq] at h
  exact ⟨h.1.1.1.1, h.1.1.1.2, h.1.1.2, h.1.2, by omega⟩
theorem f_listRg1 (W : Wd P cf fa X N sc) {x : Expr} {p p2 pos pos2 : Pos} {e1 : E} (hl : Gl X ("list" : Str)) (hg : Gl X ("range" : Str)) (hx : noStar x = true) (n1 : ∀ y, e1 ≠ .star y) (h1 : SE P cf fa H0 X x e1) :
    SF P cf fa H0 X (.Call (.Name "list" p) [.Call (.Name "range" p2) [x] [] pos2] [] pos) (.bi .list [.rng [e1]]) := by
  intro r S d S' h
  obtain ⟨y, f1, f2⟩ := bi1_ev (fun _ z => by cases z) h
  simp only [evE] at f1
  rw [evEs_cons n1] at f1
  simp only [evEs, Option.map_some] at f1
  obtain ⟨⟨ds, S1⟩, g1, f1⟩ := Option.bind_eq_some_iff.mp f1
  obtain ⟨⟨d1, S2⟩, g2, g3⟩ := Option.bind_eq_some_iff.mp g1
  cases g3
  obtain ⟨ys, g4, f1⟩ := Option.map_eq_some_iff.mp f1
  cases f1
  unfold rngD at g4
  split at g4
  · rename_i j ej
    split at g4
    · rename_i c
      cases g4
      cases f2
      have ej' : d1 = .int j := by simpa using ej
      subst ej'
      refine ⟨_, rfl, (pe_listRg W.calm hl (W.bi _ (by decide +kernel)) (prg_1 hg (W.bi _ (by decide +kernel)) (h1 r S _ _ g2) (star_of hx))).wk fun σ H Q ⟨G, B, R, RS, q⟩ => ⟨G, B, R, RS, fun v1 H1 G1 B1 st1 rs1 dt1 => ⟨j, dt1, rg_ok c, fun l hl => ?_⟩⟩⟩
      have q' := q l (rgV 0 j) H1 G1 B1 hl st1 rs1
      unfold rgV at q' ⊢
      rw [Int.sub_zero] at q' ⊢
      exact q' (dats_ints (fun i => 0 + (i : Nat)) _)
    · cases g4
  · rename_i i j ej
    simp at ej
  · cases g4
theorem f_listRg2 (W : Wd P cf fa X N sc) {x y : Expr} {p p2 pos pos2 : Pos} {e1 e2 : E} (hl : Gl X ("list" : Str)) (hg : Gl X ("range" : Str)) (hx : noStar x = true) (hy : noStar y = true) (n1 : ∀ y, e1 ≠ .star y) (n2 : ∀ y, e2 ≠ .star y) (h1 : SE P cf fa H0 X x e1) (h2 : SE P cf fa H0 X y e2) :
    SF P cf fa H0 X (.Call (.Name "list" p) [.Call (.Name "range" p2) [x, y] [] pos2] [] pos) (.bi .list [.rng [e1, e2]]) := by
  intro r S d S' h
  obtain ⟨z, f1, f2⟩ := bi1_ev (fun _ z => by cases z) h
  simp only [evE] at f1
  rw [evEs_cons n1] at f1
  obtain ⟨⟨ds, S1⟩, g1, f1⟩ := Option.bind_eq_some_iff.mp f1
  obtain ⟨⟨d1, S2⟩, g2, g3⟩ := Option.bind_eq_some_iff.mp g1
  rw [evEs_cons n2] at g3
  simp only [evEs, Option.map_some] at g3
  obtain ⟨⟨d2s, S3⟩, g5, g6⟩ := Option.map_eq_some_iff.mp g3
  obtain ⟨⟨d2, S4⟩, g7, g8⟩ := Option.bind_eq_some_iff.mp g5
  cases g8
  cases g6
  obtain ⟨ys, g4, f1⟩ := Option.map_eq_some_iff.mp f1
  cases f1
  unfold rngD at g4
  split at g4
  · rename_i j ej
    simp at ej
  · rename_i i j ej
    split at g4
    · rename_i c
      cases g4
      cases f2
      have ej' : d1 = .int i ∧ d2 = .int j := by simpa using ej
      obtain ⟨rfl, rfl⟩ := ej'
      refine ⟨_, rfl, (pe_listRg W.calm hl (W.bi _ (by decide +kernel)) (prg_2 hg (W.bi _ (by decide +kernel)) (h1 r S _ _ g2) (h2 r S2 _ _ g7) (by rw [star_of hx]) (star_of hy) (plain_of (by rw [List.all_cons, hy]; rfl)))).wk fun σ H Q ⟨G, B, R, RS, q⟩ => ⟨G, B, R, RS, fun v1 H1 G1 B1 st1 rs1 dt1 => ⟨G1, B1, R.step st1, rs1, fun v2 H2 G2 B2 st2 rs2 dt2 =>
        ⟨i, j, dt1, dt2, rg_ok c, fun l hl => q l (rgV i j) H2 G2 B2 hl (st1.trans st2) rs2 (dats_ints (fun k => i + (k : Nat)) _)⟩⟩⟩⟩
    · cases g4
  · cases g4

/-- a call of a name that holds a def -/
theorem s_callv (W : Wd P cf fa X N sc) (ar : Arity P cf) (fnd : ∀ (j : Nat) (ds : List D) (S : Sto) (q : D × Sto), cf j ds S = some q → ∃ g, P.fns[j]? = some g) {i : Nat} {n : Str} {es : List E} {x : Expr} {xs : List Expr} {p pos : Pos} (hi : X.N[i]? = some n) (hv : Vis X.env.scope n) (hd : (n == ("__debug__" : Str)) = false) (hcd : (n == ("__classdict__" : Str)) = false)
    (hx : noStar x = true) (hxs : xs.all noStar = true) (ha : SA P cf fa H0 X (x :: xs) es) : SE P cf fa H0 X (.Call (.Name n p) (x :: xs) [] pos) (.callv (.var i) es) := by
  intro r S d S' h
  simp only [evE] at h
  obtain ⟨⟨d0, S0⟩, e0, h2⟩ := Option.bind_eq_some_iff.mp h
  clear h
  cases d0 <;> first | cases h2 | skip
  rename_i j
  obtain ⟨⟨ds, S1⟩, e1, h3⟩ := Option.bind_eq_some_iff.mp h2
  clear h2
  have hs : r[i]? = some (some (false, .fn j)) ∧ S0 = S := by
    split at e0
    · rename_i q
      cases e0
      exact ⟨q, rfl⟩
    · cases e0
  obtain ⟨hs, rfl⟩ := hs
  obtain ⟨g, hj⟩ := fnd j ds S1 _ h3
  refine ⟨fun pins s σ H Q I ⟨G, B, R, RS, q⟩ => ?_⟩
  obtain ⟨v, sv, ok⟩ := R.at_ i false _ hs
  have ok' : v = .ref (fa j) := ok
  subst ok'
  refine wpAny_Call_Name_kw (thn ((pe_var (pos := p) hi hv hd hcd).run pins s σ H (fun v H1 => v = .ref (fa j) ∧ H1 = H) I ⟨.ref (fa j), sv, rfl, rfl⟩) fun u s1 ⟨v, H1, I1, r1, q1⟩ => ?_)
  obtain ⟨rfl, rfl⟩ := q1
  cases r1
  refine PySem.W.callWith_K (h₀ := X.base) I.ok.mod.kin (W.fnv j g hj).2 (thn ((ha r S0 _ _ e1).run pos pins s1 σ H1 (fun vs H2 => ∃ G1 B1, Stp H1 G B H2 G1 B1 ∧ RelH X.K fa S1 H2 G1 B1 ∧ Dats X.K fa G1 B1 vs ds) I1 ⟨G, B, R, RS, fun vs H1 G1 B1 st rs dt => ⟨G1, B1, st, rs, dt⟩⟩) fun us s1 ⟨vs, H2, I2, rv, G1, B1, st, rs, dt⟩ => ⟨I2.kIn, ?_⟩) (star_of hx) (plain_of hxs)
  exact run_call W hj I2 rv rs dt h3 (ar j g ds S1 _ hj h3) fun v H' G' B' st2 rs2 dv => q v H' G' B' (st.trans st2) rs2 dv
end
end Pv

set_option Elab.async false
set_option linter.all false
set_option maxRecDepth 100000
/-! SndS: statements. Hs, Gs, Bs: the heap at the def's entry. -/
namespace Pv
open PySem PySem.Spec PyProof.Rows L2

/-- what stood at a turn's begin stands -/
def Flo (Gl : Hp) (Bl : List Addr) (G : Hp) (B : List Addr) : Prop := (∀ a o, Gl a = some o → G a = some o) ∧ ∃ C, B = Bl ++ C
def StF (Hs Gs : Hp) (Bs : List Addr) (Gl : Hp) (Bl : List Addr) (H G : Hp) (B : List Addr) : Prop := Stp Hs Gs Bs H G B ∧ Flo Gl Bl G B
section
variable {Hs Gs Gl H G H' G' : Hp} {Bs Bl B B' : List Addr}
theorem StF.trans (s : StF Hs Gs Bs Gl Bl H G B) (t : Stp H G B H' G' B') : StF Hs Gs Bs Gl Bl H' G' B' := by
  obtain ⟨C, rfl⟩ := s.2.2
  obtain ⟨C', rfl, _⟩ := t.pre
  exact ⟨s.1.trans t, fun a o e => t.sub a o (s.2.1 a o e), C ++ C', by simp⟩
theorem StF.wrF {p : Addr} {o : HO} (s : StF Hs Gs Bs Gl Bl H G B) (h : Hs p = none) : StF Hs Gs Bs Gl Bl (upd H p o) G B := ⟨s.1.wrF h, s.2⟩
theorem StF.liv (s : StF Hs Gs Bs Gl Bl H G B) : ∀ a, Hs a ≠ none → H a ≠ none := s.1.liv
end
section
variable (K : PySem.W.Frag) (fa : Nat → Addr) (Hs Gs : Hp) (Bs : List Addr) (Gl : Hp) (Bl : List Addr)
def SR (r : Rho) (S : Sto) (σ : Slots) (H : Hp) : Prop := ∃ G B, StF Hs Gs Bs Gl Bl H G B ∧ RelR K fa Hs r σ H G B ∧ RelH K fa S H G B
def ContS (D : Ends) (S' : Sto) : Out → Prop
  | .nx r' => ∀ σ' H', SR K fa Hs Gs Bs Gl Bl r' S' σ' H' → D.nx σ' H'
  | .rt d => ∀ v H' G' B', Stp Hs Gs Bs H' G' B' → RelH K fa S' H' G' B' → Dat K fa G' B' v d → D.rt v H'
  | .bk r' => ∀ σ' H', SR K fa Hs Gs Bs Gl Bl r' S' σ' H' → D.bk σ' H'
  | .ct r' => ∀ σ' H', SR K fa Hs Gs Bs Gl Bl r' S' σ' H' → D.ct σ' H'
end
section
variable (K : PySem.W.Frag) (fa : Nat → Addr) (Hs Gs : Hp) (Bs : List Addr)
variable (P : Prg) (cf : Nat → List D → Sto → Option (D × Sto))
def AS (c : C) : TS := fun D σ H => ∃ r S o S', exS P cf c r S = some (o, S') ∧ ∃ Gl Bl, SR K fa Hs Gs Bs Gl Bl r S σ H ∧ ContS K fa Hs Gs Bs Gl Bl D S' o
def AB (c : List C) : TS := fun D σ H => ∃ r S o S', exB P cf c r S = some (o, S') ∧ ∃ Gl Bl, SR K fa Hs Gs Bs Gl Bl r S σ H ∧ ContS K fa Hs Gs Bs Gl Bl D S' o
def AF (e : E) : TE := fun σ H Q => ∃ r S ds S', evE P cf e r S = some (.lst ds, S') ∧ TF fa Hs K r S ds S' σ H Q
end
theorem _root_.L2.PS.wk {X : Cx} {st : Stmt} {t t' : TS} (h : PS X st t) (k : ∀ D σ H, t' D σ H → t D σ H) : PS X st t' := ⟨fun pins s σ H D I q => h.run pins s σ H D I (k D σ H q)⟩
theorem _root_.L2.PSs.wk {X : Cx} {st : List Stmt} {t t' : TS} (h : PSs X st t) (k : ∀ D σ H, t' D σ H → t D σ H) : PSs X st t' := ⟨fun pins s σ H D I q => h.run pins s σ H D I (k D σ H q)⟩

section
variable {P : Prg} {cf : Nat → List D → Sto → Option (D × Sto)} {fa : Nat → Addr} {Hs Gs Gl : Hp} {Bs Bl : List Addr} {X : Cx} {N : List Str} {sc : Scope}

theorem SF.a {x : Expr} {e : E} (h : SF P cf fa Hs X x e) : PE X x (AF X.K fa Hs P cf e) := ⟨fun pins s σ H Q I ⟨r, S, ds, S', hv, q⟩ => by
  obtain ⟨es, e1, h1⟩ := h r S _ S' hv
  cases e1
  exact h1.run pins s σ H Q I q⟩

variable (P cf fa Hs Gs Bs X) in
def SS (st : Stmt) (c : C) : Prop := PS X st (AS X.K fa Hs Gs Bs P cf c)
variable (P cf fa Hs Gs Bs X) in
def SSs (st : List Stmt) (c : List C) : Prop := PSs X st (AB X.K fa Hs Gs Bs P cf c)

theorem ss_set {st : Stmt} {i : Nat} {e : E} (hp : PS X st (tAsg (AE P cf fa Hs X.K e) (gName i))) : SS P cf fa Hs Gs Bs X st (.set i e) := by
  refine hp.wk fun D σ H ⟨r, S, o, S', hv, Gl, Bl, ⟨G, B, st0, R, RS⟩, q⟩ => ?_
  simp only [exS] at hv
  obtain ⟨⟨d, S1⟩, e1, hv⟩ := Option.bind_eq_some_iff.mp hv
  split at hv
  · cases hv
    exact ⟨r, S, d, _, e1, G, B, R, RS, fun v H' G' B' st1 rs dt => q _ _ ⟨G', B', st0.trans st1, (R.step st1).setv dt, rs⟩⟩
  · cases hv

theorem RelR.setm {K : PySem.W.Frag} {H0 : Hp} {r : Rho} {σ : Slots} {H G : Hp} {B : List Addr} {i : Nat} {v : V} {d : D} (R : RelR K fa H0 r σ H G B) (h : SlotOk K fa H0 H G B v true d)
    (hd : ∀ (j : Nat) (e : D), j ≠ i → r[j]? = some (some (true, e)) → σ[j]? ≠ some (some v)) : RelR K fa H0 (r.set i (some (true, d))) (σ.set i (some v)) H G B where
  len := by rw [List.length_set, List.length_set]; exact R.len
  at_ := fun j own e hj => by
    by_cases hi : i = j
    · subst hi
      have hl : i < r.length := by
        have := (List.getElem?_eq_some_iff.mp hj).1
        simpa using this
      rw [List.getElem?_set_self hl] at hj
      cases hj
      exact ⟨v, List.getElem?_set_self (by rw [← R.len]; exact hl), h⟩
    · rw [List.getElem?_set_ne hi] at hj ⊢
      exact R.at_ j own e hj
  dist := fun j l d' e' h1 h2 hn => by
    have sl : ∀ {k : Nat} {x : D}, (r.set i (some (true, d)))[k]? = some (some (true, x)) → k = i → (σ.set i (some v))[k]? = some (some v) := fun {k x} hk e => by
      subst e
      have hl : k < r.length := by
        have := (List.getElem?_eq_some_iff.mp hk).1
        simpa using this
      exact List.getElem?_set_self (by rw [← R.len]; exact hl)
    by_cases ji : j = i
    · have li : l ≠ i := fun z => hn (ji.trans z.symm)
      rw [sl h1 ji, List.getElem?_set_ne (Ne.symm li)]
      rw [List.getElem?_set_ne (Ne.symm li)] at h2
      exact (hd l e' li h2).symm
    · by_cases li : l = i
      · rw [sl h2 li, List.getElem?_set_ne (Ne.symm ji)]
        rw [List.getElem?_set_ne (Ne.symm ji)] at h1
        exact hd j d' ji h1
      · rw [List.getElem?_set_ne (Ne.symm ji), List.getElem?_set_ne (Ne.symm li)]
        rw [List.getElem?_set_ne (Ne.symm ji)] at h1
        rw [List.getElem?_set_ne (Ne.symm li)] at h2
        exact R.dist j l d' e' h1 h2 hn

theorem ss_own {st : Stmt} {i : Nat} {e : E} (hp : PS X st (tAsg (AF X.K fa Hs P cf e) (gName i))) : SS P cf fa Hs Gs Bs X st (.own i e) := by
  refine hp.wk fun D σ H ⟨r, S, o, S', hv, Gl, Bl, ⟨G, B, st0, R, RS⟩, q⟩ => ?_
  simp only [exS] at hv
  obtain ⟨⟨d, S1⟩, e1, hv⟩ := Option.bind_eq_some_iff.mp hv
  cases d <;> first | cases hv | skip
  rename_i ds
  have hv' : (if i < r.length then some (Out.nx (r.set i (some (true, .lst ds))), S1) else none) = some (o, S') := hv
  split at hv'
  · cases hv'
    refine ⟨r, S, ds, _, e1, G, B, R, RS, fun p vs H' G' B' hp st1 rs dt => q _ _ ⟨G', B', (st0.trans st1).trans (rs.layF hp).1, ?_, (rs.layF hp).2⟩⟩
    have R1 := (R.step st1).step (rs.layF (o := .lst vs) hp).1
    have hH0 : Hs p = none := by
      cases z : Hs p with
      | none => rfl
      | some u => exact absurd hp ((st0.trans st1).liv p (by rw [z]; simp))
    refine R1.setm ⟨p, vs, ds, rfl, rfl, upd_same, rs.nG hp, rs.nB hp, hH0, dt⟩ fun j x _ hj z => ?_
    obtain ⟨v, sv, ⟨a, ws, es, rfl, rfl, h1, _⟩⟩ := (R.step st1).at_ j true x hj
    rw [sv] at z
    cases z
    rw [hp] at h1; cases h1
  · cases hv'

theorem ss_unp {st : Stmt} {tg : Tg} {e : E} (hp : PS X st (tAsg (AE P cf fa Hs X.K e) (gTg X.K tg))) : SS P cf fa Hs Gs Bs X st (.unp tg e) := by
  refine hp.wk fun D σ H ⟨r, S, o, S', hv, Gl, Bl, ⟨G, B, st0, R, RS⟩, q⟩ => ?_
  simp only [exS] at hv
  obtain ⟨⟨d, S1⟩, e1, hv⟩ := Option.bind_eq_some_iff.mp hv
  obtain ⟨r1, e2, hv⟩ := Option.map_eq_some_iff.mp hv
  cases hv
  refine ⟨r, S, d, _, e1, G, B, R, RS, fun v H' G' B' st1 rs dt => ?_⟩
  exact asg_ok rs.sub tg d r r1 v σ _ e2 (R.step st1) dt fun σ' R' _ => q σ' H' ⟨G', B', st0.trans st1, R', rs⟩

/-- the arguments, whatever they are -/
def AA (P : Prg) (cf : Nat → List D → Sto → Option (D × Sto)) (fa : Nat → Addr) (H0 : Hp) (K : PySem.W.Frag) (es : List E) : TA := fun σ H Q => ∃ r S ds S', evEs P cf es r S = some (ds, S') ∧ TDs K fa H0 r S ds S' σ H Q
theorem SA.a {xs : List Expr} {es : List E} (h : SA P cf fa Hs X xs es) : PA X xs (AA P cf fa Hs X.K es) := ⟨fun pos pins s σ H Q I ⟨r, S, d, S', hv, q⟩ => (h r S d S' hv).run pos pins s σ H Q I q⟩

theorem ss_par2 {st : Stmt} {i j : Nat} {es : List E} (hp : PS X st (tPar i j (AA P cf fa Hs X.K es))) : SS P cf fa Hs Gs Bs X st (.par [i, j] es) := by
  refine hp.wk fun D σ H ⟨r, S, o, S', hv, Gl, Bl, ⟨G, B, st0, R, RS⟩, q⟩ => ?_
  simp only [exS] at hv
  obtain ⟨⟨ds, S1⟩, e1, hv⟩ := Option.bind_eq_some_iff.mp hv
  obtain ⟨r1, e2, hv⟩ := Option.map_eq_some_iff.mp hv
  cases hv
  refine ⟨r, S, ds, _, e1, G, B, R, RS, fun vs H' G' B' st1 rs dt => ?_⟩
  match ds, dt, e2 with
  | [d1, d2], dt, e2 =>
    obtain ⟨v1, _, rfl, t1, v2, _, rfl, t2, rfl⟩ := dt
    simp only [setAll] at e2
    split at e2
    · split at e2
      · cases e2
        exact ⟨v1, v2, rfl, q _ _ ⟨G', B', st0.trans st1, ((R.step st1).setv t1).setv t2, rs⟩⟩
      · cases e2
    · cases e2
  | [], dt, e2 => simp [setAll] at e2
  | [_], dt, e2 => simp [setAll] at e2
  | _ :: _ :: _ :: _, dt, e2 => simp [setAll] at e2
theorem ss_par3 {st : Stmt} {i j l : Nat} {es : List E} (hp : PS X st (tPar3 i j l (AA P cf fa Hs X.K es))) : SS P cf fa Hs Gs Bs X st (.par [i, j, l] es) := by
  refine hp.wk fun D σ H ⟨r, S, o, S', hv, Gl, Bl, ⟨G, B, st0, R, RS⟩, q⟩ => ?_
  simp only [exS] at hv
  obtain ⟨⟨ds, S1⟩, e1, hv⟩ := Option.bind_eq_some_iff.mp hv
  obtain ⟨r1, e2, hv⟩ := Option.map_eq_some_iff.mp hv
  cases hv
  refine ⟨r, S, ds, _, e1, G, B, R, RS, fun vs H' G' B' st1 rs dt => ?_⟩
  match ds, dt, e2 with
  | [d1, d2, d3], dt, e2 =>
    obtain ⟨v1, _, rfl, t1, v2, _, rfl, t2, v3, _, rfl, t3, rfl⟩ := dt
    simp only [setAll] at e2
    split at e2
    · split at e2
      · split at e2
        · cases e2
          exact ⟨v1, v2, v3, rfl, q _ _ ⟨G', B', st0.trans st1, (((R.step st1).setv t1).setv t2).setv t3, rs⟩⟩
        · cases e2
      · cases e2
    · cases e2
  | [], dt, e2 => simp [setAll] at e2
  | [_], dt, e2 => simp [setAll] at e2
  | [_, _], dt, e2 => simp [setAll] at e2
  | _ :: _ :: _ :: _ :: _, dt, e2 => simp [setAll] at e2

theorem pures_set {d : Pv.D} (h : d.pure = true) : ∀ (ds : List Pv.D) (j : Nat), pures ds = true → pures (ds.set j d) = true
  | [], _, _ => rfl
  | y :: ys, 0, f => by
    have f' : (y.pure && pures ys) = true := f
    rw [Bool.and_eq_true] at f'
    show (d.pure && pures ys) = true
    rw [h, f'.2]; rfl
  | y :: ys, j + 1, f => by
    have f' : (y.pure && pures ys) = true := f
    rw [Bool.and_eq_true] at f'
    show (y.pure && pures (ys.set j d)) = true
    rw [f'.1, pures_set h ys j f'.2]; rfl
theorem ss_put {st : Stmt} {a i e : E} (hp : PS X st (tAsg (AE P cf fa Hs X.K e) (gSub (AE P cf fa Hs X.K a) (AE P cf fa Hs X.K i) rSetL))) : SS P cf fa Hs Gs Bs X st (.put a i e) := by
  refine hp.wk fun D σ H ⟨r, S, o, S', hv, Gl, Bl, ⟨G, B, st0, R, RS⟩, q⟩ => ?_
  simp only [exS] at hv
  obtain ⟨⟨d, S1⟩, e1, hv⟩ := Option.bind_eq_some_iff.mp hv
  obtain ⟨⟨d2, S2⟩, e2, hv⟩ := Option.bind_eq_some_iff.mp hv
  obtain ⟨⟨d3, S3⟩, e3, hv⟩ := Option.bind_eq_some_iff.mp hv
  have key : ∃ n k, d2 = .ref n ∧ d3 = .int k := by
    cases d2 with
    | ref n =>
      cases d3 with
      | int k => exact ⟨n, k, rfl, rfl⟩
      | _ => cases hv
    | _ => cases hv
  obtain ⟨n, k, rfl, rfl⟩ := key
  obtain ⟨ds, e4, hv⟩ := Option.bind_eq_some_iff.mp (show (S3[n]?).bind _ = some (o, S') from hv)
  obtain ⟨j, e5, hv⟩ := Option.bind_eq_some_iff.mp hv
  split at hv
  · rename_i pu
    cases hv
    refine ⟨r, S, d, S1, e1, G, B, R, RS, fun v H1 G1 B1 st1 rs1 dt1 => ⟨r, S1, _, S2, e2, G1, B1, R.step st1, rs1, fun v2 H2 G2 B2 st2 rs2 dt2 => ⟨r, S2, _, S3, e3, G2, B2, (R.step st1).step st2, rs2, fun v3 H3 G3 B3 st3 rs3 dt3 => ?_⟩⟩⟩
    obtain ⟨p, rfl, hb⟩ := st3.dat dt2
    cases dt3
    obtain ⟨p', vs, f1, f2, f3, f4, f5⟩ := rs3.at_ n ds e4
    rw [hb] at f1; cases f1
    have dn := st3.dat (st2.dat dt1)
    have hpu : pures (ds.set j d) = true := pures_set pu ds j f5
    obtain ⟨st4, rs4⟩ := rs3.wr hb (Dats.set j f4 dn) hpu
    exact ⟨_, vs, k, j, rfl, rfl, f2, by rw [Dats.length _ _ f4]; exact e5, q _ _ ⟨G3, B3, (((st0.trans st1).trans st2).trans st3).trans st4, (((R.step st1).step st2).step st3).step st4, rs4⟩⟩
  · cases hv

theorem ss_aug {st : Stmt} {i : Nat} {op : Operator} {f : Int → Int → Int} {e : E} (hop : (op = .Add ∧ f = fun a b => a + b) ∨ (op = .Sub ∧ f = fun a b => a - b)) (hp : PS X st (tAug i (AE P cf fa Hs X.K e) (ipI f))) : SS P cf fa Hs Gs Bs X st (.aug i op e) := by
  refine hp.wk fun D σ H ⟨r, S, o, S', hv, Gl, Bl, ⟨G, B, st0, R, RS⟩, q⟩ => ?_
  simp only [exS] at hv
  split at hv
  · rename_i d hd
    obtain ⟨⟨d1, S1⟩, e1, hw⟩ := Option.bind_eq_some_iff.mp hv
    clear hv
    obtain ⟨v, sv, ok⟩ := R.at_ i false d hd
    have key : ∃ a b : Int, d = .int a ∧ d1 = .int b ∧ o = .nx (r.set i (some (false, .int (f a b)))) ∧ S' = S1 := by
      clear e1 ok sv hd q
      rcases hop with ⟨rfl, rfl⟩ | ⟨rfl, rfl⟩
      · cases d with
        | int a =>
          cases d1 with
          | int b => cases hw; exact ⟨a, b, rfl, rfl, rfl, rfl⟩
          | _ => cases hw
        | _ => cases hw
      · cases d with
        | int a =>
          cases d1 with
          | int b => cases hw; exact ⟨a, b, rfl, rfl, rfl, rfl⟩
          | _ => cases hw
        | _ => cases hw
    obtain ⟨a, b, rfl, rfl, rfl, rfl⟩ := key
    cases (show v = V.int a from ok)
    exact ⟨_, sv, r, S, _, _, e1, G, B, R, RS, fun v H' G' B' st1 rs dt => ⟨a, b, rfl, dt, q _ _ ⟨G', B', st0.trans st1, (R.step st1).setv (d := .int (f a b)) rfl, rs⟩⟩⟩
  · cases hv

theorem ss_exp {st : Stmt} {e : E} (hp : PS X st (tDrop (AE P cf fa Hs X.K e))) : SS P cf fa Hs Gs Bs X st (.exp e) := by
  refine hp.wk fun D σ H ⟨r, S, o, S', hv, Gl, Bl, ⟨G, B, st0, R, RS⟩, q⟩ => ?_
  simp only [exS] at hv
  obtain ⟨⟨d, S1⟩, e1, hv⟩ := Option.map_eq_some_iff.mp hv
  cases hv
  exact ⟨r, S, d, _, e1, G, B, R, RS, fun v H' G' B' st1 rs dt => q _ _ ⟨G', B', st0.trans st1, R.step st1, rs⟩⟩

/-- an owned list is written -/
theorem SR.wr3 {K : PySem.W.Frag} {r : Rho} {σ : Slots} {H G : Hp} {B : List Addr} {S : Sto} {i : Nat} {p : Addr} {ws : List V} {ds es : List D} (st0 : StF Hs Gs Bs Gl Bl H G B) (R : RelR K fa Hs r σ H G B) (RS : RelH K fa S H G B)
    (hi : r[i]? = some (some (true, .lst ds))) (sv : σ[i]? = some (some (.ref p))) (ok : SlotOk K fa Hs H G B (.ref p) true (.lst ds)) (dt : Dats K fa G B ws es) :
    StF Hs Gs Bs Gl Bl (upd H p (.lst ws)) G B ∧ RelR K fa Hs (r.set i (some (true, .lst es))) σ (upd H p (.lst ws)) G B ∧ RelH K fa S (upd H p (.lst ws)) G B := by
  obtain ⟨a, us, ds', ea, ed, h1, h2, h3, h4, h5⟩ := ok
  cases ea
  have stw : StF Hs Gs Bs Gl Bl (upd H p (.lst ws)) G B := st0.wrF h4
  have rsw := RS.wrF (o' := .lst ws) h1 h2 h3
  have hl : i < σ.length := (List.getElem?_eq_some_iff.mp sv).1
  refine ⟨stw, ?_, rsw⟩
  have R1 : RelR K fa Hs (r.set i none) σ (upd H p (.lst ws)) G B := by
    refine ⟨by rw [List.length_set]; exact R.len, fun j own d hj => ?_, fun j l d e hj hl' hn => ?_⟩
    · by_cases z : i = j
      · subst z
        rw [List.getElem?_set_self (by rw [R.len]; exact hl)] at hj
        cases hj
      · rw [List.getElem?_set_ne z] at hj
        obtain ⟨v, f1, f2⟩ := R.at_ j own d hj
        refine ⟨v, f1, ?_⟩
        cases own with
        | false => exact f2
        | true =>
          obtain ⟨b, xs, ys, rfl, rfl, g1, g2, g3, g4, g5⟩ := f2
          have nb : b ≠ p := fun w => by
            subst w
            exact R.dist i j _ _ hi hj z (sv.trans f1.symm)
          exact ⟨b, xs, ys, rfl, rfl, by rw [upd_ne nb]; exact g1, g2, g3, g4, g5⟩
    · have zj : i ≠ j := fun z => by
        subst z
        rw [List.getElem?_set_self (by rw [R.len]; exact hl)] at hj
        cases hj
      have zl : i ≠ l := fun z => by
        subst z
        rw [List.getElem?_set_self (by rw [R.len]; exact hl)] at hl'
        cases hl'
      rw [List.getElem?_set_ne zj] at hj
      rw [List.getElem?_set_ne zl] at hl'
      exact R.dist j l d e hj hl' hn
  have R2 := R1.setm (i := i) (v := .ref p) (d := .lst es) ⟨p, ws, es, rfl, rfl, upd_same, h2, h3, h4, dt⟩ fun j e hj he => by
    rw [List.getElem?_set_ne (Ne.symm hj)] at he
    rw [← sv]
    exact fun z => R.dist i j _ _ hi he (Ne.symm hj) z.symm
  rw [List.set_set] at R2
  have es' : σ.set i (some (.ref p)) = σ := by
    apply List.ext_getElem?
    intro k
    by_cases z : i = k
    · subst z; rw [List.getElem?_set_self hl, sv]
    · rw [List.getElem?_set_ne z]
  rw [es'] at R2
  exact R2
theorem SR.wr {K : PySem.W.Frag} {r : Rho} {σ : Slots} {H G : Hp} {B : List Addr} {S : Sto} {i : Nat} {p : Addr} {ws : List V} {ds es : List D} (st0 : StF Hs Gs Bs Gl Bl H G B) (R : RelR K fa Hs r σ H G B) (RS : RelH K fa S H G B)
    (hi : r[i]? = some (some (true, .lst ds))) (sv : σ[i]? = some (some (.ref p))) (ok : SlotOk K fa Hs H G B (.ref p) true (.lst ds)) (dt : Dats K fa G B ws es) :
    SR K fa Hs Gs Bs Gl Bl (r.set i (some (true, .lst es))) S σ (upd H p (.lst ws)) := ⟨G, B, SR.wr3 st0 R RS hi sv ok dt⟩

theorem ss_app {st : Stmt} {i : Nat} {e : E} (hp : PS X st (tDrop (tBM X.K "list" rAppend (tVar i) (tCons (AE P cf fa Hs X.K e) tNil)))) : SS P cf fa Hs Gs Bs X st (.app i e) := by
  refine hp.wk fun D σ H ⟨r, S, o, S', hv, Gl, Bl, ⟨G, B, st0, R, RS⟩, q⟩ => ?_
  simp only [exS] at hv
  obtain ⟨⟨d, S1⟩, e1, hv⟩ := Option.bind_eq_some_iff.mp hv
  split at hv
  · rename_i ds hd
    split at hv
    · rename_i c
      cases hv
      obtain ⟨v, sv, ok⟩ := R.at_ i true _ hd
      have ok0 := ok
      obtain ⟨a, vs, ds', rfl, ed, h1, h2, h3, h4, h5⟩ := ok
      cases ed
      refine ⟨_, sv, .inl ⟨rfl, vs, .of h1⟩, r, S, d, _, e1, G, B, R, RS, fun w H' G' B' st1 rs dt => ?_⟩
      have ok1 := ok0.step st1
      obtain ⟨b, us, es, eb, ee, g1, g2, g3, g4, g5⟩ := id ok1
      cases eb
      cases ee
      exact ⟨_, us, w, rfl, rfl, g1, by rw [Dats.length _ _ g5, sizeLine_eq]; omega, q _ _ (SR.wr (st0.trans st1) (R.step st1) rs hd sv ok1 (g5.app (Dats.one dt)))⟩
    · cases hv
  · cases hv
/-- x.insert(i, y) -/
def rIns : V → List V → Hp → VK → Prop := fun x vs H Q => ∃ (l : Addr) (xs : List V) (i : Int) (y : V), x = .ref l ∧ vs = [.int i, y] ∧ H l = some (.lst xs) ∧ xs.length < sizeLine ∧ 0 ≤ i ∧ i < 2 ^ 63 ∧
    Q .non (upd H l (.lst (xs.take i.toNat ++ [y] ++ xs.drop i.toNat)))
theorem ss_ins {st : Stmt} {i : Nat} {a b : E} (hp : PS X st (tDrop (tBM X.K "list" rIns (tVar i) (tCons (AE P cf fa Hs X.K a) (tCons (AE P cf fa Hs X.K b) tNil))))) : SS P cf fa Hs Gs Bs X st (.ins i a b) := by
  refine hp.wk fun D σ H ⟨r, S, o, S', hv, Gl, Bl, ⟨G, B, st0, R, RS⟩, q⟩ => ?_
  simp only [exS] at hv
  obtain ⟨⟨d1, S1⟩, e1, hv⟩ := Option.bind_eq_some_iff.mp hv
  obtain ⟨⟨d2, S2⟩, e2, hv⟩ := Option.bind_eq_some_iff.mp hv
  split at hv
  · rename_i ds k hd hk
    split at hv
    · rename_i c
      cases hv
      have hk' : d1 = .int k := hk
      subst hk'
      obtain ⟨v, sv, ok⟩ := R.at_ i true _ hd
      have ok0 := ok
      obtain ⟨p, vs, ds', rfl, ed, h1, h2, h3, h4, h5⟩ := ok
      cases ed
      refine ⟨_, sv, .inl ⟨rfl, vs, .of h1⟩, r, S, _, S1, e1, G, B, R, RS, fun w1 H1 G1 B1 st1 rs1 dt1 => ⟨r, S1, _, S2, e2, G1, B1, R.step st1, rs1, fun w2 H2 G2 B2 st2 rs2 dt2 => ?_⟩⟩
      have ok1 := (ok0.step st1).step st2
      obtain ⟨b', us, es, eb, ee, g1, g2, g3, g4, g5⟩ := id ok1
      cases eb
      cases ee
      have hw : w1 = .int k := dt1
      subst hw
      have hl := Dats.length _ _ g5
      have el : ds.take k.toNat ++ d2 :: ds.drop k.toNat = ds.take k.toNat ++ [d2] ++ ds.drop k.toNat := by simp
      rw [el] at q
      exact ⟨_, us, k, w2, rfl, rfl, g1, by rw [hl, sizeLine_eq]; omega, c.2.1, by have := c.2.2; have := c.1; omega, q _ _ (SR.wr ((st0.trans st1).trans st2) ((R.step st1).step st2) rs2 hd sv ok1 (((g5.take k.toNat).app (Dats.one dt2)).app (g5.drop k.toNat)))⟩
    · cases hv
  · cases hv
theorem ss_ext {st : Stmt} {i : Nat} {e : E} (hp : PS X st (tDrop (tBM X.K "list" rExtend (tVar i) (tCons (AE P cf fa Hs X.K e) tNil)))) : SS P cf fa Hs Gs Bs X st (.ext i e) := by
  refine hp.wk fun D σ H ⟨r, S, o, S', hv, Gl, Bl, ⟨G, B, st0, R, RS⟩, q⟩ => ?_
  simp only [exS] at hv
  obtain ⟨⟨d, S1⟩, e1, hv⟩ := Option.bind_eq_some_iff.mp hv
  split at hv
  · rename_i ds xs hd hx
    split at hv
    · rename_i c
      cases hv
      obtain ⟨v, sv, ok⟩ := R.at_ i true _ hd
      have ok0 := ok
      obtain ⟨a, vs, ds', rfl, ed, h1, h2, h3, h4, h5⟩ := ok
      cases ed
      refine ⟨_, sv, .inl ⟨rfl, vs, .of h1⟩, r, S, d, _, e1, G, B, R, RS, fun w H' G' B' st1 rs dt => ?_⟩
      have ok1 := ok0.step st1
      obtain ⟨b, us, es, eb, ee, g1, g2, g3, g4, g5⟩ := id ok1
      cases eb
      cases ee
      have hx' : d = .lst xs := hx
      subst hx'
      obtain ⟨b2, ws, rfl, f1, f2⟩ := dt
      exact ⟨_, b2, us, ws, rfl, rfl, g1, rs.sub _ _ f1, by rw [Dats.length _ _ g5, Dats.length _ _ f2, sizeLine_eq]; omega, q _ _ (SR.wr (st0.trans st1) (R.step st1) rs hd sv ok1 (g5.app f2))⟩
    · cases hv
  · cases hv

theorem ss_ite {st : Stmt} {c : E} {a b : List C} (hp : PS X st (tIfS (AT P cf fa Hs X.K c) (AB X.K fa Hs Gs Bs P cf a) (AB X.K fa Hs Gs Bs P cf b))) : SS P cf fa Hs Gs Bs X st (.ite c a b) := by
  refine hp.wk fun D σ H ⟨r, S, o, S', hv, Gl, Bl, ⟨G, B, st0, R, RS⟩, q⟩ => ?_
  simp only [exS] at hv
  obtain ⟨⟨d, S1⟩, e1, hv⟩ := Option.bind_eq_some_iff.mp hv
  cases d <;> first | cases hv | skip
  rename_i k
  refine ⟨r, S, k, S1, e1, G, B, R, RS, fun H' G' B' st1 rs => ?_⟩
  have sr : SR X.K fa Hs Gs Bs Gl Bl r S1 σ H' := ⟨G', B', st0.trans st1, R.step st1, rs⟩
  cases k with
  | true => exact iteT ⟨r, S1, o, S', hv, Gl, Bl, sr, q⟩
  | false => exact iteF ⟨r, S1, o, S', hv, Gl, Bl, sr, q⟩

theorem ss_ret {st : Stmt} {e : E} (hp : PS X st (tRet (AE P cf fa Hs X.K e))) : SS P cf fa Hs Gs Bs X st (.ret e) := by
  refine hp.wk fun D σ H ⟨r, S, o, S', hv, Gl, Bl, ⟨G, B, st0, R, RS⟩, q⟩ => ?_
  simp only [exS] at hv
  obtain ⟨⟨d, S1⟩, e1, hv⟩ := Option.map_eq_some_iff.mp hv
  cases hv
  exact ⟨r, S, d, _, e1, G, B, R, RS, fun v H' G' B' st1 rs dt => q v H' G' B' (st0.trans st1).1 rs dt⟩
theorem ss_pas {st : Stmt} (hp : PS X st tNext) : SS P cf fa Hs Gs Bs X st .pas := by
  refine hp.wk fun D σ H ⟨r, S, o, S', hv, Gl, Bl, sr, q⟩ => ?_
  simp only [exS] at hv
  cases hv
  exact q σ H sr
theorem ss_brk {st : Stmt} (hp : PS X st tBreak) : SS P cf fa Hs Gs Bs X st .brk := by
  refine hp.wk fun D σ H ⟨r, S, o, S', hv, Gl, Bl, sr, q⟩ => ?_
  simp only [exS] at hv
  cases hv
  exact q σ H sr
theorem ss_cnt {st : Stmt} (hp : PS X st tCont) : SS P cf fa Hs Gs Bs X st .cnt := by
  refine hp.wk fun D σ H ⟨r, S, o, S', hv, Gl, Bl, sr, q⟩ => ?_
  simp only [exS] at hv
  cases hv
  exact q σ H sr
theorem ss_bad {st : Stmt} : SS P cf fa Hs Gs Bs X st .bad := by
  refine ps_never.wk fun D σ H ⟨r, S, o, S', hv, Gl, Bl, sr, q⟩ => ?_
  simp only [exS] at hv
  cases hv

/-- owned lists become values -/
theorem SR.frz1 {K : PySem.W.Frag} {r : Rho} {σ : Slots} {H : Hp} {S : Sto} {i : Nat} {own : Bool} {d : D} (h : SR K fa Hs Gs Bs Gl Bl r S σ H) (hi : r[i]? = some (some (own, d))) : SR K fa Hs Gs Bs Gl Bl (r.set i (some (false, d))) S σ H := by
  obtain ⟨G, B, st0, R, RS⟩ := h
  obtain ⟨v, sv, ok⟩ := R.at_ i own d hi
  have hl : i < σ.length := (List.getElem?_eq_some_iff.mp sv).1
  have es' : σ.set i (some v) = σ := by
    apply List.ext_getElem?
    intro k
    by_cases z : i = k
    · subst z; rw [List.getElem?_set_self hl, sv]
    · rw [List.getElem?_set_ne z]
  cases own with
  | false =>
    have R2 := R.setv (i := i) (v := v) (d := d) ok
    rw [es'] at R2
    exact ⟨G, B, st0, R2, RS⟩
  | true =>
    obtain ⟨a, vs, ds, rfl, rfl, h1, h2, h3, h4, h5⟩ := ok
    have kG : ∀ b u, G b = some u → upd G a (.lst vs) b = some u := fun b u e => by rw [upd_ne (ne_of_none e h2)]; exact e
    have ne1 : ∀ b u, upd G a (.lst vs) b = some u → b ≠ a → G b = some u := fun b u e n => by rw [upd_ne n] at e; exact e
    have st1 : StF Hs Gs Bs Gl Bl H (upd G a (.lst vs)) B := ⟨⟨st0.1.keep, st0.1.liv, fun b u e => kG b u (st0.1.sub b u e), fun b u e => by
      by_cases n : b = a
      · subst n; exact .inr h4
      · exact st0.1.fr b u (ne1 b u e n), st0.1.pre⟩, fun b u e => kG b u (st0.2.1 b u e), st0.2.2⟩
    have rs1 : RelH K fa S H (upd G a (.lst vs)) B := ⟨fun b u e => by
      by_cases n : b = a
      · subst n; rw [upd_same] at e; cases e; exact h1
      · exact RS.sub b u (ne1 b u e n), RS.len, RS.nd, fun n ds' e => by
        obtain ⟨b, ws, f1, f2, f3, f4, f5⟩ := RS.at_ n ds' e
        have nb : b ≠ a := fun z => h3 (by rw [← z]; exact List.mem_of_getElem? f1)
        exact ⟨b, ws, f1, f2, by rw [upd_ne nb]; exact f3, Dats.up kG ⟨[], by simp⟩ _ _ f4, f5⟩⟩
    -- the other names
    have R1 : RelR K fa Hs (r.set i none) σ H (upd G a (.lst vs)) B := by
      refine ⟨by rw [List.length_set]; exact R.len, fun j own e hj => ?_, fun j l e f hj hl' hn => ?_⟩
      · by_cases z : i = j
        · subst z
          rw [List.getElem?_set_self (by rw [R.len]; exact hl)] at hj
          cases hj
        · rw [List.getElem?_set_ne z] at hj
          obtain ⟨v, f1, f2⟩ := R.at_ j own e hj
          refine ⟨v, f1, ?_⟩
          cases own with
          | false => exact Dat.up kG ⟨[], by simp⟩ _ _ f2
          | true =>
            obtain ⟨b, xs, ys, rfl, rfl, g1, g2, g3, g4, g5⟩ := f2
            have nb : b ≠ a := fun w => by
              subst w
              exact R.dist i j _ _ hi hj z (sv.trans f1.symm)
            exact ⟨b, xs, ys, rfl, rfl, g1, by rw [upd_ne nb]; exact g2, g3, g4, Dats.up kG ⟨[], by simp⟩ _ _ g5⟩
      · have zj : i ≠ j := fun z => by
          subst z
          rw [List.getElem?_set_self (by rw [R.len]; exact hl)] at hj
          cases hj
        have zl : i ≠ l := fun z => by
          subst z
          rw [List.getElem?_set_self (by rw [R.len]; exact hl)] at hl'
          cases hl'
        rw [List.getElem?_set_ne zj] at hj
        rw [List.getElem?_set_ne zl] at hl'
        exact R.dist j l e f hj hl' hn
    have R2 := R1.setv (i := i) (v := .ref a) (d := .lst ds) ⟨a, vs, rfl, upd_same, Dats.up kG ⟨[], by simp⟩ _ _ h5⟩
    rw [List.set_set, es'] at R2
    exact ⟨upd G a (.lst vs), B, st1, R2, rs1⟩
theorem SR.frz {K : PySem.W.Frag} {r : Rho} {σ : Slots} {H : Hp} {S : Sto} (h : SR K fa Hs Gs Bs Gl Bl r S σ H) : ∀ is : List Nat, SR K fa Hs Gs Bs Gl Bl (frzR r is) S σ H
  | [] => h
  | i :: is => by
    have ih := SR.frz h is
    unfold frzR
    split
    · rename_i own d e
      exact ih.frz1 e
    · exact ih
theorem ss_frz {st : Stmt} {is : List Nat} {c : C} (h : SS P cf fa Hs Gs Bs X st c) : SS P cf fa Hs Gs Bs X st (.frz is c) := by
  refine PS.wk h fun D σ H ⟨r, S, o, S', hv, Gl, Bl, sr, q⟩ => ?_
  simp only [exS] at hv
  exact ⟨frzR r is, S, o, S', hv, Gl, Bl, sr.frz is, q⟩

/-! two at once, some of them new lists; a list's item; a list that is lent -/
theorem RelR.setX {K : PySem.W.Frag} {H0 : Hp} {r : Rho} {σ : Slots} {H G H' G' : Hp} {B B' : List Addr} {i : Nat} {v : V} {own : Bool} {d : Pv.D} (R : RelR K fa H0 r σ H G B) (st : Stp H G B H' G' B') (h : SlotOk K fa H0 H' G' B' v own d)
    (fr : own = true → ∀ a, v = .ref a → H a = none) : RelR K fa H0 (r.set i (some (own, d))) (σ.set i (some v)) H' G' B' := by
  cases own with
  | false => exact (R.step st).setv h
  | true =>
    refine (R.step st).setm h fun j e _ he z => ?_
    obtain ⟨w, sw, ⟨a, ws, es, rfl, rfl, h1, _⟩⟩ := R.at_ j true e he
    rw [sw] at z
    cases z
    rw [fr rfl a rfl] at h1
    cases h1
/-- a value, or a new list that is owned -/
def AG (P : Prg) (cf : Nat → List Pv.D → Sto → Option (Pv.D × Sto)) (fa : Nat → Addr) (Hs : Hp) (K : PySem.W.Frag) : Bool → E → TE
  | false, e => AE P cf fa Hs K e
  | true, e => AF K fa Hs P cf e
theorem AG.go {K : PySem.W.Frag} {own : Bool} {e : E} {r : Rho} {S S1 : Sto} {d : Pv.D} {σ : Slots} {H G : Hp} {B : List Addr} {Q : VK} (hv : evE P cf e r S = some (d, S1)) (ho : okOwn own d = true) (R : RelR K fa Hs r σ H G B) (RS : RelH K fa S H G B) (hl : ∀ a, Hs a ≠ none → H a ≠ none)
    (q : ∀ v H1 G1 B1, Stp H G B H1 G1 B1 → RelH K fa S1 H1 G1 B1 → SlotOk K fa Hs H1 G1 B1 v own d → (own = true → ∀ a, v = .ref a → H a = none) → Q v H1) : AG P cf fa Hs K own e σ H Q := by
  cases own with
  | false => exact ⟨r, S, d, S1, hv, G, B, R, RS, fun v H' G' B' st rs dt => q v H' G' B' st rs dt fun z => nomatch z⟩
  | true =>
    cases d <;> first | cases ho | skip
    rename_i ds
    refine ⟨r, S, ds, S1, hv, G, B, R, RS, fun p vs H' G' B' hp st rs dt => ?_⟩
    have hH : H p = none := by
      cases z : H p with
      | none => rfl
      | some u => exact absurd hp (st.liv p (by rw [z]; simp))
    have hH0 : Hs p = none := by
      cases z : Hs p with
      | none => rfl
      | some u => exact absurd hH (hl p (by rw [z]; simp))
    obtain ⟨st2, rs2⟩ := rs.layF (o := .lst vs) hp
    exact q _ _ _ _ (st.trans st2) rs2 ⟨p, vs, ds, rfl, rfl, upd_same, rs.nG hp, rs.nB hp, hH0, dt⟩ fun _ a e => by cases e; exact hH
theorem ss_par2x {st : Stmt} {i j : Nat} {a b : Bool} {e f : E} (hp : PS X st (tPar i j (tCons (AG P cf fa Hs X.K a e) (tCons (AG P cf fa Hs X.K b f) tNil)))) : SS P cf fa Hs Gs Bs X st (.par2 i a e j b f) := by
  refine hp.wk fun D σ H ⟨r, S, o, S', hv, Gl, Bl, ⟨G, B, st0, R, RS⟩, q⟩ => ?_
  simp only [exS] at hv
  obtain ⟨⟨d1, S1⟩, e1, hv⟩ := Option.bind_eq_some_iff.mp hv
  obtain ⟨⟨d2, S2⟩, e2, hv⟩ := Option.bind_eq_some_iff.mp hv
  split at hv
  · rename_i c
    simp only [Bool.and_eq_true] at c
    cases hv
    refine AG.go e1 c.1.1 R RS st0.liv fun v1 H1 G1 B1 st1 rs1 ok1 fr1 => ?_
    have liv1 : ∀ a, Hs a ≠ none → H1 a ≠ none := fun a h => st1.liv a (st0.liv a h)
    refine AG.go e2 c.1.2 (R.step st1) rs1 liv1 fun v2 H2 G2 B2 st2 rs2 ok2 fr2 => ?_
    exact ⟨v1, v2, rfl, q _ _ ⟨G2, B2, (st0.trans st1).trans st2, (R.setX st1 ok1 fr1).setX st2 ok2 fr2, rs2⟩⟩
  · cases hv
theorem ss_puto {st : Stmt} {i : Nat} {k e : E} (hp : PS X st (tAsg (AE P cf fa Hs X.K e) (gSub (tVar i) (AE P cf fa Hs X.K k) rSetL))) : SS P cf fa Hs Gs Bs X st (.puto i k e) := by
  refine hp.wk fun D σ H ⟨r, S, o, S', hv, Gl, Bl, ⟨G, B, st0, R, RS⟩, q⟩ => ?_
  simp only [exS] at hv
  obtain ⟨⟨d1, S1⟩, e1, hv⟩ := Option.bind_eq_some_iff.mp hv
  obtain ⟨⟨d2, S2⟩, e2, hv⟩ := Option.bind_eq_some_iff.mp hv
  split at hv
  · rename_i ds t hd ht
    have ht' : d2 = .int t := ht
    subst ht'
    obtain ⟨j, e5, hv⟩ := Option.map_eq_some_iff.mp hv
    cases hv
    obtain ⟨v, sv, ok⟩ := R.at_ i true _ hd
    have ok0 := ok
    obtain ⟨p, vs, ds', rfl, ed, h1, h2, h3, h4, h5⟩ := ok
    cases ed
    refine ⟨r, S, d1, S1, e1, G, B, R, RS, fun w H1 G1 B1 st1 rs1 dt1 => ⟨_, sv, r, S1, _, S2, e2, G1, B1, R.step st1, rs1, fun w2 H2 G2 B2 st2 rs2 dt2 => ?_⟩⟩
    cases dt2
    have ok2 := (ok0.step st1).step st2
    obtain ⟨b', us, es, eb, ee, g1, g2, g3, g4, g5⟩ := id ok2
    cases eb
    cases ee
    exact ⟨_, us, t, j, rfl, rfl, g1, by rw [Dats.length _ _ g5]; exact e5, q _ _ (SR.wr ((st0.trans st1).trans st2) ((R.step st1).step st2) rs2 hd sv ok2 (Dats.set j g5 (st2.dat dt1)))⟩
  · cases hv
theorem pures_app : ∀ (a b : List Pv.D), pures a = true → pures b = true → pures (a ++ b) = true
  | [], _, _, h => h
  | x :: a, b, h, g => by
    have h' : (x.pure && pures a) = true := h
    rw [Bool.and_eq_true] at h'
    show (x.pure && pures (a ++ b)) = true
    rw [h'.1, pures_app a b h'.2 g]; rfl
theorem pures_take : ∀ (n : Nat) (a : List Pv.D), pures a = true → pures (a.take n) = true
  | 0, _, _ => rfl
  | n + 1, [], _ => rfl
  | n + 1, x :: a, h => by
    have h' : (x.pure && pures a) = true := h
    rw [Bool.and_eq_true] at h'
    show (x.pure && pures (a.take n)) = true
    rw [h'.1, pures_take n a h'.2]; rfl
theorem pures_drop : ∀ (n : Nat) (a : List Pv.D), pures a = true → pures (a.drop n) = true
  | 0, _, h => h
  | n + 1, [], _ => rfl
  | n + 1, x :: a, h => by
    have h' : (x.pure && pures a) = true := h
    rw [Bool.and_eq_true] at h'
    exact pures_drop n a h'.2
theorem ss_insr {st : Stmt} {i : Nat} {a b : E} (hp : PS X st (tDrop (tBM X.K "list" rIns (tVar i) (tCons (AE P cf fa Hs X.K a) (tCons (AE P cf fa Hs X.K b) tNil))))) : SS P cf fa Hs Gs Bs X st (.insr i a b) := by
  refine hp.wk fun D σ H ⟨r, S, o, S', hv, Gl, Bl, ⟨G, B, st0, R, RS⟩, q⟩ => ?_
  simp only [exS] at hv
  obtain ⟨⟨d1, S1⟩, e1, hv⟩ := Option.bind_eq_some_iff.mp hv
  obtain ⟨⟨d2, S2⟩, e2, hv⟩ := Option.bind_eq_some_iff.mp hv
  split at hv
  · rename_i n k hd hk
    obtain ⟨ds, e4, hv⟩ := Option.bind_eq_some_iff.mp hv
    split at hv
    · rename_i c
      cases hv
      have hk' : d1 = .int k := hk
      subst hk'
      obtain ⟨v, sv, ok⟩ := R.at_ i false _ hd
      obtain ⟨p, rfl, hb⟩ := (show Dat X.K fa G B v (.ref n) from ok)
      obtain ⟨vs0, h1, _⟩ := RS.Bsome (List.mem_of_getElem? hb)
      refine ⟨_, sv, .inl ⟨rfl, vs0, .of h1⟩, r, S, _, S1, e1, G, B, R, RS, fun w1 H1 G1 B1 st1 rs1 dt1 => ⟨r, S1, _, S2, e2, G1, B1, R.step st1, rs1, fun w2 H2 G2 B2 st2 rs2 dt2 => ?_⟩⟩
      have hw : w1 = .int k := dt1
      subst hw
      obtain ⟨p', ep, hb2⟩ := st2.dat (st1.dat (show Dat X.K fa G B (.ref p) (.ref n) from ⟨p, rfl, hb⟩))
      cases ep
      obtain ⟨p'', us, f1, f2, f3, f4, f5⟩ := rs2.at_ n ds e4
      rw [hb2] at f1; cases f1
      have hl := Dats.length _ _ f4
      have el : ds.take k.toNat ++ d2 :: ds.drop k.toNat = ds.take k.toNat ++ [d2] ++ ds.drop k.toNat := by simp
      rw [el] at q
      have hpu : pures (ds.take k.toNat ++ [d2] ++ ds.drop k.toNat) = true := by
        refine pures_app _ _ (pures_app _ _ (pures_take _ _ f5) ?_) (pures_drop _ _ f5)
        show (d2.pure && true) = true
        have := c.2.2.2
        rw [this]; rfl
      obtain ⟨st4, rs4⟩ := rs2.wr hb2 (((f4.take k.toNat).app (Dats.one dt2)).app (f4.drop k.toNat)) hpu
      exact ⟨_, us, k, w2, rfl, rfl, f2, by rw [hl, sizeLine_eq]; omega, c.2.1, by have := c.2.2.1; have := c.1; omega, q _ _ ⟨G2, B2, ((st0.trans st1).trans st2).trans st4, ((R.step st1).step st2).step st4, rs4⟩⟩
    · cases hv
  · cases hv

theorem RelH.lend {K : PySem.W.Frag} {H G : Hp} {B : List Addr} {S : Sto} {a : Addr} {vs : List V} {ds : List Pv.D} (R : RelH K fa S H G B) (h1 : H a = some (.lst vs)) (h2 : G a = none) (h3 : a ∉ B) (hd : Dats K fa G B vs ds) (hp : pures ds = true) : RelH K fa (S ++ [ds]) H G (B ++ [a]) := by
  refine ⟨R.sub, by simp [R.len], ?_, fun n es e => ?_⟩
  · exact List.nodup_append.mpr ⟨R.nd, by simp, fun x hx b hb => by
      have e : b = a := by simpa using hb
      subst e
      exact fun z => h3 (z ▸ hx)⟩
  · by_cases hn : n < S.length
    · rw [List.getElem?_append_left hn] at e
      obtain ⟨x, ws, e1, e2, e3, e4, e5⟩ := R.at_ n es e
      exact ⟨x, ws, by rw [List.getElem?_append_left (by rw [R.len]; exact hn)]; exact e1, e2, e3, Dats.up (fun _ _ q => q) ⟨[a], rfl⟩ es ws e4, e5⟩
    · rw [List.getElem?_append_right (by omega)] at e
      have hz : n - S.length = 0 := by
        cases q : n - S.length with
        | zero => rfl
        | succ m => rw [q] at e; simp at e
      rw [hz] at e
      have e' : ds = es := by simpa using e
      subst e'
      exact ⟨a, vs, by rw [List.getElem?_append_right (by rw [R.len]; omega), R.len, hz]; rfl, h1, h2, Dats.up (fun _ _ q => q) ⟨[a], rfl⟩ ds vs hd, hp⟩
theorem RelH.back {K : PySem.W.Frag} {H G : Hp} {B : List Addr} {S : Sto} {a : Addr} {ys : List Pv.D} (R : RelH K fa S H G (B ++ [a])) (hy : S[B.length]? = some ys) :
    RelH K fa (S.take B.length) H G B ∧ ∃ ws, H a = some (.lst ws) ∧ G a = none ∧ a ∉ B ∧ Dats K fa G B ws ys ∧ pures ys = true := by
  have hl := R.len
  rw [List.length_append, List.length_singleton] at hl
  obtain ⟨nB, _, nd⟩ := List.nodup_append.mp R.nd
  refine ⟨⟨R.sub, by rw [List.length_take]; omega, nB, fun n ds e => ?_⟩, ?_⟩
  · have hn : n < B.length := by
      have := (List.getElem?_eq_some_iff.mp e).1
      rw [List.length_take] at this
      omega
    rw [List.getElem?_take_of_lt hn] at e
    obtain ⟨x, ws, e1, e2, e3, e4, e5⟩ := R.at_ n ds e
    rw [List.getElem?_append_left hn] at e1
    exact ⟨x, ws, e1, e2, e3, Dats.nob ds ws e5 e4, e5⟩
  · obtain ⟨x, ws, e1, e2, e3, e4, e5⟩ := R.at_ _ ys hy
    rw [List.getElem?_append_right (Nat.le_refl _), Nat.sub_self] at e1
    have e1' : a = x := by simpa using e1
    subst e1'
    exact ⟨ws, e2, e3, fun z => nd _ z a (by simp) rfl, Dats.nob ys ws e5 e4, e5⟩
theorem StF.lend {H G H' G' : Hp} {B : List Addr} {a : Addr} (s : StF Hs Gs Bs Gl Bl H G B) (t : Stp H G (B ++ [a]) H' G' (B ++ [a])) (h : Hs a = none) : StF Hs Gs Bs Gl Bl H' G' B := by
  obtain ⟨⟨k1, k2, k3, k4, C, eC, hC⟩, f1, f2⟩ := s
  refine ⟨⟨fun x o hx nb => t.keep x o (k1 x o hx nb) fun z => ?_, fun x hx => t.liv x (k2 x hx), fun x o hx => t.sub x o (k3 x o hx), fun x o hx => ?_, C, eC, hC⟩, fun x o hx => t.sub x o (f1 x o hx), f2⟩
  · rcases List.mem_append.mp z with z | z
    · rw [eC] at z
      rcases List.mem_append.mp z with z | z
      · exact nb z
      · rw [hC x z] at hx; cases hx
    · have : x = a := by simpa using z
      subst this
      rw [h] at hx; cases hx
  · rcases t.fr x o hx with g | g
    · exact k4 x o g
    · right
      cases z : Hs x with
      | none => rfl
      | some u => exact absurd g (k2 x (by rw [z]; simp))
/-- a call whose first argument is an owned list -/
def AL (P : Prg) (cf : Nat → List Pv.D → Sto → Option (Pv.D × Sto)) (fa : Nat → Addr) (H0 : Hp) (K : PySem.W.Frag) (i j : Nat) (es : List E) : TE := fun σ H Q => ∃ r S ds S1 xs d S2 G B, evEs P cf es r S = some (ds, S1) ∧ r[i]? = some (some (true, .lst xs)) ∧ pures xs = true ∧ cf j (.ref S1.length :: ds) (S1 ++ [xs]) = some (d, S2) ∧
  RelR K fa H0 r σ H G B ∧ RelH K fa S H G B ∧ ∀ v a H1 G1 B1 H' G' B', σ[i]? = some (some (.ref a)) → Stp H G B H1 G1 B1 → RelH K fa S1 H1 G1 B1 → H0 a = none → Stp H1 G1 (B1 ++ [a]) H' G' B' → RelH K fa S2 H' G' B' → Q v H'
theorem s_lnd (W : Wd P cf fa X N sc) (ar : Arity P cf) {i j : Nat} {g : Fn} (hj : P.fns[j]? = some g) {es : List E} {y : Str} {xs : List Expr} {p py pos : Pos} (hg : L2.Gl X g.name) (hd : (g.name == ("__debug__" : Str)) = false)
    (hi : X.N[i]? = some y) (vis : Vis X.env.scope y) (y1 : (y == ("__debug__" : Str)) = false) (y2 : (y == ("__classdict__" : Str)) = false) (hxs : xs.all noStar = true) (ha : SA P cf fa Hs X xs es) : PE X (.Call (.Name g.name p) (.Name y py :: xs) [] pos) (AL P cf fa Hs X.K i j es) := by
  refine ⟨fun pins s σ H Q I ⟨r, S, ds, S1, zs, d, S2, G, B, e1, hr, hp, hc, R, RS, q⟩ => ?_⟩
  obtain ⟨v, sv, ok⟩ := R.at_ i true _ hr
  have ok0 := ok
  obtain ⟨a, vs, ds', rfl, ed, h1, h2, h3, h4, h5⟩ := ok
  cases ed
  have hst := star_of (X := X) (e := .Name y py) (es := xs) rfl
  refine wpAny_Call_Name_kw (ld_glob I hg (W.fnv j g hj).1 ?_ hd)
  refine PySem.W.callWith_K (h₀ := X.base) I.ok.mod.kin (W.fnv j g hj).2 (thn ((pa_cons (pe_var hi vis y1 y2) (ha r S _ _ e1) hst).run pos pins s σ H (fun vs H1 => ∃ ws G1 B1, vs = .ref a :: ws ∧ Stp H G B H1 G1 B1 ∧ RelH X.K fa S1 H1 G1 B1 ∧ Dats X.K fa G1 B1 ws ds) I
    ⟨_, sv, G, B, R, RS, fun ws H1 G1 B1 st rs dt => ⟨ws, G1, B1, rfl, st, rs, dt⟩⟩) fun us s1 ⟨vs', H1, I1, rv, ws, G1, B1, ev, st, rs, dt⟩ => ⟨I1.kIn, ?_⟩) hst (plain_of hxs)
  subst ev
  obtain ⟨b', us', es', eb, ee, g1, g2, g3, g4, g5⟩ := ok0.step st
  cases eb
  cases ee
  have rsL := rs.lend g1 g2 g3 g5 hp
  have dtL : Dats X.K fa G1 (B1 ++ [a]) (.ref a :: ws) (.ref S1.length :: ds) := ⟨_, _, rfl, ⟨a, rfl, by rw [← rs.len, List.getElem?_append_right (Nat.le_refl _), Nat.sub_self]; rfl⟩, Dats.up (fun _ _ z => z) ⟨[a], rfl⟩ ds ws dt⟩
  exact run_call W hj I1 rv rsL dtL hc (ar j g _ _ _ hj hc) fun v H' G' B' st2 rs2 _ => q v a H1 G1 B1 H' G' B' sv st rs h4 st2 rs2
theorem ss_lnd {st : Stmt} {i j : Nat} {es : List E} (hp : PS X st (tDrop (AL P cf fa Hs X.K i j es))) : SS P cf fa Hs Gs Bs X st (.lnd i j es) := by
  refine hp.wk fun D σ H ⟨r, S, o, S', hv, Gl, Bl, ⟨G, B, st0, R, RS⟩, q⟩ => ?_
  simp only [exS] at hv
  obtain ⟨⟨ds, S1⟩, e1, hv⟩ := Option.bind_eq_some_iff.mp hv
  split at hv
  · rename_i zs hd
    split at hv
    · rename_i hpu
      obtain ⟨⟨d, S2⟩, e2, hv⟩ := Option.bind_eq_some_iff.mp hv
      obtain ⟨ys, e3, hv⟩ := Option.bind_eq_some_iff.mp hv
      split at hv
      · rename_i hlen
        cases hv
        refine ⟨r, S, ds, S1, zs, d, S2, G, B, e1, hd, hpu, e2, R, RS, fun v a H1 G1 B1 H' G' B' sv st1 rs1 h4 st2 rs2 => q _ _ ?_⟩
        obtain ⟨C, eC, _⟩ := st2.pre
        have hC : C = [] := by
          have l1 := rs2.len
          have l2 := rs1.len
          have hl' : S2.length = S1.length + 1 := hlen
          rw [eC, List.length_append, List.length_append, List.length_singleton] at l1
          exact List.eq_nil_of_length_eq_zero (by omega)
        subst hC
        rw [List.append_nil] at eC
        subst eC
        have e3' : S2[B1.length]? = some ys := by rw [rs1.len]; exact e3
        obtain ⟨rs3, ws, g1, g2, g3, g5, _⟩ := rs2.back e3'
        rw [rs1.len] at rs3
        have R1 := R.step st1
        refine ⟨G', B1, (st0.trans st1).lend st2 h4, ?_, rs3⟩
        have hl : i < σ.length := (List.getElem?_eq_some_iff.mp sv).1
        have R2 : RelR X.K fa Hs (r.set i none) σ H' G' B1 := by
          refine ⟨by rw [List.length_set]; exact R.len, fun k own e hk => ?_, fun k l e f hk hl' hn => ?_⟩
          · by_cases z : i = k
            · subst z
              rw [List.getElem?_set_self (by rw [R.len]; exact hl)] at hk
              cases hk
            · rw [List.getElem?_set_ne z] at hk
              obtain ⟨v, f1, f2⟩ := R1.at_ k own e hk
              refine ⟨v, f1, ?_⟩
              cases own with
              | false => exact Dat.up st2.sub ⟨[], by simp⟩ _ _ f2
              | true =>
                obtain ⟨b, xs, ys', rfl, rfl, k1, k2, k3, k4, k5⟩ := f2
                have nb : b ≠ a := fun w => by
                  subst w
                  exact R.dist i k _ _ hd hk z (sv.trans f1.symm)
                refine ⟨b, xs, ys', rfl, rfl, st2.keep b _ k1 (fun w => ?_), ?_, k3, k4, Dats.up st2.sub ⟨[], by simp⟩ _ _ k5⟩
                · rcases List.mem_append.mp w with w | w
                  · exact k3 w
                  · exact nb (by simpa using w)
                · cases w : G' b with
                  | none => rfl
                  | some u =>
                    rcases st2.fr b u w with w | w
                    · rw [k2] at w; cases w
                    · rw [k1] at w; cases w
          · have zj : i ≠ k := fun z => by
              subst z
              rw [List.getElem?_set_self (by rw [R.len]; exact hl)] at hk
              cases hk
            have zl : i ≠ l := fun z => by
              subst z
              rw [List.getElem?_set_self (by rw [R.len]; exact hl)] at hl'
              cases hl'
            rw [List.getElem?_set_ne zj] at hk
            rw [List.getElem?_set_ne zl] at hl'
            exact R.dist k l e f hk hl' hn
        have R3 := R2.setm (i := i) (v := .ref a) (d := .lst ys) ⟨a, ws, ys, rfl, rfl, g1, g2, g3, h4, g5⟩ fun k e hk he => by
          rw [List.getElem?_set_ne (Ne.symm hk)] at he
          rw [← sv]
          exact fun z => R.dist i k _ _ hd he (Ne.symm hk) z.symm
        rw [List.set_set] at R3
        have es' : σ.set i (some (.ref a)) = σ := by
          apply List.ext_getElem?
          intro k
          by_cases z : i = k
          · subst z; rw [List.getElem?_set_self hl, sv]
          · rw [List.getElem?_set_ne z]
        rw [es'] at R3
        exact R3
      · cases hv
    · cases hv
  · cases hv

/-! x.append(y.pop(e)); tg = y.pop() -/
theorem ixN_bounds {n : Nat} {i : Int} {t : Nat} (h : L2.ixN n i = some t) (hn : n < 100000) : -(2 ^ 63) ≤ i ∧ i < 2 ^ 63 := by
  obtain ⟨_, _, h1, h2⟩ := L2.ixN_seq h
  omega
theorem Dats.eraseIdx {K : PySem.W.Frag} {G : Hp} {B : List Addr} : ∀ {ds : List Pv.D} {vs : List V} (t : Nat), Dats K fa G B vs ds → Dats K fa G B (vs.eraseIdx t) (ds.eraseIdx t)
  | [], _, _, h => by cases h; rfl
  | d :: ds, _, 0, h => by
    obtain ⟨v, r, rfl, h1, h2⟩ := h
    exact h2
  | d :: ds, _, t + 1, h => by
    obtain ⟨v, r, rfl, h1, h2⟩ := h
    exact ⟨v, _, rfl, h1, Dats.eraseIdx t h2⟩
theorem Dats.dropLast {K : PySem.W.Frag} {G : Hp} {B : List Addr} {ds : List Pv.D} {vs : List V} (h : Dats K fa G B vs ds) : Dats K fa G B vs.dropLast ds.dropLast := by
  rw [List.dropLast_eq_take, List.dropLast_eq_take, Dats.length _ _ h]
  exact h.take _
theorem ss_apop {st : Stmt} {i j : Nat} {e : E} (hp : PS X st (tDrop (tBM X.K "list" rAppend (tVar i) (tCons (tBM X.K "list" rPopAt (tVar j) (tCons (AE P cf fa Hs X.K e) tNil)) tNil)))) : SS P cf fa Hs Gs Bs X st (.apop i j e) := by
  refine hp.wk fun D σ H ⟨r, S, o, S', hv, Gl, Bl, ⟨G, B, st0, R, RS⟩, q⟩ => ?_
  simp only [exS] at hv
  obtain ⟨⟨d1, S1⟩, e1, hv⟩ := Option.bind_eq_some_iff.mp hv
  split at hv
  · rename_i ds ys k hi hj hk
    have hk' : d1 = .int k := hk
    subst hk'
    obtain ⟨t, e5, hv⟩ := Option.bind_eq_some_iff.mp hv
    obtain ⟨d, e6, hv⟩ := Option.bind_eq_some_iff.mp hv
    split at hv
    · rename_i c
      cases hv
      obtain ⟨hne, hd1, hd2⟩ := c
      obtain ⟨v, sv, ok⟩ := R.at_ i true _ hi
      have ok0 := ok
      obtain ⟨p, vs, ds', rfl, ed, h1, h2, h3, h4, h5⟩ := ok
      cases ed
      obtain ⟨v', sv', ok'⟩ := R.at_ j true _ hj
      have ok0' := ok'
      obtain ⟨p', vs', ys', rfl, ed', h1', h2', h3', h4', h5'⟩ := ok'
      cases ed'
      refine ⟨_, sv, .inl ⟨rfl, vs, .of h1⟩, _, sv', .inl ⟨rfl, vs', .of h1'⟩, r, S, _, S1, e1, G, B, R, RS, fun w H1 G1 B1 st1 rs1 dt1 => ?_⟩
      have hw : w = .int k := dt1
      subst hw
      have ok1 := ok0'.step st1
      obtain ⟨b', us, es, eb, ee, g1, g2, g3, g4, g5⟩ := id ok1
      cases eb
      cases ee
      have lu := Dats.length _ _ g5
      have e5' : L2.ixN us.length k = some t := by rw [lu]; exact e5
      obtain ⟨y, hy, dy⟩ := Dats.get g5 e6
      obtain ⟨bd1, bd2⟩ := ixN_bounds e5 hd2
      refine ⟨_, us, k, t, y, rfl, rfl, g1, bd1, bd2, (L2.ixN_seq e5').1, hy, ?_⟩
      obtain ⟨st2, R2, rs2⟩ := SR.wr3 (st0.trans st1) (R.step st1) rs1 hj sv' ok1 (Dats.eraseIdx t g5)
      have hi2 : (r.set j (some (true, Pv.D.lst (ys.eraseIdx t))))[i]? = some (some (true, .lst ds)) := by
        rw [List.getElem?_set_ne (Ne.symm hne)]
        exact hi
      obtain ⟨v2, sv2, ok2⟩ := R2.at_ i true _ hi2
      have ev : v2 = .ref p := by
        rw [sv] at sv2
        injection sv2 with sv2
        injection sv2 with sv2
        exact sv2.symm
      subst ev
      obtain ⟨b2, us2, es2, eb2, ee2, k1, k2, k3, k4, k5⟩ := id ok2
      cases eb2
      cases ee2
      exact ⟨_, us2, y, rfl, rfl, k1, by rw [Dats.length _ _ k5, sizeLine_eq]; omega, q _ _ (SR.wr st2 R2 rs2 hi2 sv ok2 (k5.app (Dats.one dy)))⟩
    · cases hv
  · cases hv
theorem ss_spop {st : Stmt} {tg : Tg} {j : Nat} (hp : PS X st (tAsg (tBM0 X.K "list" rPop (tVar j)) (gTg X.K tg))) : SS P cf fa Hs Gs Bs X st (.spop tg j) := by
  refine hp.wk fun D σ H ⟨r, S, o, S', hv, Gl, Bl, ⟨G, B, st0, R, RS⟩, q⟩ => ?_
  simp only [exS] at hv
  split at hv
  · rename_i ys hj
    obtain ⟨d, e6, hv⟩ := Option.bind_eq_some_iff.mp hv
    obtain ⟨r1, e7, hv⟩ := Option.map_eq_some_iff.mp hv
    cases hv
    obtain ⟨v, sv, ok⟩ := R.at_ j true _ hj
    have ok0 := ok
    obtain ⟨p, vs, ds', rfl, ed, h1, h2, h3, h4, h5⟩ := ok
    cases ed
    have lv := Dats.length _ _ h5
    obtain ⟨y, hy, dy⟩ := Dats.get h5 e6
    obtain ⟨st2, R2, rs2⟩ := SR.wr3 st0 R RS hj sv ok0 (Dats.dropLast h5)
    refine ⟨_, sv, .inl ⟨rfl, vs, .of h1⟩, _, vs, y, rfl, rfl, h1, by rw [lv]; exact hy, ?_⟩
    exact asg_ok rs2.sub tg d _ r1 y σ _ e7 R2 dy fun σ' R' _ => q σ' _ ⟨G, B, st2, R', rs2⟩
  · cases hv

/-! blocks -/
theorem sb_nil : SSs P cf fa Hs Gs Bs X [] [] := by
  refine pss_nil.wk fun D σ H ⟨r, S, o, S', hv, Gl, Bl, sr, q⟩ => ?_
  simp only [exB] at hv
  cases hv
  exact q σ H sr
theorem sb_cons {st : Stmt} {sts : List Stmt} {c : C} {cs : List C} (h1 : SS P cf fa Hs Gs Bs X st c) (h2 : SSs P cf fa Hs Gs Bs X sts cs) : SSs P cf fa Hs Gs Bs X (st :: sts) (c :: cs) := by
  refine (pss_cons h1 h2).wk fun D σ H ⟨r, S, o, S', hv, Gl, Bl, sr, q⟩ => ?_
  simp only [exB] at hv
  obtain ⟨⟨o1, S1⟩, e1, hv⟩ := Option.bind_eq_some_iff.mp hv
  refine ⟨r, S, o1, S1, e1, Gl, Bl, sr, ?_⟩
  cases o1 with
  | nx r1 => exact fun σ' H' sr' => ⟨r1, S1, o, S', hv, Gl, Bl, sr', q⟩
  | rt d => cases hv; exact q
  | bk r1 => cases hv; exact q
  | ct r1 => cases hv; exact q

/-! loops -/
theorem ss_for {st : Stmt} {tg : Tg} {it : E} {b : List C} (hp : PS X st (tFor (AI P cf fa Hs X.K it) (gTg X.K tg) (AB X.K fa Hs Gs Bs P cf b))) : SS P cf fa Hs Gs Bs X st (.for_ tg it b) := by
  refine hp.wk fun D σ H ⟨r, S, o, S', hv, Gl, Bl, ⟨G, B, st0, R, RS⟩, q⟩ => ?_
  simp only [exS] at hv
  obtain ⟨⟨d, S1⟩, e1, hv⟩ := Option.bind_eq_some_iff.mp hv
  obtain ⟨xs, e2, hv⟩ := Option.bind_eq_some_iff.mp hv
  refine ⟨r, S, d, S1, xs, G, B, e1, e2, R, RS, fun J H1 G1 B1 st1 rs1 Y => ?_⟩
  have fl : Flo Gl Bl G1 B1 := (st0.trans st1).2
  have lift : ∀ {r2 : Rho} {S2 : Sto} {σ2 : Slots} {H2 : Hp}, SR X.K fa Hs Gs Bs G1 B1 r2 S2 σ2 H2 → SR X.K fa Hs Gs Bs Gl Bl r2 S2 σ2 H2 := fun {r2 S2 σ2 H2} ⟨G2, B2, s2, R2, rs2⟩ =>
    ⟨G2, B2, ⟨s2.1, fun a u e => s2.2.1 a u (fl.1 a u e), by
      obtain ⟨C1, rfl⟩ := fl.2
      obtain ⟨C2, rfl⟩ := s2.2.2
      exact ⟨C1 ++ C2, by simp⟩⟩, R2, rs2⟩
  refine ⟨fun i m σ H => m = xs.length - i ∧ i ≤ xs.length ∧ ∃ r2 S2, SR X.K fa Hs Gs Bs G1 B1 r2 S2 σ H ∧ forL tg (fun r1 S1 => exB P cf b r1 S1) (xs.drop i) r2 S2 = some (o, S'),
    ⟨xs.length, by simp, Nat.zero_le _, r, S1, ⟨G1, B1, ⟨(st0.trans st1).1, fun _ _ h => h, [], by simp⟩, R.step st1, rs1⟩, by simpa using hv⟩, ?_⟩
  rintro i m σ2 H2 ⟨rfl, hi, r2, S2, ⟨G2, B2, st2, R2, rs2⟩, hf⟩
  have y := Y H2 G2 B2 st2.2.1 st2.2.2 rs2.sub i
  by_cases hlt : i < xs.length
  · have hx : xs[i]? = some xs[i] := by simp [hlt]
    obtain ⟨hgo, hy⟩ := y.1 _ hx
    have hdr : xs.drop i = xs[i] :: xs.drop (i + 1) := List.drop_eq_getElem_cons hlt
    rw [hdr] at hf
    simp only [forL] at hf
    obtain ⟨r3, e3, hf⟩ := Option.bind_eq_some_iff.mp hf
    obtain ⟨⟨o4, S4⟩, e4, hf⟩ := Option.bind_eq_some_iff.mp hf
    refine .inr ⟨hgo, fun σ5 H5 => ∃ r5, (o4 = .nx r5 ∨ o4 = .ct r5) ∧ SR X.K fa Hs Gs Bs G1 B1 r5 S4 σ5 H5, fun σ5 H5 ⟨r5, ho, sr5⟩ => ⟨xs.length - (i + 1), by omega, rfl, hlt, r5, S4, sr5, ?_⟩, fun x H3 hyl => ?_⟩
    · rcases ho with rfl | rfl <;> exact hf
    · obtain ⟨G3, dx, stp⟩ := hy x H3 hyl
      obtain ⟨st3, rs3⟩ := stp S2 rs2
      refine asg_ok rs3.sub tg _ _ r3 x σ2 _ e3 (R2.step st3) dx fun σ4 R4 _ => ?_
      refine ⟨r3, S2, o4, S4, e4, G1, B1, ⟨G3, B2, st2.trans st3, R4, rs3⟩, ?_⟩
      cases o4 with
      | nx r5 => exact fun σ5 H5 sr5 => ⟨r5, .inl rfl, sr5⟩
      | ct r5 => exact fun σ5 H5 sr5 => ⟨r5, .inr rfl, sr5⟩
      | bk r5 => cases hf; exact fun σ5 H5 sr5 => q σ5 H5 (lift sr5)
      | rt d5 => cases hf; exact q
  · have e : i = xs.length := by omega
    subst e
    rw [List.drop_length] at hf
    simp only [forL] at hf
    cases hf
    exact .inl ⟨y.2 (Nat.le_refl _), q σ2 H2 (lift ⟨G2, B2, st2, R2, rs2⟩)⟩
theorem ss_whl {st : Stmt} {c : E} {b : List C} (hp : PS X st (tWhile (AT P cf fa Hs X.K c) (AB X.K fa Hs Gs Bs P cf b))) : SS P cf fa Hs Gs Bs X st (.whl c b) := by
  refine hp.wk fun D σ H ⟨r, S, o, S', hv, Gl, Bl, sr0, q⟩ => ?_
  simp only [exS] at hv
  generalize most = n at hv
  refine ⟨fun m σ H => ∃ r2 S2, SR X.K fa Hs Gs Bs Gl Bl r2 S2 σ H ∧ whl (fun r1 S1 => evE P cf c r1 S1) (fun r1 S1 => exB P cf b r1 S1) m r2 S2 = some (o, S'), ⟨n, r, S, sr0, hv⟩, ?_⟩
  rintro m σ2 H2 ⟨r2, S2, ⟨G2, B2, st2, R2, rs2⟩, hf⟩
  cases m with
  | zero => simp only [whl] at hf; cases hf
  | succ m =>
    simp only [whl] at hf
    obtain ⟨⟨d, S3⟩, e3, hf⟩ := Option.bind_eq_some_iff.mp hf
    cases d <;> first | cases hf | skip
    rename_i k
    refine ⟨r2, S2, k, S3, e3, G2, B2, R2, rs2, fun H3 G3 B3 st3 rs3 => ?_⟩
    have sr3 : SR X.K fa Hs Gs Bs Gl Bl r2 S3 σ2 H3 := ⟨G3, B3, st2.trans st3, R2.step st3, rs3⟩
    cases k with
    | false =>
      cases hf
      exact iteF (q σ2 H3 sr3)
    | true =>
      obtain ⟨⟨o4, S4⟩, e4, hf⟩ := Option.bind_eq_some_iff.mp (show (exB P cf b r2 S3).bind _ = some (o, S') from hf)
      refine iteT ⟨fun σ5 H5 => ∃ r5, (o4 = .nx r5 ∨ o4 = .ct r5) ∧ SR X.K fa Hs Gs Bs Gl Bl r5 S4 σ5 H5, fun σ5 H5 ⟨r5, ho, sr5⟩ => ⟨m, Nat.lt_succ_self _, r5, S4, sr5, ?_⟩, ⟨r2, S3, o4, S4, e4, Gl, Bl, sr3, ?_⟩⟩
      · rcases ho with rfl | rfl <;> exact hf
      · cases o4 with
        | nx r5 => exact fun σ5 H5 sr5 => ⟨r5, .inl rfl, sr5⟩
        | ct r5 => exact fun σ5 H5 sr5 => ⟨r5, .inr rfl, sr5⟩
        | bk r5 => cases hf; exact q
        | rt d5 => cases hf; exact q
end
end Pv

set_option Elab.async false
set_option linter.all false
set_option maxRecDepth 100000
/-! SndM: the text against the small language, expressions: a check by computing, and its soundness. -/
namespace Pv
open PySem PySem.Spec PyProof.Rows L2

def isVis (sc : Scope) (x : Str) : Bool := match sc.names.lookup x with
  | some .local => true
  | some .cell => true
  | some .free => true
  | _ => false
def isGl (sc : Scope) (x : Str) : Bool := decide (sc.names.lookup x = some .globalImplicit)
def okNm (x : Str) : Bool := !(x == ("__debug__" : Str)) && !(x == ("__classdict__" : Str))
def nmOk (N : List Str) (sc : Scope) (i : Nat) (x : Str) : Bool := decide (N[i]? = some x) && isVis sc x && okNm x
def glOk (sc : Scope) (n x : Str) : Bool := decide (n = x) && isGl sc x && okNm x
def isTupX : Expr → Bool
  | .Tuple _ _ _ => true
  | _ => false
def isSetX : Expr → Bool
  | .Set _ _ _ => true
  | _ => false
mutual
def mTg (c : Bool) (N : List Str) (sc : Scope) : Tg → Expr → Bool
  | .nm i, .Name x _ => decide (N[i]? = some x) && (decide (sc.names.lookup x = some .local) || (c && decide (sc.names.lookup x = some .cell)))
  | .tp ts, .Tuple es _ _ => mTgs c N sc ts es
  | _, _ => false
def mTgs (c : Bool) (N : List Str) (sc : Scope) : List Tg → List Expr → Bool
  | [], [] => true
  | t :: ts, e :: es => noStar e && mTg c N sc t e && mTgs c N sc ts es
  | _, _ => false
end
def ownNm (N : List Str) (own : List Nat) : List (Str × Nat) := own.map fun i => (N.getD i Str.empty, i)
def biNm : Bi → Option String
  | .abs => some "abs"
  | .len => some "len"
  | .all => some "all"
  | .any => some "any"
  | .sum => some "sum"
  | .repr => some "repr"
  | .tuple => some "tuple"
  | .list => some "list"
  | .int => some "int"
  | _ => none
/-- list(range(..)) -/
def isLR : Bi → E → Bool
  | .list, .rng _ => true
  | _, _ => false
def mmNm : Bi → Option String
  | .max2 => some "max"
  | .min2 => some "min"
  | _ => none

mutual
/-- m: 0 a value, 1 a value that is only read, 2 what is walked, 3 what is walked by a target of several names -/
def mE (P : Prg) (N : List Str) (m : Nat) (sc : Scope) : E → Expr → Bool
  | .cst d, x => match d, x with
    | .int i, .Constant (.int j) _ _ => decide (i = j)
    | .bl i, .Constant (.bool j) _ _ => decide (i = j)
    | .non, .Constant .none _ _ => true
    | .str i, .Constant (.str j) _ _ => decide (i = j)
    | _, _ => false
  | .var i, .Name x _ => nmOk N sc i x
  | .bor i, .Name x _ => decide (m = 1) && nmOk N sc i x
  | .glb j, .Name x _ => match P.csts[j]? with
    | some p => glOk sc p.1 x
    | none => false
  | .fnv j, .Name x _ => match P.fns[j]? with
    | some g => glOk sc g.name x
    | none => false
  | .bin op a b, .BinOp xa op' xb _ => decide (op = op') && mE P N 1 sc a xa && mE P N 1 sc b xb
  | .neg a, .UnaryOp .USub xa _ => mE P N 0 sc a xa
  | .not a, .UnaryOp .Not xa _ => mE P N 0 sc a xa
  | .and a b, .BoolOp .And (xa :: xb :: xs) p => mE P N 0 sc a xa && (match xs with
    | [] => mE P N 0 sc b xb
    | xc :: r => mE P N 0 sc b (.BoolOp .And (xb :: xc :: r) p))
  | .or a b, .BoolOp .Or (xa :: xb :: xs) p => mE P N 0 sc a xa && (match xs with
    | [] => mE P N 0 sc b xb
    | xc :: r => mE P N 0 sc b (.BoolOp .Or (xb :: xc :: r) p))
  | .cmp op a b, .Compare xa [op'] [xb] _ => decide (op = op') && mE P N 1 sc a xa && mE P N 1 sc b xb && !behindInMarks op xb
  | .chn op op2 a b c, .Compare xa [o1, o2] [xb, xc] _ => decide (op = o1) && decide (op2 = o2) && mE P N 0 sc a xa && mE P N 0 sc b xb && mE P N 0 sc c xc && !lastMarks [op, op2] [xb, xc]
  | .ite c a b, .IfExp xc xa xb _ => mE P N 0 sc c xc && mE P N 0 sc a xa && mE P N 0 sc b xb
  | .tup es, .Tuple xs _ _ => mEs P N sc es xs
  | .lst es, .List xs _ => mEs P N sc es xs
  | .box es, .List xs _ => mEs P N sc es xs
  | .idx a i, .Subscript xa xi _ => mE P N 1 sc a xa && mE P N 0 sc i xi && okIx xi
  | .slc a lo hi, .Subscript xa (.Slice xl xh none _) _ => mE P N 1 sc a xa && mO P N sc lo xl && mO P N sc hi xh
  | .rev a, .Subscript xa (.Slice none none (some (.UnaryOp .USub (.Constant (.int i) _ _) _)) _) _ => decide (i = 1) && mE P N 1 sc a xa
  | .call f es, .Call (.Name x _) xs [] _ => match P.fns[f]? with
    | some g => glOk sc g.name x && xs.all noStar && mEs P N sc es xs
    | none => false
  | .callk q es ks, .Call (.Name x _) xs kws _ => match P.kws[q]? with
    | some w => match P.fns[w.f]? with
      | some g => glOk sc g.name x && xs.all noStar && decide (kws.map (·.arg) = w.ks.map some) && mEs P N sc es xs && mKs P N sc ks kws
      | none => false
    | none => false
  | .callv f es, .Call (.Name x _) (x0 :: xs) [] _ => (match f with
    | .var i => nmOk N sc i x
    | _ => false) && noStar x0 && xs.all noStar && mEs P N sc es (x0 :: xs)
  | .bits a, .Call (.Attribute xa n ap) [] [] p => decide (n = "bit_length") && mE P N 0 sc a xa && plainBase xa && (ap.endLine == p.line)
  | .bi b [e], .Call (.Name x _) [xe] [] _ => (match biNm b with
      | some nm => decide ((nm : Str) = x)
      | none => false) && isGl sc x && noStar xe && (if isLR b e then mE P N 2 sc e xe else mE P N 1 sc e xe)
  | .bi b [e], .Call (.Name x _) [xe, .Name T _] [] _ => (match isId b with
      | some nm => decide ((nm : Str) = T)
      | none => false) && decide (x = "isinstance") && isGl sc x && isGl sc T && noStar xe && mE P N 1 sc e xe
  | .bi b [e1, e2], .Call (.Name x _) [x1, x2] [] _ => (match mmNm b with
      | some nm => decide ((nm : Str) = x)
      | none => false) && isGl sc x && noStar x1 && noStar x2 && mE P N 0 sc e1 x1 && mE P N 0 sc e2 x2
  | .cmpr own tg it ifs elt, .ListComp xelt [⟨xtg, xit, xifs, k⟩] scope _ => decide (k = 0) && blkC N sc scope (ownNm N own) && mTg false N (relS scope sc) tg xtg && tg.slots.all (fun i => own.contains i) && decide (ifs.length ≤ 1) &&
      mE P N (if isTupX xtg then 3 else 2) sc it xit && mEs P N (relS scope sc) ifs xifs && mE P N 0 (relS scope sc) elt xelt && !isSetX xit && xifs.all noStar
  | .rng es, .Call (.Name x _) xs [] _ => decide (2 ≤ m) && decide (x = "range") && isGl sc x && xs.all noStar && decide (1 ≤ es.length ∧ es.length ≤ 2) && mEs P N sc es xs
  | .zip a b, .Call (.Name x _) [xa, xb] [] _ => decide (m = 3) && decide (x = "zip") && isGl sc x && noStar xa && noStar xb && mE P N 0 sc a xa && mE P N 0 sc b xb
  | .enu a, .Call (.Name x _) [xa] [] _ => decide (m = 3) && decide (x = "enumerate") && isGl sc x && noStar xa && mE P N 0 sc a xa
  | _, _ => false
def mEs (P : Prg) (N : List Str) (sc : Scope) : List E → List Expr → Bool
  | [], [] => true
  | .star e :: es, .Starred x _ :: xs => mE P N 1 sc e x && mEs P N sc es xs
  | e :: es, x :: xs => noStar x && mE P N 0 sc e x && mEs P N sc es xs
  | _, _ => false
def mO (P : Prg) (N : List Str) (sc : Scope) : Option E → Option Expr → Bool
  | none, none => true
  | some e, some x => mE P N 0 sc e x
  | _, _ => false
def mKs (P : Prg) (N : List Str) (sc : Scope) : List E → List Keyword → Bool
  | [], [] => true
  | e :: es, ⟨_, x, _⟩ :: xs => mE P N 0 sc e x && mKs P N sc es xs
  | _, _ => false
end
end Pv

set_option Elab.async false
set_option linter.all false
set_option maxRecDepth 100000
set_option maxHeartbeats 8000000
/-! SndN: soundness of the check of expressions. -/
namespace Pv
open PySem PySem.Spec PyProof.Rows L2

section
variable {P : Prg} {cf : Nat → List D → Sto → Option (D × Sto)} {fa : Nat → Addr} {H0 : Hp} {X : Cx} {N : List Str} {sc : Scope}
def isFr : E → Bool
  | .lst _ => true
  | .rev _ => true
  | .cmpr _ _ _ _ _ => true
  | .bi .list _ => true
  | _ => false
variable (P cf fa H0 X) in
structure Res (m : Nat) (e : E) (x : Expr) : Prop where
  ev : m = 0 → SE P cf fa H0 X x e
  tv : m = 0 → ST P cf fa H0 X x e
  wv : m = 0 → (∃ op vs p, x = .BoolOp op vs p) → SW P cf fa H0 X x e
  fv : m = 0 → isFr e = true → SF P cf fa H0 X x e
  bv : m = 1 → SB P cf fa H0 X x e
  iv : ∀ tg, 2 ≤ m → (m = 3 → isTupX tg = true) → SI P cf fa H0 X tg x e
theorem Res.mk0 {m : Nat} {e : E} {x : Expr} (he : SE P cf fa H0 X x e) (ht : ST P cf fa H0 X x e) (hw : ¬ ∃ op vs p, x = .BoolOp op vs p) (hf : isFr e = true → SF P cf fa H0 X x e) : Res P cf fa H0 X m e x :=
  ⟨fun _ => he, fun _ => ht, fun _ w => absurd w hw, fun _ => hf, fun _ => he.b, fun tg _ _ => si_e he⟩
theorem Res.mk1 {m : Nat} {e : E} {x : Expr} (he : SE P cf fa H0 X x e) (hp : plainT x = true) (hf : isFr e = true → SF P cf fa H0 X x e) : Res P cf fa H0 X m e x :=
  .mk0 he (he.t hp) (fun ⟨_, _, _, e⟩ => by subst e; cases hp) hf
theorem Res.mk2 {m : Nat} {e : E} {x : Expr} (he : SE P cf fa H0 X x e) (hp : plainT x = true) (hf : isFr e = false) : Res P cf fa H0 X m e x := .mk1 he hp fun h => by rw [hf] at h; cases h
theorem Res.mkW {m : Nat} {e : E} {x : Expr} (he : SE P cf fa H0 X x e) (hw : SW P cf fa H0 X x e) (hf : isFr e = false) : Res P cf fa H0 X m e x :=
  ⟨fun _ => he, fun _ => fun r S b S' h => (hw r S b S' h).pt, fun _ _ => hw, fun _ h => (by rw [hf] at h; cases h), fun _ => he.b, fun tg _ _ => si_e he⟩

/-- a if t else b, as a test -/
theorem pt_ifE {c a b : Expr} {tc ta tb : TT} {pos : Pos} (hc : PT X c tc) (ha : PT X a ta) (hb : PT X b tb) : PT X (.IfExp c a b pos) (fun σ H Q => tc σ H fun k H1 => if k = true then ta σ H1 Q else tb σ H1 Q) := by
  refine ⟨fun pins s σ H Q I h => ?_⟩
  show wpAny _ _ (isTrue c X.env (eval c X.env) >>= fun k => if k = true then isTrue a X.env (eval a X.env) else isTrue b X.env (eval b X.env)) _ _ s
  refine wpAny_bind (thn (hc.run pins s σ H _ I h) fun k s1 ⟨H1, I1, q1⟩ => ?_)
  cases k with
  | true => exact ha.run pins s1 σ H1 Q I1 q1
  | false => exact hb.run pins s1 σ H1 Q I1 q1
theorem t_ite {c a b : E} {xc xa xb : Expr} {pos : Pos} (hc : ST P cf fa H0 X xc c) (ha : ST P cf fa H0 X xa a) (hb : ST P cf fa H0 X xb b) : ST P cf fa H0 X (.IfExp xc xa xb pos) (.ite c a b) := by
  intro r S d S' h
  simp only [evE] at h
  obtain ⟨⟨d1, S1⟩, e1, h⟩ := Option.bind_eq_some_iff.mp h
  cases d1 with
  | bl k =>
    cases k with
    | true => exact (pt_ifE (hc r S _ _ e1) (ha r S1 _ _ h) pt_no).wk fun σ H Q ⟨G, B, R, RS, q⟩ => ⟨G, B, R, RS, fun H' G' B' st rs => iteT ⟨G', B', R.step st, rs, fun H2 G2 B2 st2 rs2 => q H2 G2 B2 (st.trans st2) rs2⟩⟩
    | false => exact (pt_ifE (hc r S _ _ e1) pt_no (hb r S1 _ _ h)).wk fun σ H Q ⟨G, B, R, RS, q⟩ => ⟨G, B, R, RS, fun H' G' B' st rs => iteF ⟨G', B', R.step st, rs, fun H2 G2 B2 st2 rs2 => q H2 G2 B2 (st.trans st2) rs2⟩⟩
  | _ => cases h

/-! names -/
theorem vis_of (h : X.env.scope = sc) {x : Str} (v : isVis sc x = true) : Vis X.env.scope x := by
  rw [h]
  unfold isVis at v
  unfold Vis
  split at v
  · exact .inl (by assumption)
  · exact .inr (.inl (by assumption))
  · exact .inr (.inr (by assumption))
  · cases v
theorem gl_of (h : X.env.scope = sc) {x : Str} (v : isGl sc x = true) : Gl X x := by
  show X.env.scope.names.lookup x = some .globalImplicit
  rw [h]
  exact of_decide_eq_true v
theorem okNm_of {x : Str} (h : okNm x = true) : (x == ("__debug__" : Str)) = false ∧ (x == ("__classdict__" : Str)) = false := by
  unfold okNm at h
  simp only [Bool.and_eq_true, Bool.not_eq_true'] at h
  exact h
theorem nmOk_of (W : Wd P cf fa X N sc) {i : Nat} {x : Str} (h : nmOk N sc i x = true) : X.N[i]? = some x ∧ Vis X.env.scope x ∧ (x == ("__debug__" : Str)) = false ∧ (x == ("__classdict__" : Str)) = false := by
  unfold nmOk at h
  simp only [Bool.and_eq_true, decide_eq_true_eq] at h
  exact ⟨by rw [W.hN]; exact h.1.1, vis_of W.hsc h.1.2, okNm_of h.2⟩
theorem glOk_of (W : Wd P cf fa X N sc) {n x : Str} (h : glOk sc n x = true) : n = x ∧ Gl X x ∧ (x == ("__debug__" : Str)) = false := by
  unfold glOk at h
  simp only [Bool.and_eq_true, decide_eq_true_eq] at h
  exact ⟨h.1.1, gl_of W.hsc h.1.2, (okNm_of h.2).1⟩
theorem Wd.blk (W : Wd P cf fa X N sc) (s : Shared) (H : Hp) (scope : Scope) (C : Addr) (cl : List (Str × Addr)) (fp : List Addr) : Wd P cf fa (X.blk s H scope (compEnvC scope cl C X.env) fp) N (relS scope sc) where
  hN := W.hN
  hsc := by
    show relS scope X.env.scope = _
    rw [W.hsc]
  nd := W.nd
  calm := W.calm
  gd := W.gd
  un := W.un
  bi := W.bi
  cst := W.cst
  fnv := W.fnv
  run := W.run
mutual
theorem pg_of (W : Wd P cf fa X N sc) {c : Bool} (hc : c = true → ∀ x, X.fn x = true) : ∀ (tg : Tg) (x : Expr), mTg c N sc tg x = true → PG X x (gTg X.K tg)
  | .nm i, x, h => by
    cases x <;> first | (simp only [mTg] at h; done) | skip
    all_goals try (simp only [mTg] at h; cases h; done)
    rename_i n pos
    simp only [mTg, Bool.and_eq_true, Bool.or_eq_true, decide_eq_true_eq] at h
    rcases h.2 with h2 | ⟨h2, h3⟩
    · have hl : X.env.scope.names.lookup n = some .local := by rw [W.hsc]; exact h2
      exact pg_name (by rw [W.hN]; exact W.nd) (by rw [W.hN]; exact h.1) (.inl hl) (.inr hl)
    · have hl : X.env.scope.names.lookup n = some .cell := by rw [W.hsc]; exact h3
      exact pg_name (by rw [W.hN]; exact W.nd) (by rw [W.hN]; exact h.1) (.inr hl) (.inl (hc h2 n))
  | .tp ts, x, h => by
    cases x <;> first | (simp only [mTg] at h; done) | skip
    all_goals try (simp only [mTg] at h; cases h; done)
    rename_i es k pos
    simp only [mTg] at h
    obtain ⟨h1, h2, h3⟩ := pgs_of W hc ts es h
    exact pg_tl W.calm h1 h2 h3
theorem pgs_of (W : Wd P cf fa X N sc) {c : Bool} (hc : c = true → ∀ x, X.fn x = true) : ∀ (ts : List Tg) (xs : List Expr), mTgs c N sc ts xs = true → PGs X xs (gTgs X.K ts) ∧ (assignEach xs X.env).length = ts.length ∧ (assignEach xs X.env).findIdx? (·.1) = none
  | [], [], _ => ⟨pgs_nil, rfl, rfl⟩
  | [], _ :: _, h => by simp only [mTgs] at h; cases h
  | _ :: _, [], h => by simp only [mTgs] at h; cases h
  | t :: ts, x :: xs, h => by
    simp only [mTgs, Bool.and_eq_true] at h
    obtain ⟨⟨hx, h1⟩, h2⟩ := h
    obtain ⟨i1, i2, i3⟩ := pgs_of W hc ts xs h2
    have ex : assignEach (x :: xs) X.env = (false, assign x X.env) :: assignEach xs X.env := by
      cases x <;> first | rfl | cases hx
    refine ⟨pgs_cons (pg_of W hc t x h1) i1 (by rw [ex]; rfl), by rw [ex, List.length_cons, i2, List.length_cons], ?_⟩
    rw [ex, List.findIdx?_cons]
    simp only [i3]
    rfl
end

theorem mE_star {m : Nat} {e : E} {x : Expr} : mE P N m sc (.star e) x = false := by
  unfold mE
  cases x <;> rfl

variable (P cf fa) in
/-- the check is sound for e -/
def Good (Ar : Arity P cf) (N : List Str) (e : E) : Prop := ∀ (H0 : Hp) (X : Cx) (sc : Scope) (m : Nat) (x : Expr), Wd P cf fa X N sc → mE P N m sc e x = true → Res P cf fa H0 X m e x

section
variable {Ar : Arity P cf}
theorem good_es {n : Nat} (ih : ∀ e : E, sizeOf e < n → Good P cf fa Ar N e) : ∀ (es : List E), sizeOf es ≤ n → ∀ (H0 : Hp) (X : Cx) (sc : Scope) (xs : List Expr), Wd P cf fa X N sc → mEs P N sc es xs = true → SA P cf fa H0 X xs es
  | [], _, H0, X, sc, xs, W, h => by
    cases xs with
    | nil => exact sa_nil
    | cons _ _ => simp only [mEs] at h; cases h
  | e :: es, hs, H0, X, sc, xs, W, h => by
    have s1 : sizeOf e < n := by simp at hs; omega
    have s2 : sizeOf es ≤ n := by simp at hs; omega
    cases xs with
    | nil => cases e <;> (simp only [mEs] at h; cases h)
    | cons x xs =>
      unfold mEs at h
      split at h
      · rename_i h1 _; exact absurd h1 (by simp)
      · rename_i e1 es1 x1 p1 xs1 h1 h2
        simp only [List.cons.injEq] at h1 h2
        obtain ⟨rfl, rfl⟩ := h1
        obtain ⟨rfl, rfl⟩ := h2
        rw [Bool.and_eq_true] at h
        have s3 : sizeOf e1 < n := by simp at s1; omega
        exact sa_star ((ih e1 s3 H0 X sc 1 x1 W h.1).bv rfl) (good_es ih es s2 H0 X sc xs W h.2)
      · rename_i e1 es1 x1 xs1 hn h1 h2
        simp only [List.cons.injEq] at h1 h2
        obtain ⟨rfl, rfl⟩ := h1
        obtain ⟨rfl, rfl⟩ := h2
        simp only [Bool.and_eq_true] at h
        have ns : ∀ y, e ≠ .star y := fun y z => by
          subst z
          rw [mE_star] at h
          exact absurd h.1.2 Bool.false_ne_true
        exact sa_cons ns h.1.1 ((ih e s1 H0 X sc 0 x W h.1.2).ev rfl) (good_es ih es s2 H0 X sc xs W h.2)
      · cases h
theorem good_ks {n : Nat} (ih : ∀ e : E, sizeOf e < n → Good P cf fa Ar N e) : ∀ (es : List E), sizeOf es ≤ n → ∀ (H0 : Hp) (X : Cx) (sc : Scope) (xs : List Keyword), Wd P cf fa X N sc → mKs P N sc es xs = true → SK P cf fa H0 X xs es
  | [], _, H0, X, sc, xs, W, h => by
    cases xs with
    | nil => exact sk_nil
    | cons _ _ => simp only [mKs] at h; cases h
  | e :: es, hs, H0, X, sc, xs, W, h => by
    have s1 : sizeOf e < n := by simp at hs; omega
    have s2 : sizeOf es ≤ n := by simp at hs; omega
    cases xs with
    | nil => simp only [mKs] at h; cases h
    | cons x xs =>
      obtain ⟨nm, v, p⟩ := x
      simp only [mKs, Bool.and_eq_true] at h
      have ns : ∀ y, e ≠ .star y := fun y z => by
        subst z
        rw [mE_star] at h
        exact absurd h.1 Bool.false_ne_true
      exact sk_cons ns ((ih e s1 H0 X sc 0 v W h.1).ev rfl) (good_ks ih es s2 H0 X sc xs W h.2)
theorem good_o {n : Nat} (ih : ∀ e : E, sizeOf e < n → Good P cf fa Ar N e) (o : Option E) (hs : sizeOf o ≤ n) (H0 : Hp) (X : Cx) (sc : Scope) (x : Option Expr) (W : Wd P cf fa X N sc) (h : mO P N sc o x = true) : SO P cf fa H0 X x o := by
  cases o with
  | none =>
    cases x with
    | none => exact so_none
    | some _ => simp only [mO] at h; cases h
  | some e =>
    cases x with
    | none => simp only [mO] at h; cases h
    | some y =>
      simp only [mO] at h
      have s1 : sizeOf e < n := by simp at hs; omega
      exact so_some ((ih e s1 H0 X sc 0 y W h).ev rfl)
end
end
end Pv

set_option Elab.async false
set_option linter.all false
set_option maxRecDepth 100000
set_option maxHeartbeats 8000000
/-! SndO: soundness of the check of expressions, the whole. -/
namespace Pv
open PySem PySem.Spec PyProof.Rows L2

section
variable {P : Prg} {cf : Nat → List D → Sto → Option (D × Sto)} {fa : Nat → Addr} {N : List Str}

theorem biNm_in {b : Bi} {nm : String} (h : biNm b = some nm) : (nm : Str) ∈ biNames := by
  cases b <;> first | (cases h; decide +kernel) | cases h
theorem good_bi1 {H0 : Hp} {X : Cx} {sc : Scope} {m : Nat} {b : Bi} {e : E} {x : Expr} {n : Str} {p pos : Pos} (W : Wd P cf fa X N sc) {nm : String} (hb : biNm b = some nm) (hn : (nm : Str) = n) (hg : isGl sc n = true) (hx : noStar x = true) (ne : ∀ y, e ≠ .star y)
    (lr : isLR b e = false) (hB : SB P cf fa H0 X x e) : Res P cf fa H0 X m (.bi b [e]) (.Call (.Name n p) [x] [] pos) := by
  subst hn
  have hgl := gl_of W.hsc hg
  have hin := biNm_in hb
  by_cases hl : b = .list
  · subst hl
    cases hb
    have sf := f_list (p := p) (pos := pos) W hgl hx ne hB
    exact .mk1 sf.e rfl fun _ => sf
  · have nf : isFr (.bi b [e]) = false := by cases b <;> first | rfl | exact absurd rfl hl
    cases hf : fnId b with
    | some q =>
      obtain ⟨q1, q2⟩ := q
      have e1 : q1 = nm := by cases b <;> first | (cases hf; cases hb; rfl) | cases hf
      subst e1
      exact .mk2 (s_fn1 (p := p) (pos := pos) W hf hin hgl hx ne hB) rfl nf
    | none =>
      cases ht : tyId b with
      | none => cases b <;> first | (simp [fnId] at hf; done) | (simp [tyId] at ht; done) | (simp [biNm] at hb; done)
      | some q =>
        obtain ⟨q1, q2⟩ := q
        have e1 : q1 = nm := by cases b <;> first | (cases ht; cases hb; rfl) | cases ht
        subst e1
        exact .mk2 (s_ty1 (p := p) (pos := pos) W ht hl hin hgl hx ne hB) rfl nf

theorem mEs_cons {sc : Scope} {e : E} {es : List E} {xs : List Expr} (h : mEs P N sc (e :: es) xs = true) (hx : xs.all noStar = true) :
    ∃ y ys, xs = y :: ys ∧ noStar y = true ∧ mE P N 0 sc e y = true ∧ (∀ z, e ≠ .star z) ∧ ys.all noStar = true ∧ mEs P N sc es ys = true := by
  cases xs with
  | nil => cases e <;> (simp only [mEs] at h; cases h)
  | cons x xs =>
    rw [List.all_cons, Bool.and_eq_true] at hx
    unfold mEs at h
    split at h
    · rename_i h1 _; exact absurd h1 (by simp)
    · rename_i e1 es1 x1 p1 xs1 h1 h2
      simp only [List.cons.injEq] at h1 h2
      obtain ⟨rfl, rfl⟩ := h2
      exact absurd hx.1 Bool.false_ne_true
    · rename_i e1 es1 x1 xs1 hn h1 h2
      simp only [List.cons.injEq] at h1 h2
      obtain ⟨rfl, rfl⟩ := h1
      obtain ⟨rfl, rfl⟩ := h2
      simp only [Bool.and_eq_true] at h
      refine ⟨_, _, rfl, h.1.1, h.1.2, fun y z => ?_, hx.2, h.2⟩
      subst z
      rw [mE_star] at h
      exact absurd h.1.2 Bool.false_ne_true
    · cases h
theorem mEs_none {sc : Scope} {xs : List Expr} (h : mEs P N sc [] xs = true) : xs = [] := by
  cases xs with
  | nil => rfl
  | cons _ _ => simp only [mEs] at h; cases h
theorem rng_args {sc : Scope} {es : List E} {xs : List Expr} (hx : xs.all noStar = true) (hl : 1 ≤ es.length ∧ es.length ≤ 2) (h : mEs P N sc es xs = true) :
    (∃ e1 y1, es = [e1] ∧ xs = [y1] ∧ noStar y1 = true ∧ mE P N 0 sc e1 y1 = true ∧ ∀ z, e1 ≠ .star z) ∨
    ∃ e1 e2 y1 y2, es = [e1, e2] ∧ xs = [y1, y2] ∧ noStar y1 = true ∧ mE P N 0 sc e1 y1 = true ∧ (∀ z, e1 ≠ .star z) ∧ noStar y2 = true ∧ mE P N 0 sc e2 y2 = true ∧ ∀ z, e2 ≠ .star z := by
  match es, hl, h with
  | [e1], _, h =>
    obtain ⟨y, ys, rfl, a1, a2, a3, a4, a5⟩ := mEs_cons h hx
    rw [mEs_none a5]
    exact .inl ⟨e1, y, rfl, rfl, a1, a2, a3⟩
  | [e1, e2], _, h =>
    obtain ⟨y, ys, rfl, a1, a2, a3, a4, a5⟩ := mEs_cons h hx
    obtain ⟨z, zs, rfl, b1, b2, b3, b4, b5⟩ := mEs_cons a5 a4
    rw [mEs_none b5]
    exact .inr ⟨e1, e2, y, z, rfl, rfl, a1, a2, a3, b1, b2, b3⟩
  | [], hl, _ => exact absurd hl.1 (by simp)
  | _ :: _ :: _ :: _, hl, _ => exact absurd hl.2 (by simp)
theorem good_n (Ar : Arity P cf) (fnd : ∀ (j : Nat) (ds : List D) (S : Sto) (q : D × Sto), cf j ds S = some q → ∃ g, P.fns[j]? = some g) : ∀ n : Nat, ∀ e : E, sizeOf e < n → Good P cf fa Ar N e := by
  intro n
  induction n with
  | zero => intro e h; exact absurd h (Nat.not_lt_zero _)
  | succ n ih =>
    intro e hs H0 X sc m x W h
    have lt : ∀ {a : E}, sizeOf a < sizeOf e → Good P cf fa Ar N a := fun {a} ha => ih a (by omega)
    have les : ∀ {es : List E}, sizeOf es < sizeOf e → ∀ (H0 : Hp) (X : Cx) (sc : Scope) (xs : List Expr), Wd P cf fa X N sc → mEs P N sc es xs = true → SA P cf fa H0 X xs es := fun {es} ha => good_es (n := n) ih es (by omega)
    unfold mE at h
    split at h
    · -- cst
      split at h
      · rw [of_decide_eq_true h]; exact .mk2 s_int rfl rfl
      · rw [of_decide_eq_true h]; exact .mk2 s_bl rfl rfl
      · exact .mk2 s_non rfl rfl
      · rw [of_decide_eq_true h]; exact .mk2 s_str rfl rfl
      · cases h
    · -- var
      obtain ⟨h1, h2, h3, h4⟩ := nmOk_of W h
      exact .mk2 (s_var h1 h2 h3 h4) rfl rfl
    · -- bor
      rw [Bool.and_eq_true] at h
      have hm := of_decide_eq_true h.1
      obtain ⟨h1, h2, h3, h4⟩ := nmOk_of W h.2
      subst hm
      exact ⟨fun z => absurd z (by decide), fun z => absurd z (by decide), fun z => absurd z (by decide), fun z => absurd z (by decide), fun _ => s_bor h1 h2 h3 h4, fun _ z => absurd z (by decide)⟩
    · -- glb
      split at h
      · rename_i q hj
        obtain ⟨h1, h2, h3⟩ := glOk_of W h
        subst h1
        exact .mk2 (s_glb W hj h2 h3) rfl rfl
      · cases h
    · -- fnv
      split at h
      · rename_i q hj
        obtain ⟨h1, h2, h3⟩ := glOk_of W h
        subst h1
        exact .mk2 (s_fnv W hj h2 h3) rfl rfl
      · cases h
    · -- bin
      simp only [Bool.and_eq_true, decide_eq_true_eq] at h
      obtain ⟨⟨rfl, h1⟩, h2⟩ := h
      exact .mk2 (s_bin ((lt (by simp <;> omega) H0 X sc 1 _ W h1).bv rfl) ((lt (by simp <;> omega) H0 X sc 1 _ W h2).bv rfl)) rfl rfl
    · -- neg
      exact .mk0 (s_neg ((lt (by simp <;> omega) H0 X sc 0 _ W h).ev rfl)) ((s_neg ((lt (by simp <;> omega) H0 X sc 0 _ W h).ev rfl)).t rfl) (fun ⟨_, _, _, e⟩ => nomatch e) (fun h => nomatch h)
    · -- not
      have g := lt (by simp <;> omega) H0 X sc 0 _ W h
      exact .mk0 (s_not (g.ev rfl) (g.tv rfl)).1 (s_not (g.ev rfl) (g.tv rfl)).2 (fun ⟨_, _, _, e⟩ => nomatch e) (fun h => nomatch h)
    · -- and
      rename_i a b xa xb xs p
      rw [Bool.and_eq_true] at h
      have g1 := lt (a := a) (by simp <;> omega) H0 X sc 0 _ W h.1
      cases xs with
      | nil =>
        have g2 := lt (a := b) (by simp <;> omega) H0 X sc 0 _ W h.2
        have s := s_and2 (pos := p) (g1.ev rfl) (g1.tv rfl) (g2.ev rfl) (g2.tv rfl)
        exact .mkW s.1 s.2 rfl
      | cons xc r =>
        have g2 := lt (a := b) (by simp <;> omega) H0 X sc 0 _ W h.2
        have s := s_andm (pos := p) (g1.ev rfl) (g1.tv rfl) (g2.ev rfl) (g2.wv rfl ⟨_, _, _, rfl⟩)
        exact .mkW s.1 s.2 rfl
    · -- or
      rename_i a b xa xb xs p
      rw [Bool.and_eq_true] at h
      have g1 := lt (a := a) (by simp <;> omega) H0 X sc 0 _ W h.1
      cases xs with
      | nil =>
        have g2 := lt (a := b) (by simp <;> omega) H0 X sc 0 _ W h.2
        have s := s_or2 (pos := p) (g1.ev rfl) (g1.tv rfl) (g2.ev rfl) (g2.tv rfl)
        exact .mkW s.1 s.2 rfl
      | cons xc r =>
        have g2 := lt (a := b) (by simp <;> omega) H0 X sc 0 _ W h.2
        have s := s_orm (pos := p) (g1.ev rfl) (g1.tv rfl) (g2.ev rfl) (g2.wv rfl ⟨_, _, _, rfl⟩)
        exact .mkW s.1 s.2 rfl
    · -- cmp
      simp only [Bool.and_eq_true, decide_eq_true_eq, Bool.not_eq_true'] at h
      obtain ⟨⟨⟨rfl, h1⟩, h2⟩, h3⟩ := h
      have g1 := (lt (by simp <;> omega) H0 X sc 1 _ W h1).bv rfl
      have g2 := (lt (by simp <;> omega) H0 X sc 1 _ W h2).bv rfl
      exact .mk0 (s_cmp W g1 g2 h3).1 (s_cmp W g1 g2 h3).2 (fun ⟨_, _, _, e⟩ => nomatch e) (fun h => nomatch h)
    · -- chn
      simp only [Bool.and_eq_true, decide_eq_true_eq, Bool.not_eq_true'] at h
      obtain ⟨⟨⟨⟨⟨rfl, rfl⟩, h1⟩, h2⟩, h3⟩, h4⟩ := h
      have g1 := (lt (by simp <;> omega) H0 X sc 0 _ W h1).ev rfl
      have g2 := (lt (by simp <;> omega) H0 X sc 0 _ W h2).ev rfl
      have g3 := (lt (by simp <;> omega) H0 X sc 0 _ W h3).ev rfl
      exact .mk0 (s_chn W g1 g2 g3 h4).1 (s_chn W g1 g2 g3 h4).2 (fun ⟨_, _, _, e⟩ => nomatch e) (fun h => nomatch h)
    · -- ite
      simp only [Bool.and_eq_true] at h
      have g1 := lt (by simp <;> omega) H0 X sc 0 _ W h.1.1
      have g2 := lt (by simp <;> omega) H0 X sc 0 _ W h.1.2
      have g3 := lt (by simp <;> omega) H0 X sc 0 _ W h.2
      exact .mk0 (s_ite (g1.tv rfl) (g2.ev rfl) (g3.ev rfl)) (t_ite (g1.tv rfl) (g2.tv rfl) (g3.tv rfl)) (fun ⟨_, _, _, e⟩ => nomatch e) (fun h => nomatch h)
    · -- tup
      exact .mk2 (s_tup (les (by simp <;> omega) H0 X sc _ W h)) rfl rfl
    · -- lst
      have sa := les (by simp <;> omega) H0 X sc _ W h
      exact .mk1 (f_lst sa).e rfl fun _ => f_lst sa
    · -- box
      exact .mk2 (s_box (les (by simp <;> omega) H0 X sc _ W h)) rfl rfl
    · -- idx
      simp only [Bool.and_eq_true] at h
      exact .mk2 (s_idx ((lt (by simp <;> omega) H0 X sc 1 _ W h.1.1).bv rfl) ((lt (by simp <;> omega) H0 X sc 0 _ W h.1.2).ev rfl) h.2) rfl rfl
    · -- slc
      rename_i a lo hi xa xl xh p1 p2
      simp only [Bool.and_eq_true] at h
      exact .mk2 (s_slc ((lt (by simp <;> omega) H0 X sc 1 _ W h.1.1).bv rfl) (good_o (n := n) ih lo (by simp at hs; omega) H0 X sc xl W h.1.2) (good_o (n := n) ih hi (by simp at hs; omega) H0 X sc xh W h.2)) rfl rfl
    · -- rev
      simp only [Bool.and_eq_true, decide_eq_true_eq] at h
      obtain ⟨rfl, h⟩ := h
      have sb := (lt (by simp <;> omega) H0 X sc 1 _ W h).bv rfl
      exact .mk1 (f_rev sb).e rfl fun _ => f_rev sb
    · -- call
      rename_i f es nx p xs p2
      split at h
      · rename_i g hj
        simp only [Bool.and_eq_true] at h
        obtain ⟨⟨h1, h2⟩, h3⟩ := h
        obtain ⟨e1, h4, h5⟩ := glOk_of W h1
        subst e1
        have sa := les (by simp <;> omega) H0 X sc _ W h3
        cases xs with
        | nil =>
          have e0 : es = [] := by
            cases es with
            | nil => rfl
            | cons a r => cases a <;> (simp only [mEs] at h3; cases h3)
          subst e0
          exact .mk2 (s_call0 W Ar hj h4 h5) rfl rfl
        | cons y ys =>
          rw [List.all_cons, Bool.and_eq_true] at h2
          exact .mk2 (s_call W Ar hj h4 h5 h2.1 h2.2 sa) rfl rfl
      · cases h
    · -- callk
      rename_i q es ks nx p xs kws p2
      split at h
      · rename_i w hw
        split at h
        · rename_i g hj
          simp only [Bool.and_eq_true, decide_eq_true_eq] at h
          obtain ⟨⟨⟨⟨h1, h2⟩, h3⟩, h6⟩, h7⟩ := h
          obtain ⟨e1, h4, h5⟩ := glOk_of W h1
          subst e1
          have sa := les (es := es) (by simp <;> omega) H0 X sc _ W h6
          have sk := good_ks (n := n) ih ks (by simp at hs; omega) H0 X sc kws W h7
          cases xs with
          | nil =>
            have e0 : es = [] := by
              cases es with
              | nil => rfl
              | cons a r => cases a <;> (simp only [mEs] at h6; cases h6)
            subst e0
            exact .mk2 (s_callk0 W Ar hw hj h4 h5 h3 sk) rfl rfl
          | cons y ys =>
            rw [List.all_cons, Bool.and_eq_true] at h2
            exact .mk2 (s_callk W Ar hw hj h4 h5 h3 h2.1 h2.2 sa sk) rfl rfl
        · cases h
      · cases h
    · -- callv
      rename_i f es nx p x0 xs p2
      simp only [Bool.and_eq_true] at h
      obtain ⟨⟨⟨h1, h2⟩, h3⟩, h4⟩ := h
      split at h1
      · obtain ⟨n1, n2, n3, n4⟩ := nmOk_of W h1
        exact .mk2 (s_callv W Ar fnd n1 n2 n3 n4 h2 h3 (les (by simp <;> omega) H0 X sc _ W h4)) rfl rfl
      · cases h1
    · -- bits
      simp only [Bool.and_eq_true, decide_eq_true_eq] at h
      obtain ⟨⟨⟨rfl, h1⟩, h2⟩, h3⟩ := h
      exact .mk2 (s_bits ((lt (by simp <;> omega) H0 X sc 0 _ W h1).ev rfl) h2 h3) rfl rfl
    · -- bi, one argument
      rename_i b e nx p xe p2
      simp only [Bool.and_eq_true] at h
      obtain ⟨⟨⟨h1, h2⟩, h3⟩, h4⟩ := h
      split at h1
      · rename_i nm hb
        have hn := of_decide_eq_true h1
        have ne : ∀ y, e ≠ .star y := fun y z => by
          subst z
          have e0 : isLR b (.star y) = false := by cases b <;> rfl
          rw [e0, mE_star] at h4
          exact absurd h4 Bool.false_ne_true
        by_cases lr : isLR b e = true
        · rw [if_pos lr] at h4
          subst hn
          have hgl := gl_of W.hsc h2
          have eb : b = .list ∧ ∃ es, e = .rng es := by
            cases b <;> first | (exact absurd lr Bool.false_ne_true) | skip
            cases e <;> first | (exact absurd lr Bool.false_ne_true) | exact ⟨rfl, _, rfl⟩
          obtain ⟨rfl, es, rfl⟩ := eb
          cases hb
          unfold mE at h4
          cases xe with
          | Call fx args kws q =>
            cases fx with
            | Name y q2 =>
              cases kws with
              | nil =>
                simp only [Bool.and_eq_true, decide_eq_true_eq] at h4
                obtain ⟨⟨⟨⟨⟨_, rfl⟩, g2⟩, g3⟩, g4⟩, g5⟩ := h4
                have hg2 := gl_of W.hsc g2
                have szs : sizeOf es < n := by simp at hs; omega
                rcases rng_args g3 g4 g5 with ⟨e1, y1, rfl, rfl, k1, k2, k3⟩ | ⟨e1, e2, y1, y2, rfl, rfl, k1, k2, k3, l1, l2, l3⟩
                · have sf := f_listRg1 (p := p) (pos := p2) (p2 := q2) (pos2 := q) W hgl hg2 k1 k3 ((ih e1 (by simp at szs; omega) H0 X sc 0 y1 W k2).ev rfl)
                  exact .mk1 sf.e rfl fun _ => sf
                · have sf := f_listRg2 (p := p) (pos := p2) (p2 := q2) (pos2 := q) W hgl hg2 k1 l1 k3 l3 ((ih e1 (by simp at szs; omega) H0 X sc 0 y1 W k2).ev rfl) ((ih e2 (by simp at szs; omega) H0 X sc 0 y2 W l2).ev rfl)
                  exact .mk1 sf.e rfl fun _ => sf
              | cons _ _ => cases h4
            | _ => cases h4
          | _ => cases h4
        · have lr' : isLR b e = false := by simpa using lr
          rw [if_neg lr] at h4
          exact good_bi1 W hb hn h2 h3 ne lr' ((lt (by simp <;> omega) H0 X sc 1 _ W h4).bv rfl)
      · cases h1
    · -- isinstance
      rename_i b e nx p xe T p3 p2
      simp only [Bool.and_eq_true, decide_eq_true_eq] at h
      obtain ⟨⟨⟨⟨⟨h1, rfl⟩, h2⟩, h3⟩, h4⟩, h5⟩ := h
      split at h1
      · rename_i nm hb
        have hn := of_decide_eq_true h1
        subst hn
        have ne : ∀ y, e ≠ .star y := fun y z => by
          subst z
          rw [mE_star] at h5
          exact absurd h5 Bool.false_ne_true
        have hin : (nm : Str) ∈ biNames := by
          cases b <;> first | (simp [isId] at hb; done) | (cases hb; decide +kernel)
        have nf : isFr (.bi b [e]) = false := by cases b <;> first | rfl | (simp [isId] at hb; done)
        exact .mk2 (s_is W hb (gl_of W.hsc h2) (gl_of W.hsc h3) hin h4 ne ((lt (by simp <;> omega) H0 X sc 1 _ W h5).bv rfl)) rfl nf
      · cases h1
    · -- max, min
      rename_i b e1 e2 nx p x1 x2 p2
      simp only [Bool.and_eq_true] at h
      obtain ⟨⟨⟨⟨⟨h1, h2⟩, h3⟩, h4⟩, h5⟩, h6⟩ := h
      split at h1
      · rename_i nm hb
        have hn := of_decide_eq_true h1
        subst hn
        have n1 : ∀ y, e1 ≠ .star y := fun y z => by
          subst z
          rw [mE_star] at h5
          exact absurd h5 Bool.false_ne_true
        have n2 : ∀ y, e2 ≠ .star y := fun y z => by
          subst z
          rw [mE_star] at h6
          exact absurd h6 Bool.false_ne_true
        have hb' : (b = .max2 ∧ nm = "max") ∨ (b = .min2 ∧ nm = "min") := by
          cases b <;> first | (simp [mmNm] at hb; done) | (cases hb; first | exact .inl ⟨rfl, rfl⟩ | exact .inr ⟨rfl, rfl⟩)
        have nf : isFr (.bi b [e1, e2]) = false := by
          rcases hb' with ⟨rfl, _⟩ | ⟨rfl, _⟩ <;> rfl
        exact .mk2 (s_mm W hb' (gl_of W.hsc h2) h3 h4 n1 n2 ((lt (by simp <;> omega) H0 X sc 0 _ W h5).ev rfl) ((lt (by simp <;> omega) H0 X sc 0 _ W h6).ev rfl)) rfl nf
      · cases h1
    · -- comprehension
      rename_i own tg it ifs elt xelt xtg xit xifs k scope p
      simp only [Bool.and_eq_true, decide_eq_true_eq, Bool.not_eq_true'] at h
      obtain ⟨⟨⟨⟨⟨⟨⟨⟨⟨rfl, h1⟩, h2⟩, h3⟩, h4⟩, h5⟩, h6⟩, h7⟩, h8⟩, h9⟩ := h
      have hown : (ownNm N own).map (·.2) = own := by
        unfold ownNm
        rw [List.map_map]
        show own.map (fun i => i) = own
        exact List.map_id' own
      have hsl : ∀ i ∈ tg.slots, i ∈ (ownNm N own).map (·.2) := fun i hi => by
        rw [hown]
        have := List.all_eq_true.mp h3 i hi
        simpa using this
      have hfs : ∀ x, foldedSetIterable xit X.env x = pure x := by
        intro y
        cases xit <;> first | rfl | cases h8
      have c : CompOk P cf fa H0 X (ownNm N own) scope xtg xit xifs xelt tg it ifs elt := {
        it := (lt (by simp <;> omega) H0 X sc _ xit W h5).iv xtg (by split <;> omega) (fun e => by
          by_cases hh : isTupX xtg = true
          · exact hh
          · rw [if_neg hh] at e; omega)
        ok := by rw [W.hN, W.hsc]; exact blkOk_by h1
        one := h4
        slots := hsl
        tg := fun s H C cl fp => pg_of (c := false) (W.blk s H scope C cl fp) (fun z => nomatch z) tg xtg h2
        ifs := fun s H C cl fp => by
          have sz : ∀ e ∈ ifs, sizeOf e < n := fun e he => by
            have := List.sizeOf_lt_of_mem he
            simp at hs
            omega
          match ifs, xifs, h4, h6, sz, h9 with
          | [], xs, _, h6, _, _ =>
            rw [mEs_none h6]
            exact pts_nil
          | [e], xs, _, h6, sz, ns =>
            obtain ⟨y, ys, rfl, a1, a2, a3, a4, a5⟩ := mEs_cons h6 ns
            rw [mEs_none a5]
            exact pts_one ((ih e (sz e (by simp)) H0 _ _ 0 y (W.blk s H scope C cl fp) a2).tv rfl).a
          | _ :: _ :: _, _, h4, _, _, _ => exact absurd h4 (by simp)
        elt := fun s H C cl fp => (lt (by simp <;> omega) H0 _ _ 0 xelt (W.blk s H scope C cl fp) h7).ev rfl
        fs := hfs }
      have sf := f_comp (pos := p) W c
      rw [hown] at sf
      exact .mk1 sf.e rfl fun _ => sf
    · -- range
      rename_i es nx p xs p2
      simp only [Bool.and_eq_true, decide_eq_true_eq] at h
      obtain ⟨⟨⟨⟨⟨h1, rfl⟩, h2⟩, h3⟩, h4⟩, h5⟩ := h
      have hgl := gl_of W.hsc h2
      refine ⟨fun z => by omega, fun z => by omega, fun z => by omega, fun z => by omega, fun z => by omega, fun tg _ _ => ?_⟩
      rcases rng_args h3 h4 h5 with ⟨e1, y1, rfl, rfl, k1, k2, k3⟩ | ⟨e1, e2, y1, y2, rfl, rfl, k1, k2, k3, l1, l2, l3⟩
      · exact si_rng1 W hgl k1 k3 ((lt (by simp <;> omega) H0 X sc 0 y1 W k2).ev rfl)
      · exact si_rng2 W hgl k1 l1 k3 l3 ((lt (by simp <;> omega) H0 X sc 0 y1 W k2).ev rfl) ((lt (by simp <;> omega) H0 X sc 0 y2 W l2).ev rfl)
    · -- zip
      rename_i a b nx p xa xb p2
      simp only [Bool.and_eq_true, decide_eq_true_eq] at h
      obtain ⟨⟨⟨⟨⟨⟨rfl, rfl⟩, h2⟩, h3⟩, h4⟩, h5⟩, h6⟩ := h
      have hgl := gl_of W.hsc h2
      refine ⟨fun z => by omega, fun z => by omega, fun z => by omega, fun z => by omega, fun z => by omega, fun tg _ ht => ?_⟩
      have ht' := ht rfl
      cases tg <;> first | cases ht' | skip
      exact si_zip W hgl h3 h4 ((lt (by simp <;> omega) H0 X sc 0 _ W h5).ev rfl) ((lt (by simp <;> omega) H0 X sc 0 _ W h6).ev rfl)
    · -- enumerate
      rename_i a nx p xa p2
      simp only [Bool.and_eq_true, decide_eq_true_eq] at h
      obtain ⟨⟨⟨⟨rfl, rfl⟩, h2⟩, h3⟩, h4⟩ := h
      have hgl := gl_of W.hsc h2
      refine ⟨fun z => by omega, fun z => by omega, fun z => by omega, fun z => by omega, fun z => by omega, fun tg _ ht => ?_⟩
      have ht' := ht rfl
      cases tg <;> first | cases ht' | skip
      exact si_enu W hgl h3 ((lt (by simp <;> omega) H0 X sc 0 _ W h4).ev rfl)
    · cases h
theorem good (Ar : Arity P cf) (fnd : ∀ (j : Nat) (ds : List D) (S : Sto) (q : D × Sto), cf j ds S = some q → ∃ g, P.fns[j]? = some g) (e : E) : Good P cf fa Ar N e := good_n Ar fnd (sizeOf e + 1) e (Nat.lt_succ_self _)
end
end Pv

set_option Elab.async false
set_option linter.all false
set_option maxRecDepth 100000
set_option maxHeartbeats 8000000
/-! SndQ: the check of statements, and its soundness. -/
namespace Pv
open PySem PySem.Spec PyProof.Rows L2

def nmsOf (sc : Scope) (line : Nat) (ts : List Expr) : List Str := ts.filterMap fun
  | .Name id pos => if sc.names.lookup id == some .local && pos.line == line then some id else none
  | _ => none
def lineOf (ts : List Expr) : Nat := (ts.head?.map (·.pos.line)).getD 0
theorem sw_form {env : Env} {ts vs : List Expr} {k : Nat} {p : Pos} {k2 : Nat} {p2 : Pos} : swappedStores [.Tuple ts k p] (.Tuple vs k2 p2) env =
   (if (!(ts.length == 2 || ts.length == 3) || vs.length != ts.length || env.blockKind != .function) = true then pure none else
    if (vs.any fun | .Starred .. => true | _ => false) = true then pure none else
    if ((nmsOf env.scope (lineOf ts) ts).length != ts.length || (nmsOf env.scope (lineOf ts) ts).eraseDups.length != (nmsOf env.scope (lineOf ts) ts).length) = true then pure none else
    if vs.all (foldedForSure 8) = true then pure none else
    if vs.all (constantsAlone 8) = true then (do unsupported "assign.tuple-of-constant-expressions:order-of-the-stores"; pure (some (nmsOf env.scope (lineOf ts) ts))) else
    pure (some (nmsOf env.scope (lineOf ts) ts))) := by
  rfl
def swNone (sc : Scope) (ts : List Expr) : Expr → Bool
  | .Tuple vs _ _ => !(ts.length == 2 || ts.length == 3) || vs.length != ts.length || (vs.any fun | .Starred .. => true | _ => false) || ((nmsOf sc (lineOf ts) ts).length != ts.length || (nmsOf sc (lineOf ts) ts).eraseDups.length != (nmsOf sc (lineOf ts) ts).length) || vs.all (foldedForSure 8)
  | _ => true
def swSome (sc : Scope) (ts vs : List Expr) (names : List Str) : Bool := !(!(ts.length == 2 || ts.length == 3) || vs.length != ts.length) && !(vs.any fun | .Starred .. => true | _ => false) &&
  !((nmsOf sc (lineOf ts) ts).length != ts.length || (nmsOf sc (lineOf ts) ts).eraseDups.length != (nmsOf sc (lineOf ts) ts).length) && !vs.all (foldedForSure 8) && !vs.all (constantsAlone 8) && decide (nmsOf sc (lineOf ts) ts = names)
theorem sw_none {env : Env} {sc : Scope} {ts : List Expr} {v : Expr} {k : Nat} {p : Pos} (h : swNone sc ts v = true) (he : env.scope = sc) (hk : env.blockKind = .function) : swappedStores [.Tuple ts k p] v env = pure none := by
  cases v with
  | Tuple vs k2 p2 =>
    rw [sw_form, he]
    simp only [swNone] at h
    by_cases c1 : (!(ts.length == 2 || ts.length == 3) || vs.length != ts.length || env.blockKind != .function) = true
    · rw [if_pos c1]
    · rw [if_neg c1]
      have c1' : (!(ts.length == 2 || ts.length == 3) || vs.length != ts.length) = false := by
        simp only [Bool.or_eq_true, not_or, Bool.not_eq_true] at c1
        rw [c1.1.1, c1.1.2]; rfl
      rw [c1', Bool.false_or] at h
      split
      · rfl
      · rename_i c2
        split
        · rfl
        · rename_i c3
          split
          · rfl
          · rename_i c4
            simp only [Bool.not_eq_true] at c2 c3 c4
            rw [c2, c3, c4] at h
            exact absurd h Bool.false_ne_true
  | _ => rfl
theorem sw_some {env : Env} {sc : Scope} {ts vs : List Expr} {names : List Str} {k : Nat} {p : Pos} {k2 : Nat} {p2 : Pos} (h : swSome sc ts vs names = true) (he : env.scope = sc) (hk : env.blockKind = .function) : swappedStores [.Tuple ts k p] (.Tuple vs k2 p2) env = pure (some names) := by
  unfold swSome at h
  simp only [Bool.and_eq_true, Bool.not_eq_true', decide_eq_true_eq] at h
  obtain ⟨⟨⟨⟨⟨c1, c2⟩, c3⟩, c4⟩, c5⟩, c6⟩ := h
  rw [sw_form, he, c1, hk, c2, c3, c4, c5, c6]
  rfl

def isComp : Expr → Bool
  | .ListComp _ _ _ _ => true
  | .SetComp _ _ _ _ => true
  | .DictComp _ _ _ _ _ => true
  | _ => false
/-- whether a list comprehension's value is stored within its frame -/
def swB (sc : Scope) (x : Str) (px : Pos) : Expr → Bool
  | .ListComp _ _ scope pos => decide (sc.names.lookup x = some .local) && (px.line == pos.line) && !(scope.names.any fun (n, k) => n == x && (k == .local || k == .cell))
  | _ => false
def locOk (N : List Str) (sc : Scope) (i : Nat) (x : Str) : Bool := decide (N[i]? = some x) && (decide (sc.names.lookup x = some .local) || decide (sc.names.lookup x = some .cell))
def isCmpr : E → Bool
  | .cmpr _ _ _ _ _ => true
  | _ => false
def nmAll (N : List Str) (sc : Scope) : List Nat → List Expr → Bool
  | [], [] => true
  | i :: is, .Name x _ :: xs => decide (N[i]? = some x) && decide (sc.names.lookup x = some .local) && nmAll N sc is xs
  | _, _ => false
def nmsX : List Expr → List Str
  | .Name x _ :: r => x :: nmsX r
  | _ => []
def distinct : List Nat → Bool
  | [] => true
  | i :: is => !is.contains i && distinct is

mutual
def mS (P : Prg) (N : List Str) (sc : Scope) : C → Stmt → Bool
  | .set i e, .Assign [.Name x px] v _ => locOk N sc i x && mE P N 0 sc e v && (if swB sc x px v then isCmpr e else !isComp v || decide (sc.names.lookup x = some .cell))
  | .own i e, .Assign [.Name x px] v _ => locOk N sc i x && mE P N 0 sc e v && isFr e && (if swB sc x px v then isCmpr e else !isComp v || decide (sc.names.lookup x = some .cell))
  | .unp tg e, .Assign [.Tuple ts k p] v _ => mTg true N sc tg (.Tuple ts k p) && mE P N 0 sc e v && swNone sc ts v
  | .par is es, .Assign [.Tuple ts _ _] (.Tuple vs _ _) _ => nmAll N sc is ts && distinct is && decide (2 ≤ is.length ∧ is.length ≤ 3) && mEs P N sc es vs && vs.all noStar && swSome sc ts vs (nmsX ts)
  | .put a i e, .Assign [.Subscript xa xi _] v _ => mE P N 0 sc a xa && mE P N 0 sc i xi && mE P N 0 sc e v && okIx xi
  | .aug i op e, .AugAssign (.Name x _) op' v _ => locOk N sc i x && decide (op = op') && decide (op = .Add ∨ op = .Sub) && mE P N 0 sc e v
  | .exp e, .Expr v _ => mE P N 0 sc e v && !isComp v
  | .app i e, .Expr (.Call (.Attribute (.Name x _) n ap) [v] [] cp) _ => decide (n = "append") && nmOk N sc i x && mE P N 0 sc e v && noStar v && (ap.endLine == cp.line)
  | .ext i e, .Expr (.Call (.Attribute (.Name x _) n ap) [v] [] cp) _ => decide (n = "extend") && nmOk N sc i x && mE P N 0 sc e v && noStar v && (ap.endLine == cp.line)
  | .ins i a b, .Expr (.Call (.Attribute (.Name x _) n ap) [va, vb] [] cp) _ => decide (n = "insert") && nmOk N sc i x && mE P N 0 sc a va && mE P N 0 sc b vb && noStar va && noStar vb && (ap.endLine == cp.line)
  | .par2 i a e j b f, .Assign [.Tuple ts _ _] (.Tuple vs _ _) _ => nmAll N sc [i, j] ts && distinct [i, j] && mEs P N sc [e, f] vs && vs.all noStar && (!a || isFr e) && (!b || isFr f) && swSome sc ts vs (nmsX ts)
  | .puto i k e, .Assign [.Subscript (.Name x _) xi _] v _ => nmOk N sc i x && mE P N 0 sc k xi && mE P N 0 sc e v && okIx xi
  | .insr i a b, .Expr (.Call (.Attribute (.Name x _) n ap) [va, vb] [] cp) _ => decide (n = "insert") && nmOk N sc i x && mE P N 0 sc a va && mE P N 0 sc b vb && noStar va && noStar vb && (ap.endLine == cp.line)
  | .lnd i f es, .Expr (.Call (.Name gn _) (.Name x _ :: xs) [] _) _ => match P.fns[f]? with
    | some g => glOk sc g.name gn && nmOk N sc i x && xs.all noStar && mEs P N sc es xs
    | none => false
  | .apop i j e, .Expr (.Call (.Attribute (.Name x _) n ap) [.Call (.Attribute (.Name y _) n2 ap2) [v] [] cp2] [] cp) _ => decide (n = "append") && decide (n2 = "pop") && nmOk N sc i x && nmOk N sc j y && mE P N 0 sc e v && noStar v && (ap.endLine == cp.line) && (ap2.endLine == cp2.line)
  | .spop (.nm i) j, .Assign [.Name x px] (.Call (.Attribute (.Name y _) n2 ap2) [] [] cp2) _ => decide (n2 = "pop") && locOk N sc i x && nmOk N sc j y && (ap2.endLine == cp2.line)
  | .spop (.tp tgs) j, .Assign [.Tuple ts k p] (.Call (.Attribute (.Name y yp) n2 ap2) [] [] cp2) _ => decide (n2 = "pop") && mTg true N sc (.tp tgs) (.Tuple ts k p) && nmOk N sc j y && (ap2.endLine == cp2.line)
  | .ite c a b, .If xc xa xb _ => mE P N 0 sc c xc && mB P N sc a xa && mB P N sc b xb
  | .for_ tg it b, .For xtg xit xb [] _ => mTg true N sc tg xtg && mE P N (if isTupX xtg then 3 else 2) sc it xit && !isSetX xit && mB P N sc b xb
  | .whl c b, .While xc xb [] _ => mE P N 0 sc c xc && mB P N sc b xb
  | .ret e, .Return v _ => match v with
    | some x => mE P N 0 sc e x
    | none => match e with
      | .cst .non => true
      | _ => false
  | .pas, .Pass _ => true
  | .brk, .Break _ => true
  | .cnt, .Continue _ => true
  | .bad, _ => true
  | .frz _ c, s => mS P N sc c s
  | _, _ => false
def mB (P : Prg) (N : List Str) (sc : Scope) : List C → List Stmt → Bool
  | [], [] => true
  | c :: cs, s :: ss => mS P N sc c s && mB P N sc cs ss
  | _, _ => false
end
end Pv

set_option Elab.async false
set_option linter.all false
set_option maxRecDepth 100000
set_option maxHeartbeats 8000000
/-! SndR: soundness of the check of statements. -/
namespace Pv
open PySem PySem.Spec PyProof.Rows L2

section
variable {P : Prg} {cf : Nat → List D → Sto → Option (D × Sto)} {fa : Nat → Addr} {Hs Gs : Hp} {Bs : List Addr} {X : Cx} {N : List Str} {sc : Scope}

/-- in a def's body -/
structure WdS (P : Prg) (cf : Nat → List D → Sto → Option (D × Sto)) (fa : Nat → Addr) (X : Cx) (N : List Str) (sc : Scope) : Prop where
  wd : Wd P cf fa X N sc
  fn : ∀ x, X.fn x = true
  knd : X.env.scope.kind = .function
  pas : PassesOwn (model X.prog X.w) X.A X.env X.xe
theorem WdS.blk (W : WdS P cf fa X N sc) : X.env.blockKind = .function := by
  unfold Env.blockKind
  rw [W.knd]
  rfl

theorem loc_of (W : WdS P cf fa X N sc) {i : Nat} {x : Str} (h : locOk N sc i x = true) : X.N[i]? = some x ∧ L2.Loc X.env.scope x := by
  unfold locOk at h
  simp only [Bool.and_eq_true, Bool.or_eq_true, decide_eq_true_eq] at h
  refine ⟨by rw [W.wd.hN]; exact h.1, ?_⟩
  unfold L2.Loc
  rw [W.wd.hsc]
  exact h.2
theorem sw_of {v : Expr} {t : Option Expr} {l : Nat} {env : Env} (h : isComp v = false) : swapsWith v t l env = pure false := by
  cases v <;> first | rfl | cases h
theorem sw_cell {elt : Expr} {gs : List Comprehension} {scope : Scope} {pos py : Pos} {y : Str} {l : Nat} {env : Env} (hk : env.blockKind = .function) (hy : env.scope.names.lookup y = some .cell) : swapsWith (.ListComp elt gs scope pos) (some (.Name y py)) l env = pure false := by
  have ky : env.kindOf y = some .cell := hy
  unfold swapsWith
  simp only [hk, ky]
  rfl
theorem sole_of {v tg : Expr} {l : Nat} {env : Env} (h : ∀ x p, tg ≠ .Name x p) : swapsWithSole [tg] v l env = pure false := by
  cases tg <;> first | exact absurd rfl (h _ _) | (cases v <;> rfl)

theorem comp_ok {H0 : Hp} (Ar : Arity P cf) (fnd : ∀ (j : Nat) (ds : List D) (S : Sto) (q : D × Sto), cf j ds S = some q → ∃ g, P.fns[j]? = some g) (W : Wd P cf fa X N sc) {m : Nat} {own : List Nat} {tg : Tg} {it elt : E} {ifs : List E} {x : Expr} (h : mE P N m sc (.cmpr own tg it ifs elt) x = true) :
    ∃ xtg xit xifs xelt scope p, x = .ListComp xelt [⟨xtg, xit, xifs, 0⟩] scope p ∧ (ownNm N own).map (·.2) = own ∧ CompOk P cf fa H0 X (ownNm N own) scope xtg xit xifs xelt tg it ifs elt := by
  cases x with
  | ListComp xelt gens scope p =>
    match gens, h with
    | [⟨xtg, xit, xifs, k⟩], h =>
      simp only [mE, Bool.and_eq_true, decide_eq_true_eq, Bool.not_eq_true'] at h
      obtain ⟨⟨⟨⟨⟨⟨⟨⟨⟨rfl, h1⟩, h2⟩, h3⟩, h4⟩, h5⟩, h6⟩, h7⟩, h8⟩, h9⟩ := h
      have hown : (ownNm N own).map (·.2) = own := by
        unfold ownNm
        rw [List.map_map]
        show own.map (fun i => i) = own
        exact List.map_id' own
      have hsl : ∀ i ∈ tg.slots, i ∈ (ownNm N own).map (·.2) := fun i hi => by
        rw [hown]
        have := List.all_eq_true.mp h3 i hi
        simpa using this
      have hfs : ∀ x, foldedSetIterable xit X.env x = pure x := by
        intro y
        cases xit <;> first | rfl | cases h8
      refine ⟨xtg, xit, xifs, xelt, scope, p, rfl, hown, {
        it := (good Ar fnd it H0 X sc _ xit W h5).iv xtg (by split <;> omega) (fun e => by
          by_cases hh : isTupX xtg = true
          · exact hh
          · rw [if_neg hh] at e; omega)
        ok := by rw [W.hN, W.hsc]; exact blkOk_by h1
        one := h4
        slots := hsl
        tg := fun s H C cl fp => pg_of (c := false) (W.blk s H scope C cl fp) (fun z => nomatch z) tg xtg h2
        ifs := fun s H C cl fp => by
          match ifs, xifs, h4, h6, h9 with
          | [], xs, _, h6, _ =>
            rw [mEs_none h6]
            exact pts_nil
          | [e], xs, _, h6, ns =>
            obtain ⟨y, ys, rfl, a1, a2, a3, a4, a5⟩ := mEs_cons h6 ns
            rw [mEs_none a5]
            exact pts_one ((good Ar fnd e H0 _ _ 0 y (W.blk s H scope C cl fp) a2).tv rfl).a
          | _ :: _ :: _, _, h4, _, _ => exact absurd h4 (by simp)
        elt := fun s H C cl fp => (good Ar fnd elt H0 _ _ 0 xelt (W.blk s H scope C cl fp) h7).ev rfl
        fs := hfs }⟩
    | [], h => exact absurd h (by simp [mE])
    | _ :: _ :: _, h => exact absurd h (by simp [mE])
  | _ => cases h

/-- x = v, the value -/
theorem ps_setE {H0 : Hp} (Ar : Arity P cf) (fnd : ∀ (j : Nat) (ds : List D) (S : Sto) (q : D × Sto), cf j ds S = some q → ∃ g, P.fns[j]? = some g) (W : WdS P cf fa X N sc) {i : Nat} {x : Str} {px p : Pos} {e : E} {v : Expr} (h1 : locOk N sc i x = true) (h2 : mE P N 0 sc e v = true)
    (h3 : (if swB sc x px v then isCmpr e else !isComp v || decide (sc.names.lookup x = some .cell)) = true) :
    PS X (.Assign [.Name x px] v p) (tAsg (AE P cf fa H0 X.K e) (gName i)) ∧ (isFr e = true → PS X (.Assign [.Name x px] v p) (tAsg (AF X.K fa H0 P cf e) (gName i))) := by
  obtain ⟨hi, hx⟩ := loc_of W h1
  have nd : X.N.Nodup := by rw [W.wd.hN]; exact W.wd.nd
  have g := good Ar fnd e H0 X sc 0 v W.wd h2
  by_cases hb : swB sc x px v = true
  · rw [if_pos hb] at h3
    cases e <;> first | (exact absurd h3 Bool.false_ne_true) | skip
    rename_i own tg it ifs elt
    obtain ⟨xtg, xit, xifs, xelt, scope, p2, rfl, hown, c⟩ := comp_ok (H0 := H0) Ar fnd W.wd h2
    unfold swB at hb
    simp only [Bool.and_eq_true, decide_eq_true_eq, Bool.not_eq_true'] at hb
    obtain ⟨⟨b1, b2⟩, b3⟩ := hb
    have hl : X.env.scope.names.lookup x = some .local := by rw [W.wd.hsc]; exact b1
    have key := ps_setLc (spos := p) (py := px) (te := AE P cf fa H0 X.K elt) W.wd.calm nd hi hl (sw_true W.knd hl b2 b3) c.it c.ok c.tg c.ifs (fun s H C cl fp => (c.elt s H C cl fp).a) c.fs
    have rd : ∀ {r S d S'}, evE P cf (.cmpr own tg it ifs elt) r S = some (d, S') → ∃ ds, d = .lst ds ∧ ∀ σ H Q, TF fa H0 X.K r S ds S' σ H Q → tLc (AI P cf fa H0 X.K it) (gTg X.K tg) (AIfs P cf fa H0 X.K ifs) (AE P cf fa H0 X.K elt) ((ownNm N own).map (·.2)) σ H Q := fun {r S d S'} hv =>
      comp_read (X := X) (fa := fa) (H0 := H0) c.one c.slots (by rw [hown]; exact hv)
    refine ⟨key.wk fun D σ H ⟨r, S, d, S', hv, q⟩ => ?_, fun _ => key.wk fun D σ H ⟨r, S, ds, S', hv, q⟩ => ?_⟩
    · obtain ⟨ds, rfl, k⟩ := rd hv
      obtain ⟨G, B, R, RS, q⟩ := q
      refine k σ H _ ⟨G, B, R, RS, fun p vs H' G' B' hp st rs dt => ?_⟩
      obtain ⟨st2, rs2⟩ := rs.lay (o := .lst vs) hp
      exact q _ _ _ _ (st.trans st2) rs2 ⟨p, vs, rfl, upd_same, st2.dats dt⟩
    · obtain ⟨ds', e', k⟩ := rd hv
      cases e'
      exact k σ H _ q
  · rw [if_neg hb] at h3
    have hs : swapsWith v (some (.Name x px)) p.line X.env = pure false := by
      rw [Bool.or_eq_true] at h3
      rcases h3 with h3 | h3
      · exact sw_of (by simpa using h3)
      · have hc : X.env.scope.names.lookup x = some .cell := by rw [W.wd.hsc]; exact of_decide_eq_true h3
        cases v with
        | ListComp a b c d => exact sw_cell W.blk hc
        | SetComp a b c d =>
          have ky : X.env.kindOf x = some .cell := hc
          unfold swapsWith
          simp only [W.blk, ky]
          rfl
        | DictComp a b c d f =>
          have ky : X.env.kindOf x = some .cell := hc
          unfold swapsWith
          simp only [W.blk, ky]
          rfl
        | _ => rfl
    exact ⟨ps_set nd hi hx (g.ev rfl).a hs (.inl (W.fn x)), fun hf => ps_set nd hi hx (g.fv rfl hf).a hs (.inl (W.fn x))⟩

theorem asg_sub {o i : Expr} {pos : Pos} (h : okIx i = true) (v : Value) : assign (.Subscript o i pos) X.env v = (do
      let ov ← holding [v] (eval o X.env)
      let iv ← holding [v, ov] (eval i X.env)
      standAt pos
      holding [v, ov, iv] (setItem ov iv v)
      release [v, ov, iv] []) := by
  cases i <;> first | rfl | cases h
theorem nm_all (W : WdS P cf fa X N sc) : ∀ (is : List Nat) (xs : List Expr), nmAll N sc is xs = true → xs.length = is.length ∧ ∀ (k i : Nat), is[k]? = some i → ∃ x p, xs[k]? = some (.Name x p) ∧ X.N[i]? = some x ∧ X.env.scope.names.lookup x = some .local
  | [], [], _ => ⟨rfl, fun k i h => by simp at h⟩
  | [], _ :: _, h => by simp only [nmAll] at h; cases h
  | i :: is, [], h => by simp only [nmAll] at h; cases h
  | i :: is, y :: ys, h => by
    cases y with
    | Name x p =>
      simp only [nmAll, Bool.and_eq_true, decide_eq_true_eq] at h
      obtain ⟨l, r⟩ := nm_all W is ys h.2
      refine ⟨by rw [List.length_cons, List.length_cons, l], fun k j hk => ?_⟩
      cases k with
      | zero =>
        simp at hk
        subst hk
        exact ⟨x, p, rfl, by rw [W.wd.hN]; exact h.1.1, by rw [W.wd.hsc]; exact h.1.2⟩
      | succ k =>
        simp at hk
        obtain ⟨x, p, e1, e2⟩ := r k j hk
        exact ⟨x, p, by simpa using e1, e2⟩
    | _ => simp only [nmAll] at h; cases h

variable (P cf fa) in
def GoodS (Ar : Arity P cf) (N : List Str) (c : C) : Prop := ∀ (Hs Gs : Hp) (Bs : List Addr) (X : Cx) (sc : Scope) (st : Stmt), WdS P cf fa X N sc → mS P N sc c st = true → SS P cf fa Hs Gs Bs X st c
theorem good_b {Ar : Arity P cf} {n : Nat} (ih : ∀ c : C, sizeOf c < n → GoodS P cf fa Ar N c) : ∀ (cs : List C), sizeOf cs ≤ n → ∀ (Hs Gs : Hp) (Bs : List Addr) (X : Cx) (sc : Scope) (sts : List Stmt), WdS P cf fa X N sc → mB P N sc cs sts = true → SSs P cf fa Hs Gs Bs X sts cs
  | [], _, Hs, Gs, Bs, X, sc, sts, W, h => by
    cases sts with
    | nil => exact sb_nil
    | cons _ _ => simp only [mB] at h; cases h
  | c :: cs, hs, Hs, Gs, Bs, X, sc, sts, W, h => by
    cases sts with
    | nil => simp only [mB] at h; cases h
    | cons s ss =>
      simp only [mB, Bool.and_eq_true] at h
      exact sb_cons (ih c (by simp at hs; omega) Hs Gs Bs X sc s W h.1) (good_b ih cs (by simp at hs; omega) Hs Gs Bs X sc ss W h.2)

theorem good_s (Ar : Arity P cf) (fnd : ∀ (j : Nat) (ds : List D) (S : Sto) (q : D × Sto), cf j ds S = some q → ∃ g, P.fns[j]? = some g) : ∀ n : Nat, ∀ c : C, sizeOf c < n → GoodS P cf fa Ar N c := by
  intro n
  induction n with
  | zero => intro e h; exact absurd h (Nat.not_lt_zero _)
  | succ n ih =>
    intro c hs Hs Gs Bs X sc st W h
    have gd : ∀ (e : E) {x : Expr} {m : Nat}, mE P N m sc e x = true → Res P cf fa Hs X m e x := fun e {x m} hm => good Ar fnd e Hs X sc m x W.wd hm
    have gb : ∀ {b : List C}, sizeOf b < sizeOf c → ∀ (sts : List Stmt), mB P N sc b sts = true → SSs P cf fa Hs Gs Bs X sts b := fun {b} hb sts hm => good_b (n := n) ih b (by omega) Hs Gs Bs X sc sts W hm
    have nd : X.N.Nodup := by rw [W.wd.hN]; exact W.wd.nd
    unfold mS at h
    split at h
    · -- set
      simp only [Bool.and_eq_true] at h
      exact ss_set (ps_setE Ar fnd W h.1.1 h.1.2 h.2).1
    · -- own
      simp only [Bool.and_eq_true] at h
      exact ss_own ((ps_setE Ar fnd W h.1.1.1 h.1.1.2 h.2).2 h.1.2)
    · -- unp
      simp only [Bool.and_eq_true] at h
      exact ss_unp (ps_asg ((gd _ h.1.2).ev rfl).a (pg_of W.wd (fun _ => W.fn) _ _ h.1.1) (sole_of fun _ _ z => nomatch z) (sw_none h.2 W.wd.hsc W.blk))
    · -- par
      rename_i is es ts k1 p1 vs k2 p2 p3
      simp only [Bool.and_eq_true, decide_eq_true_eq] at h
      obtain ⟨⟨⟨⟨⟨h1, h2⟩, h3⟩, h4⟩, h5⟩, h6⟩ := h
      obtain ⟨ln, hn⟩ := nm_all W is ts h1
      have hw := sw_some (k := k1) (p := p1) (k2 := k2) (p2 := p2) h6 W.wd.hsc W.blk
      clear hs gb
      match is, h2, h3, ln, hn with
      | [i, j], h2, _, ln, hn =>
        match ts, ln with
        | [t1, t2], _ =>
          obtain ⟨x, q1, e1, a1, a2⟩ := hn 0 i rfl
          obtain ⟨y, q2, e2, b1, b2⟩ := hn 1 j rfl
          have e1' : t1 = .Name x q1 := by simpa using e1
          have e2' : t2 = .Name y q2 := by simpa using e2
          subst e1' e2'
          have hij : i ≠ j := by
            simp only [distinct, Bool.and_eq_true] at h2
            intro z
            subst z
            simp at h2
          match es, vs, h4, h5, hw with
          | [e1, e2], vs, h4, h5, hw =>
            obtain ⟨v1, r1, rfl, c1, c2, c3, c4, c5⟩ := mEs_cons h4 h5
            obtain ⟨v2, r2, rfl, d1, d2, d3, d4, d5⟩ := mEs_cons c5 c4
            obtain rfl := mEs_none d5
            have sa : SA P cf fa Hs X [v1, v2] [e1, e2] := sa_cons c3 c1 ((gd _ c2).ev rfl) (sa_cons d3 d1 ((gd _ d2).ev rfl) sa_nil)
            exact ss_par2 (ps_par W.wd.calm nd a1 b1 hij a2 b2 sa.a hw)
          | [], vs, h4, h5, hw =>
            obtain rfl := mEs_none h4
            exact absurd h6 (by simp [swSome])
          | [e1], vs, h4, h5, hw =>
            obtain ⟨v1, r1, rfl, c1, c2, c3, c4, c5⟩ := mEs_cons h4 h5
            obtain rfl := mEs_none c5
            exact absurd h6 (by simp [swSome])
          | e1 :: e2 :: e3 :: er, vs, h4, h5, hw =>
            obtain ⟨v1, r1, rfl, c1, c2, c3, c4, c5⟩ := mEs_cons h4 h5
            obtain ⟨v2, r2, rfl, d1, d2, d3, d4, d5⟩ := mEs_cons c5 c4
            obtain ⟨v3, r3, rfl, f1, f2, f3, f4, f5⟩ := mEs_cons d5 d4
            exact absurd h6 (by simp [swSome])
      | [i, j, l], h2, _, ln, hn =>
        match ts, ln with
        | [t1, t2, t3], _ =>
          obtain ⟨x, q1, e1, a1, a2⟩ := hn 0 i rfl
          obtain ⟨y, q2, e2, b1, b2⟩ := hn 1 j rfl
          obtain ⟨z, q3, e3, g1, g2⟩ := hn 2 l rfl
          have e1' : t1 = .Name x q1 := by simpa using e1
          have e2' : t2 = .Name y q2 := by simpa using e2
          have e3' : t3 = .Name z q3 := by simpa using e3
          subst e1' e2' e3'
          have hd : i ≠ j ∧ i ≠ l ∧ j ≠ l := by
            simp only [distinct, Bool.and_eq_true] at h2
            refine ⟨fun z => ?_, fun z => ?_, fun z => ?_⟩ <;> (subst z; simp at h2)
          match es, vs, h4, h5, hw with
          | [e1, e2, e3], vs, h4, h5, hw =>
            obtain ⟨v1, r1, rfl, c1, c2, c3, c4, c5⟩ := mEs_cons h4 h5
            obtain ⟨v2, r2, rfl, d1, d2, d3, d4, d5⟩ := mEs_cons c5 c4
            obtain ⟨v3, r3, rfl, f1, f2, f3, f4, f5⟩ := mEs_cons d5 d4
            obtain rfl := mEs_none f5
            have sa : SA P cf fa Hs X [v1, v2, v3] [e1, e2, e3] := sa_cons c3 c1 ((gd _ c2).ev rfl) (sa_cons d3 d1 ((gd _ d2).ev rfl) (sa_cons f3 f1 ((gd _ f2).ev rfl) sa_nil))
            exact ss_par3 (ps_par3 W.wd.calm nd a1 b1 g1 hd.1 hd.2.1 hd.2.2 a2 b2 g2 sa.a hw)
          | [], vs, h4, h5, hw =>
            obtain rfl := mEs_none h4
            exact absurd h6 (by simp [swSome])
          | [e1], vs, h4, h5, hw =>
            obtain ⟨v1, r1, rfl, c1, c2, c3, c4, c5⟩ := mEs_cons h4 h5
            obtain rfl := mEs_none c5
            exact absurd h6 (by simp [swSome])
          | [e1, e2], vs, h4, h5, hw =>
            obtain ⟨v1, r1, rfl, c1, c2, c3, c4, c5⟩ := mEs_cons h4 h5
            obtain ⟨v2, r2, rfl, d1, d2, d3, d4, d5⟩ := mEs_cons c5 c4
            obtain rfl := mEs_none d5
            exact absurd h6 (by simp [swSome])
          | e1 :: e2 :: e3 :: e4 :: er, vs, h4, h5, hw =>
            obtain ⟨v1, r1, rfl, c1, c2, c3, c4, c5⟩ := mEs_cons h4 h5
            obtain ⟨v2, r2, rfl, d1, d2, d3, d4, d5⟩ := mEs_cons c5 c4
            obtain ⟨v3, r3, rfl, f1, f2, f3, f4, f5⟩ := mEs_cons d5 d4
            obtain ⟨v4, r4, rfl, _⟩ := mEs_cons f5 f4
            exact absurd h6 (by simp [swSome])
      | [], _, h3, _, _ => exact absurd h3.1 (by simp)
      | [_], _, h3, _, _ => exact absurd h3.1 (by simp)
      | _ :: _ :: _ :: _ :: _, _, h3, _, _ => exact absurd h3.2 (by simp)
    · -- put
      simp only [Bool.and_eq_true] at h
      exact ss_put (ps_asg ((gd _ h.1.2).ev rfl).a (pg_sub ((gd _ h.1.1.1).ev rfl).a ((gd _ h.1.1.2).ev rfl).a set_list (asg_sub h.2)) (sole_of fun _ _ z => nomatch z))
    · -- aug
      rename_i i op e x px op' v p
      simp only [Bool.and_eq_true, decide_eq_true_eq] at h
      obtain ⟨⟨⟨h1, rfl⟩, h3⟩, h4⟩ := h
      obtain ⟨hi, hx⟩ := loc_of W h1
      rcases h3 with rfl | rfl
      · exact ss_aug (.inl ⟨rfl, rfl⟩) (ps_aug nd hi hx ((gd _ h4).ev rfl).a ip_add (.inl (W.fn x)))
      · exact ss_aug (.inr ⟨rfl, rfl⟩) (ps_aug nd hi hx ((gd _ h4).ev rfl).a ip_sub (.inl (W.fn x)))
    · -- exp
      simp only [Bool.and_eq_true, Bool.not_eq_true'] at h
      exact ss_exp (ps_expr ((gd _ h.1).ev rfl).a (sw_of h.2))
    · -- app
      rename_i i e x px n ap v cp p
      simp only [Bool.and_eq_true, decide_eq_true_eq] at h
      obtain ⟨⟨⟨⟨rfl, h1⟩, h2⟩, h3⟩, h4⟩ := h
      obtain ⟨n1, n2, n3, n4⟩ := nmOk_of W.wd h1
      have hst := star_of (X := X) (es := []) h3
      exact ss_app (ps_expr (pe_bm PySem.F.plainAttrs_list PySem.F.slot_list_append PySem.F.type_list_append mt_append (pe_var n1 n2 n3 n4) (pa_cons ((gd _ h2).ev rfl).a pa_nil hst) rfl (by rw [hst]; rfl) h4 hst rfl) rfl)
    · -- ext
      rename_i i e x px n ap v cp p _
      simp only [Bool.and_eq_true, decide_eq_true_eq] at h
      obtain ⟨⟨⟨⟨rfl, h1⟩, h2⟩, h3⟩, h4⟩ := h
      obtain ⟨n1, n2, n3, n4⟩ := nmOk_of W.wd h1
      have hst := star_of (X := X) (es := []) h3
      exact ss_ext (ps_expr (pe_bm PySem.F.plainAttrs_list PySem.F.slot_list_extend PySem.F.type_list_extend mt_extend (pe_var n1 n2 n3 n4) (pa_cons ((gd _ h2).ev rfl).a pa_nil hst) rfl (by rw [hst]; rfl) h4 hst rfl) rfl)
    · -- ins
      rename_i i a b x px n ap va vb cp p
      simp only [Bool.and_eq_true, decide_eq_true_eq] at h
      obtain ⟨⟨⟨⟨⟨⟨rfl, h1⟩, h2⟩, h3⟩, h4⟩, h5⟩, h6⟩ := h
      obtain ⟨n1, n2, n3, n4⟩ := nmOk_of W.wd h1
      have hst := star_of (X := X) (es := [vb]) h4
      have hst2 := star_of (X := X) (es := []) h5
      exact ss_ins (ps_expr (pe_bm PySem.F.plainAttrs_list PySem.F.slot_list_insert PySem.F.type_list_insert mt_insert (pe_var n1 n2 n3 n4) (pa_cons ((gd _ h2).ev rfl).a (pa_cons ((gd _ h3).ev rfl).a pa_nil hst2) hst) rfl (by rw [hst, hst2]; rfl) h6 hst (by rw [hst2]; rfl)) rfl)
    · -- par2
      rename_i i a e j b f ts k1 p1 vs k2 p2 p3
      simp only [Bool.and_eq_true] at h
      obtain ⟨⟨⟨⟨⟨⟨h1, h2⟩, h4⟩, h5⟩, f1⟩, f2⟩, h6⟩ := h
      obtain ⟨ln, hn⟩ := nm_all W [i, j] ts h1
      have hw := sw_some (k := k1) (p := p1) (k2 := k2) (p2 := p2) h6 W.wd.hsc W.blk
      match ts, ln with
      | [t1, t2], _ =>
        obtain ⟨x, q1, e1, a1, a2⟩ := hn 0 i rfl
        obtain ⟨y, q2, e2, b1, b2⟩ := hn 1 j rfl
        have e1' : t1 = .Name x q1 := by simpa using e1
        have e2' : t2 = .Name y q2 := by simpa using e2
        subst e1' e2'
        have hij : i ≠ j := by
          simp only [distinct, Bool.and_eq_true] at h2
          intro z
          subst z
          simp at h2
        obtain ⟨v1, r1, rfl, c1, c2, c3, c4, c5⟩ := mEs_cons h4 h5
        obtain ⟨v2, r2, rfl, d1, d2, d3, d4, d5⟩ := mEs_cons c5 c4
        obtain rfl := mEs_none d5
        have pg : ∀ (own : Bool) (e : E) (v : Expr), mE P N 0 sc e v = true → (!own || isFr e) = true → PE X v (AG P cf fa Hs X.K own e) := fun own e v hm hf => by
          cases own with
          | false => exact ((gd e hm).ev rfl).a
          | true => exact ((gd e hm).fv rfl (by simpa using hf)).a
        exact ss_par2x (ps_par W.wd.calm nd a1 b1 hij a2 b2 (pa_cons (pg a e v1 c2 f1) (pa_cons (pg b f v2 d2 f2) pa_nil (star_of d1)) (star_of c1)) hw)
    · -- puto
      simp only [Bool.and_eq_true] at h
      obtain ⟨⟨⟨h1, h2⟩, h3⟩, h4⟩ := h
      obtain ⟨n1, n2, n3, n4⟩ := nmOk_of W.wd h1
      exact ss_puto (ps_asg ((gd _ h3).ev rfl).a (pg_sub (pe_var n1 n2 n3 n4) ((gd _ h2).ev rfl).a set_list (asg_sub h4)) (sole_of fun _ _ z => nomatch z))
    · -- insr
      rename_i i a b x px n ap va vb cp p
      simp only [Bool.and_eq_true, decide_eq_true_eq] at h
      obtain ⟨⟨⟨⟨⟨⟨rfl, h1⟩, h2⟩, h3⟩, h4⟩, h5⟩, h6⟩ := h
      obtain ⟨n1, n2, n3, n4⟩ := nmOk_of W.wd h1
      have hst := star_of (X := X) (es := [vb]) h4
      have hst2 := star_of (X := X) (es := []) h5
      exact ss_insr (ps_expr (pe_bm PySem.F.plainAttrs_list PySem.F.slot_list_insert PySem.F.type_list_insert mt_insert (pe_var n1 n2 n3 n4) (pa_cons ((gd _ h2).ev rfl).a (pa_cons ((gd _ h3).ev rfl).a pa_nil hst2) hst) rfl (by rw [hst, hst2]; rfl) h6 hst (by rw [hst2]; rfl)) rfl)
    · -- lnd
      rename_i i f es gn gp x px xs cp p
      split at h
      · rename_i g hj
        simp only [Bool.and_eq_true] at h
        obtain ⟨⟨⟨h1, h2⟩, h3⟩, h4⟩ := h
        obtain ⟨e1, g1, g2⟩ := glOk_of W.wd h1
        subst e1
        obtain ⟨n1, n2, n3, n4⟩ := nmOk_of W.wd h2
        have sa : SA P cf fa Hs X xs es := good_es (n := sizeOf es) (fun e _ => good Ar fnd e) es (Nat.le_refl _) Hs X sc xs W.wd h4
        exact ss_lnd (ps_expr (s_lnd W.wd Ar hj g1 g2 n1 n2 n3 n4 h3 sa) rfl)
      · cases h
    · -- apop
      rename_i i j e x px n ap y py n2 ap2 v cp2 cp p
      simp only [Bool.and_eq_true, decide_eq_true_eq] at h
      obtain ⟨⟨⟨⟨⟨⟨⟨rfl, rfl⟩, h1⟩, h2⟩, h3⟩, h4⟩, h5⟩, h6⟩ := h
      obtain ⟨n1, n2, n3, n4⟩ := nmOk_of W.wd h1
      obtain ⟨k1, k2, k3, k4⟩ := nmOk_of W.wd h2
      have hst := star_of (X := X) (es := []) h4
      have inner := pe_bm PySem.F.plainAttrs_list PySem.F.slot_list_pop PySem.F.type_list_pop mt_popAt (pe_var (pos := py) k1 k2 k3 k4) (pa_cons ((gd _ h3).ev rfl).a pa_nil hst) rfl (by rw [hst]; rfl) h6 hst rfl
      exact ss_apop (ps_expr (pe_bm PySem.F.plainAttrs_list PySem.F.slot_list_append PySem.F.type_list_append mt_append (pe_var n1 n2 n3 n4) (pa_cons inner pa_nil rfl) rfl rfl h5 rfl rfl) rfl)
    · -- spop, a name
      rename_i i j x px y py n2 ap2 cp2 p
      simp only [Bool.and_eq_true, decide_eq_true_eq] at h
      obtain ⟨⟨⟨rfl, h1⟩, h2⟩, h3⟩ := h
      obtain ⟨hi, hx⟩ := loc_of W h1
      obtain ⟨k1, k2, k3, k4⟩ := nmOk_of W.wd h2
      exact ss_spop ((ps_set nd hi hx (pe_bm0 PySem.F.plainAttrs_list PySem.F.slot_list_pop PySem.F.type_list_pop mt_pop (pe_var k1 k2 k3 k4) rfl h3) rfl (.inl (W.fn x))).wk fun D σ H q => q)
    · -- spop, names
      rename_i tgs j ts k p y yp n2 ap2 cp2 p2
      simp only [Bool.and_eq_true, decide_eq_true_eq] at h
      obtain ⟨⟨⟨rfl, h1⟩, h2⟩, h3⟩ := h
      obtain ⟨k1, k2, k3, k4⟩ := nmOk_of W.wd h2
      exact ss_spop (ps_asg (pe_bm0 PySem.F.plainAttrs_list PySem.F.slot_list_pop PySem.F.type_list_pop mt_pop (pe_var k1 k2 k3 k4) rfl h3) (pg_of W.wd (fun _ => W.fn) _ _ h1) (sole_of fun _ _ z => nomatch z) rfl)
    · -- ite
      rename_i c a b xc xa xb p
      simp only [Bool.and_eq_true] at h
      exact ss_ite (ps_if ((gd _ h.1.1).tv rfl).a (gb (by simp <;> omega) _ h.1.2) (gb (by simp <;> omega) _ h.2))
    · -- for
      rename_i tg it b xtg xit xb p
      simp only [Bool.and_eq_true, Bool.not_eq_true'] at h
      obtain ⟨⟨⟨h1, h2⟩, h3⟩, h4⟩ := h
      have hfs : ∀ x, foldedSetIterable xit X.env x = pure x := by
        intro y
        cases xit <;> first | rfl | cases h3
      exact ss_for (ps_for W.pas W.wd.calm ((gd it h2).iv xtg (by split <;> omega) (fun e => by
          by_cases hh : isTupX xtg = true
          · exact hh
          · rw [if_neg hh] at e; omega)) (pg_of W.wd (fun _ => W.fn) tg xtg h1) (gb (by simp <;> omega) _ h4) hfs)
    · -- while
      simp only [Bool.and_eq_true] at h
      exact ss_whl (ps_while W.pas ((gd _ h.1).tv rfl).a (gb (by simp <;> omega) _ h.2))
    · -- return
      split at h
      · exact ss_ret (ps_ret ((gd _ h).ev rfl).a)
      · split at h
        · refine ss_ret (PS.wk ps_retN fun D σ H ⟨r, S, d, S', hv, G, B, R, RS, q⟩ => ?_)
          have e : (Pv.D.non, S) = (d, S') := Option.some.inj (by simpa only [evE] using hv)
          cases e
          exact q .non H G B .refl RS rfl
        · cases h
    · exact ss_pas ps_pass
    · exact ss_brk ps_break
    · exact ss_cnt ps_continue
    · exact ss_bad
    · exact ss_frz (ih _ (by simp at hs; omega) Hs Gs Bs X sc _ W h)
    · cases h
theorem goodS (Ar : Arity P cf) (fnd : ∀ (j : Nat) (ds : List D) (S : Sto) (q : D × Sto), cf j ds S = some q → ∃ g, P.fns[j]? = some g) (cs : List C) (Hs Gs : Hp) (Bs : List Addr) (X : Cx) (sc : Scope) (sts : List Stmt) (W : WdS P cf fa X N sc) (h : mB P N sc cs sts = true) : SSs P cf fa Hs Gs Bs X sts cs :=
  good_b (Ar := Ar) (n := sizeOf cs) (fun c _ => good_s Ar fnd (sizeOf c + 1) c (Nat.lt_succ_self _)) cs (Nat.le_refl _) Hs Gs Bs X sc sts W h
end
end Pv

set_option Elab.async false
set_option linter.all false
set_option maxRecDepth 100000
set_option maxHeartbeats 8000000
/-! SndT: each def does what the evaluator says. -/
namespace Pv
open PySem PySem.Spec PyProof.Rows L2

section
variable {K : PySem.W.Frag} {fa : Nat → Addr} {H G H' G' : Hp} {B B' : List Addr} {S S' : Sto}
theorem take_pre (s : Stp H G B H' G' B') : B'.take B.length = B := by
  obtain ⟨C, rfl, _⟩ := s.pre
  simp
theorem Stp.cut (s : Stp H G B H' G' B') : Stp H G B H' G' B := ⟨s.keep, s.liv, s.sub, s.fr, [], by simp, by simp⟩
theorem RelH.cut (R : RelH K fa S H G B) (n : Nat) : RelH K fa (S.take n) H G (B.take n) := by
  refine ⟨R.sub, by rw [List.length_take, List.length_take, R.len], R.nd.sublist (List.take_sublist _ _), fun m ds e => ?_⟩
  have hm : m < n := by
    have := (List.getElem?_eq_some_iff.mp e).1
    rw [List.length_take] at this
    omega
  rw [List.getElem?_take_of_lt hm] at e
  obtain ⟨a, vs, e1, e2, e3, e4, e5⟩ := R.at_ m ds e
  exact ⟨a, vs, by rw [List.getElem?_take_of_lt hm]; exact e1, e2, e3, Dats.nob ds vs e5 e4, e5⟩
/-- what stands at the end of a def -/
theorem endF_ok {np : Nat} {o : Out} {d : D} {S0 : Sto} {Q : VK} (hl : B.length = S0.length) (he : endF S0.length (some (o, S)) = some (d, S'))
    (q : ∀ v H' G' B', Stp H G B H' G' B' → RelH K fa S' H' G' B' → Dat K fa G' B' v d → Q v H') {r : Rho} : ContS K fa H G B G B { nx := fun _ H' => Q .non H', rt := Q } S o := by
  cases o with
  | nx r' =>
    intro σ' H1 ⟨G1, B1, st, RR, RS⟩
    have he' : some (D.non, S.take S0.length) = some (d, S') := he
    cases he'
    refine q .non H1 G1 B st.1.cut ?_ rfl
    have := RS.cut S0.length
    rw [← hl, take_pre st.1] at this
    rw [← hl]
    exact this
  | rt d1 =>
    intro v H1 G1 B1 st RS dt
    simp only [endF] at he
    split at he
    · rename_i hp
      cases he
      refine q v H1 G1 B st.cut ?_ (Dat.nob _ v hp dt)
      have := RS.cut S0.length
      rw [← hl, take_pre st] at this
      rw [← hl]
      exact this
    · cases d1 with
      | ref m =>
        simp only at he
        split at he
        · cases he
          exact q v H1 G1 B1 st RS dt
        · cases he
      | _ => cases he
  | bk r' => cases he
  | ct r' => cases he
theorem start_ok {N : List Str} {np : Nat} {ds : List D} {vs : List V} (hd : Dats K fa G B vs ds) (hn : ds.length = np) : RelR K fa H (ds.map (fun d => some (false, d)) ++ List.replicate (N.length - np) none) (start N vs) H G B := by
  have hl := Dats.length ds vs hd
  refine ⟨?_, fun i own d e => ?_, fun i j d e e1 => ?_⟩
  · unfold L2.start
    rw [List.length_append, List.length_append, List.length_map, List.length_map, List.length_replicate, List.length_replicate, hl, hn]
  · have hi : i < ds.length := by
      by_cases hi : i < ds.length
      · exact hi
      · rw [List.getElem?_append_right (by rw [List.length_map]; omega), List.getElem?_replicate] at e
        split at e <;> cases e
    rw [List.getElem?_append_left (by rw [List.length_map]; exact hi), List.getElem?_map] at e
    obtain ⟨d1, e1, e2⟩ := Option.map_eq_some_iff.mp e
    cases e2
    obtain ⟨v, e3, e4⟩ := Dats.get hd e1
    refine ⟨v, ?_, e4⟩
    unfold L2.start
    rw [List.getElem?_append_left (by rw [List.length_map]; omega), List.getElem?_map, e3]
    rfl
  · have hi : i < ds.length := by
      by_cases hi : i < ds.length
      · exact hi
      · rw [List.getElem?_append_right (by rw [List.length_map]; omega), List.getElem?_replicate] at e1
        split at e1 <;> cases e1
    rw [List.getElem?_append_left (by rw [List.length_map]; exact hi), List.getElem?_map] at e1
    obtain ⟨d1, _, e2⟩ := Option.map_eq_some_iff.mp e1
    cases e2
end

/-! ### a def, run where no guard stands -/
section
variable {prog : Program} {wd : World} {K : PySem.W.Frag} {mg : Str → Option Value} {base : Heap} {f : Addr} {fd : FuncData}
theorem fnG_of {k : Nat} {nm qu : Str} {pms : Arguments} {bdy : List Stmt} {scp : Scope} {dfl : List V} {kwd : List (Str × V)} {N ps : List Str} {sp : SpG} (F : FunD K nm qu pms bdy scp dfl kwd f fd) (FS : FnScope N ps scp)
    (len : ∀ vs H Q, sp vs H Q → vs.length = ps.length)
    (hb : ∀ (cd : Value) (A : Around) (out : List Env) (s : Shared) (H : Hp) (vs : List V) (Q : VK), Room k (A.deeper (envOfC qu scp s.heap.objs.size f cd)) → A.guards = some [] → sp vs H Q →
      ∃ t, PSs (cxOf CX0 prog wd K mg base N qu scp f cd A out s H E0) bdy t ∧ t { nx := fun _ H1 => Q .non H1, rt := Q } (start N vs) H) : FnG prog wd K mg base (k + 1) f fd ps sp := by
  refine ⟨len, fun A out s H args us vs Q hr hg e0 hbi r hsp => ?_⟩
  obtain ⟨oc, od, dV, kV, doc, pm, an, cd, ct, osl, rfl, lk, hcd, _, _⟩ := F.ex
  have hl := len _ _ _ hsp
  have kin : K.In s.heap := e0.mod.kin.keeps fun b o z => (e0.bs b o z).1
  have nol : s.heap.NoLimit := e0.mod.nolimit.keeps fun b o z => (e0.bs b o z).1
  have hk : ∀ y ∈ ps.zip us, scp.names.lookup y.1 = some .local ∨ (scp.names.lookup y.1 = some .cell ∧ ((cellsFrom (s.heap.objs.size + 1) scp.names []).lookup y.1).isSome = true) := by
    intro y hy
    rcases FS.par y.1 (List.of_mem_zip hy).1 with z | z
    · exact .inl z
    · exact .inr ⟨z, PySem.W.cellsFrom_some _ _ _ (.inl z)⟩
  refine codeAny_call_function hr.depth (kin _ _ lk) rfl FS.co FS.gen rfl (PySem.W.codeRec_of kin hcd) (hbi _ _ _ _ ?_)
  refine wpAny_newFunctionEnv_cells FS.kind hk fun env he s1 x => ?_
  subst he
  refine ⟨nol.keeps x.toInCall.keep, codeAny_func ?_⟩
  obtain ⟨t, ht, hq⟩ := hb cd A out s H vs Q (hr.deeper _) hg hsp
  have J := inv_start (CX := CX0) (E := E0) FS hr.hd e0 hl r x
  refine wpAny_mono (ht.run [] s1 (start N vs) H _ J hq) (fun fl s2 hs => ?_) fun e s2 hs => hs
  have fin : ∀ {σ2 : Slots} {H2 : Hp} {v : V} {u : Value}, Inv (cxOf CX0 prog wd K mg base N qu scp f cd A out s H E0) [] σ2 H2 s2 → RelV v u → Q v H2 → CE out prog wd H s Q u s2 := by
    intro σ2 H2 v u I rv q
    exact ⟨v, H2, I.os, I.bare, I.base, I.hok, rv, q⟩
  cases fl with
  | ret u =>
    obtain ⟨v, σ2, H2, I, rv, q⟩ := hs
    exact fin I rv q
  | next =>
    obtain ⟨σ2, H2, I, q⟩ := hs
    exact fin (v := V.non) (u := Value.none) I rfl q
  | brk =>
    obtain ⟨_, _, _, q⟩ := hs
    exact q.elim
  | cont =>
    obtain ⟨_, _, _, q⟩ := hs
    exact q.elim
end

/-! ### all defs of a program -/
theorem callF_find {P : Prg} {k : Nat} (j : Nat) (ds : List D) (S : Sto) (q : D × Sto) (h : callF P k j ds S = some q) : ∃ g, P.fns[j]? = some g := by
  cases k with
  | zero => cases h
  | succ k =>
    obtain ⟨g, hg, _⟩ := Option.bind_eq_some_iff.mp (show (P.fns[j]?).bind (fun g => runF P (callF P k) g ds S) = some q from h)
    exact ⟨g, hg⟩
theorem runF_np {P : Prg} {cf : Nat → List D → Sto → Option (D × Sto)} {g : Fn} {ds : List D} {S : Sto} {q : D × Sto} (h : runF P cf g ds S = some q) : ds.length = g.np := by
  unfold runF at h
  split at h
  · assumption
  · cases h
theorem callF_arity {P : Prg} {k : Nat} : Arity P (callF P k) := fun j g ds S q hg h => by
  cases k with
  | zero => cases h
  | succ k =>
    obtain ⟨g', hg', e⟩ := Option.bind_eq_some_iff.mp (show (P.fns[j]?).bind (fun g => runF P (callF P k) g ds S) = some q from h)
    rw [hg] at hg'; cases hg'
    exact runF_np e

/-- what the machine knows of one def -/
structure DefK (P : Prg) (K : PySem.W.Frag) (mg : Str → Option Value) (fa : Nat → Addr) (j : Nat) (g : Fn) : Prop where
  nm : mg g.name = some (.ref (fa j))
  ex : ∃ (nm' qu : Str) (pms : Arguments) (bdy : List Stmt) (scp : Scope) (fd : FuncData), FunD K nm' qu pms bdy scp [] [] (fa j) fd ∧ FnScope g.N (g.N.take g.np) scp ∧ mB P g.N scp g.body bdy = true ∧
    Binds K fd (g.N.take g.np) [] ∧
    ∀ (q : Nat) (w : Kwf), P.kws[q]? = some w → w.f = j → ∀ (s : Shared) (us ws zs : List Value), us.length = w.n → ws.length = w.ks.length → pick w.perm (us ++ ws) = some zs → BindsTo s fd ⟨us, w.ks.zip ws⟩ ((g.N.take g.np).zip zs)
/-- what the machine knows of the program -/
structure PrgK (P : Prg) (K : PySem.W.Frag) (mg : Str → Option Value) (fa : Nat → Addr) : Prop where
  bi : ∀ x ∈ biNames, mg x = none
  cst : ∀ (j : Nat) (p : Str × D), P.csts[j]? = some p → ∃ u v, mg p.1 = some u ∧ RelV v u ∧ ∀ G B, Dat K fa G B v p.2
  fns : ∀ (j : Nat) (g : Fn), P.fns[j]? = some g → DefK P K mg fa j g
  np : ∀ (j : Nat) (g : Fn), P.fns[j]? = some g → g.np ≤ g.N.length

theorem all_fns {P : Prg} {prog : Program} {wd : World} {K : PySem.W.Frag} {mg : Str → Option Value} {base : Heap} {fa : Nat → Addr} (PK : PrgK P K mg fa) : ∀ (k j : Nat) (g : Fn), P.fns[j]? = some g →
    ∀ (nm' qu : Str) (pms : Arguments) (bdy : List Stmt) (scp : Scope) (fd : FuncData), FunD K nm' qu pms bdy scp [] [] (fa j) fd → FnScope g.N (g.N.take g.np) scp → mB P g.N scp g.body bdy = true →
    FnG prog wd K mg base k (fa j) fd (g.N.take g.np) (spOf K fa g.np (callF P k j))
  | 0, j, g, hg, nm', qu, pms, bdy, scp, fd, F, FS, hm => ⟨fun vs H Q h => (by obtain ⟨_, G, B, S, ds, d, S', _, _, e, _⟩ := h; cases e), fun A out s H args us vs Q hr hgu e0 hb r h => (by obtain ⟨_, G, B, S, ds, d, S', _, _, e, _⟩ := h; cases e)⟩
  | k + 1, j, g, hg, nm', qu, pms, bdy, scp, fd, F, FS, hm => by
    have hnp := PK.np j g hg
    refine fnG_of F FS (fun vs H Q h => by rw [h.1, List.length_take]; omega) fun cd A out s H vs Q hr hgu h => ?_
    obtain ⟨hl, G, B, S, ds, d, S', RS, RD, e, q⟩ := h
    have e' : runF P (callF P k) g ds S = some (d, S') := by
      have e2 : (P.fns[j]?).bind (fun g => runF P (callF P k) g ds S) = some (d, S') := e
      rw [hg] at e2
      exact e2
    have hnd := runF_np e'
    unfold runF at e'
    rw [if_pos hnd] at e'
    cases ex : exB P (callF P k) g.body (ds.map (fun d => some (false, d)) ++ List.replicate (g.N.length - g.np) none) S with
    | none => rw [ex] at e'; cases e'
    | some r =>
      obtain ⟨o, S1⟩ := r
      rw [ex] at e'
      refine ⟨_, goodS (N := g.N) (fa := fa) (cf := callF P k) callF_arity callF_find g.body H G B (cxOf CX0 prog wd K mg base g.N qu scp (fa j) cd A out s H E0) scp bdy ⟨?_, fun _ => rfl, FS.kind, passes_of rfl⟩ hm, ?_⟩
      · exact {
          hN := rfl
          hsc := rfl
          nd := FS.nd
          calm := rfl
          gd := hgu
          un := by
            have := hr.un
            show (A.deeper _).units + 128 < cLine
            omega
          bi := PK.bi
          cst := PK.cst
          fnv := fun j' g' h' => by
            obtain ⟨nm, _, _, _, _, _, fd', F', _⟩ := PK.fns j' g' h'
            exact ⟨nm, F'.kp⟩
          run := by
            refine ⟨k, hr, fun j' g' h' => ?_⟩
            obtain ⟨nm, nm2, qu', pms', bdy', scp', fd', F', FS', hm', b1, b2⟩ := PK.fns j' g' h'
            exact ⟨fd', ⟨b1, b2⟩, all_fns PK k j' g' h' nm2 qu' pms' bdy' scp' fd' F' FS' hm'⟩ }
      · refine ⟨_, S, o, S1, ex, G, B, ⟨G, B, ⟨.refl, fun _ _ h => h, [], by simp⟩, start_ok RD hnd, RS⟩, ?_⟩
        exact endF_ok (np := g.np) (r := []) RS.len e' q
end Pv

set_option Elab.async false
set_option linter.all false
set_option maxRecDepth 100000
set_option maxHeartbeats 8000000
/-! SndU: from a program's facts to the law's row. -/
namespace Pv
open PySem PySem.Spec PyProof.Rows L2

/-! ### the call of the law's def, where no guard stands -/
theorem law_run {prog : Program} {wd : World} {K : PySem.W.Frag} {mg mb : Str → Option Value} {k : Nat} {f a : Addr} {fd : FuncData} {x : Str} {sp : SpG} {s : Shared} {vs : List Value} {ns : List Int}
    (kin : K.In s.heap) (hns : s.heap.Ns mainGlobals mg) (hb : s.heap.Ns builtinsNs mb) (hbb : ∀ y : Str, y ≠ "__name__" → mb y = bootBuiltins y) (lim : s.heap.NoLimit) (gen : s.gens = #[])
    (ha : s.heap.get? a = some { cls := .type "list", data := .seq vs.toArray }) (hi : IntsAre vs ns) (hl : ns.length ≤ sizeLine) (room : Room k callerA)
    (F : ∀ base : Heap, FnG prog wd K mg base k f fd [x] sp) (bnd : Binds K fd [x] [])
    (hsp : ∀ H : Hp, Only H → SqL K H a (ns.map V.int) → sp [.ref a] H (fun v _ => v = .bl true)) :
    codeAny (model prog wd) callerA (.call (.ref f) ⟨[.ref a], []⟩) (fun r s' => r = .ok (.ret (.bool true)) ∧ OldK s.heap s'.heap ∧ s'.os = s.os ∧ AllBare s'.gens) s := by
  have rv := vals_ints hi
  have hn := hi.length
  have main : ∀ H : Hp, Only H → SqL K H a (ns.map V.int) → HOk prog wd H s.heap → (∀ b, H b ≠ none → b = a) → (H a ≠ none → K.lookup a = none) →
      codeAny (model prog wd) callerA (.call (.ref f) ⟨[.ref a], []⟩) (fun r s' => r = .ok (.ret (.bool true)) ∧ OldK s.heap s'.heap ∧ s'.os = s.os ∧ AllBare s'.gens) s := by
    intro H only sq hok onlyA notK
    have keep : ∀ {b : Addr} {o : Obj}, s.heap.get? b = some o → H b = none → (hidT s.heap H).get? b = some o := fun e n => hidT_get e n
    have dictN : ∀ {b : Addr} {o : Obj} {es : Array DictEntry} {ep : Nat}, s.heap.get? b = some o → o.data = .dict es ep → H b = none := by
      intro b o es ep e d
      cases q : H b with
      | none => rfl
      | some u =>
        obtain rfl : b = a := onlyA b (by rw [q]; simp)
        rw [ha] at e
        cases e
        cases (show Data.seq vs.toArray _ = Data.dict es ep from d)
    have nsN : ∀ {b : Addr} {m : Str → Option Value}, s.heap.Ns b m → (hidT s.heap H).Ns b m := fun {b m} ⟨o, es, ep, e, d, r⟩ => ⟨o, es, ep, keep e (dictN e d), d, r⟩
    have kin2 : K.In (hidT s.heap H) := by
      intro b o e
      refine keep (kin b o e) ?_
      cases q : H b with
      | none => rfl
      | some u =>
        obtain rfl : b = a := onlyA b (by rw [q]; simp)
        rw [notK (by rw [q]; simp)] at e
        cases e
    have md : Mod K mg (hidT s.heap H) := ⟨kin2, nsN hns, ⟨mb, nsN hb, hbb⟩, let ⟨mc, h1, h2⟩ := lim; ⟨mc, nsN h1, h2⟩⟩
    have e0 : Env0 prog wd K mg (hidT s.heap H) callerA [] s H := ⟨rfl, md, fun b o e => of_hidT e, Nat.le_of_eq (hidT_size _ _), trivial, fun b hb => absurd (show b ∈ ([] : List Addr) from hb) (by simp), hok, .of_eq gen⟩
    refine codeAny_mono ((F (hidT s.heap H)).run callerA [] s H ⟨[.ref a], []⟩ [.ref a] [.ref a] _ room rfl e0 (bnd s [.ref a] kin rfl) (.cons rfl .nil) (hsp H only sq)) fun r s2 h => ?_
    cases r with
    | error e => exact False.elim h
    | ok fl =>
      cases fl with
      | next => exact False.elim h
      | brk => exact False.elim h
      | cont => exact False.elim h
      | ret u =>
        obtain ⟨v, H2, os, bare, un, hok2, r2, q⟩ := h
        obtain rfl : v = .bl true := q
        obtain rfl : u = Value.bool true := r2
        refine ⟨rfl, OldK.of_keep fun b o e => ?_, os, bare⟩
        cases q2 : H b with
        | none => exact un.keep b o e q2 (by intro z; exact absurd (show b ∈ ([] : List Addr) from z) (by simp)) (by simp)
        | some u =>
          rcases only b with z | ⟨ob, xs, z⟩
          · rw [q2] at z
            cases z
          · have z2 := un.frzs b ob _ z
            obtain ⟨e1, _⟩ := hok b _ z
            obtain ⟨e2, _⟩ := hok2 b _ z2
            rw [e] at e1
            cases e1
            exact e2
  cases hk : K.lookup a with
  | some o =>
    have e := kin a o hk
    rw [ha] at e
    cases e
    refine main (fun _ => none) (fun _ => .inl rfl) (.inr ⟨_, vs.toArray, _, hk, rfl, rfl, rfl, by rw [List.size_toArray, hn]; exact hl, by simpa using rv⟩) (fun b u z => by cases (show (none : Option HO) = some u from z)) (fun b z => absurd rfl z) fun z => absurd rfl z
  | none =>
    let ob : Obj := { cls := .type "list", data := .seq vs.toArray }
    refine main (fun b => if b = a then some (.frz ob (.lst (ns.map V.int))) else none) (fun b => ?_) (.inl (.inr ⟨ob, if_pos rfl⟩)) (fun b u z => ?_) (fun b z => ?_) fun _ => hk
    · by_cases hb : b = a
      · exact .inr ⟨_, _, if_pos hb⟩
      · exact .inl (if_neg hb)
    · by_cases hb : b = a
      · have z2 := (if_pos hb).symm.trans z
        cases z2
        subst hb
        exact ⟨ha, by rw [List.length_map]; exact hl, vs, _, rv, ha⟩
      · cases (if_neg hb).symm.trans z
    · by_cases hb : b = a
      · exact hb
      · exact absurd (if_neg hb) z

/-- the script as data -/
def scr (ns : List Int) : D := .fz (ns.map D.int)
theorem scr_ints {K : PySem.W.Frag} {fa : Nat → Addr} {G : Hp} {B : List Addr} : ∀ ns : List Int, Dats K fa G B (ns.map V.int) (ns.map D.int)
  | [] => rfl
  | n :: ns => ⟨_, _, rfl, rfl, scr_ints ns⟩
/-- the row, from the evaluator's answer at every script -/
theorem walk_law {l : PySem.W.OpenLaw} {n k j : Nat} {q : Program} {loose : List Str} {XP : (Str → Option Value) → Heap → Prop} {YP : World → Heap → Prop} {d : DefRec} {x : Str} {P : Prg} {g : Fn} (hg : P.fns[j]? = some g) (hN : g.N.take g.np = [x]) (hnp : g.np = 1)
    (hn : l.most = some n) (hn2 : n ≤ sizeLine) (hdf : d.params.defaults = []) (hr : Room k callerA)
    (F : ∀ (w : World) (mg : Str → Option Value) (f : Addr) (h : Heap), YP w h → h.Ns mainGlobals mg → mg d.name = some (.ref f) →
      ∃ (K : PySem.W.Frag) (fa : Nat → Addr), K.In h ∧ PrgK P K mg fa ∧ fa j = f)
    (hev : ∀ ns : List Int, ns.length ≤ n → (∀ z ∈ ns, Builtin.Int.intBits z ≤ 1048576) → ∃ S', callF P k j [scr ns] [] = some (.bl true, S')) :
    PySem.W.WalkO q loose XP YP l.row.toRowW d [] (fun f vs => PySem.call f vs) := by
  refine Att.attach_callB hn hdf fun w s₀ s₁ mg mb f o pm cd doc a vs ns Gr Y ho hd hcd hmg hobj hints hlen hbits hgen => ?_
  obtain ⟨K, fa, KX, PK, rfl⟩ := F w mg f _ Y Gr.T.g hmg
  obtain ⟨nm, nm2, qu, pms, bdy, scp, fd, FD, FS, hm, hb, _⟩ := PK.fns j g hg
  rw [hN] at hb
  obtain ⟨S', ev⟩ := hev ns hlen hbits
  refine law_run KX Gr.T.g Gr.T.b Gr.T.builtins Gr.T.nolimit hgen hobj hints (Nat.le_trans hlen hn2) hr (sp := spOf K fa g.np (callF P k j)) (fun base => hN ▸ all_fns PK k j g hg nm2 qu pms bdy scp fd FD FS hm) hb fun H only sq => ?_
  refine ⟨by rw [hnp]; rfl, H, [], [], [scr ns], .bl true, S', ⟨fun _ _ e => e, rfl, by simp, fun m ds e => by simp at e⟩, ⟨_, [], rfl, ⟨a, _, rfl, sq, scr_ints ns⟩, rfl⟩, ev, fun v H' G' B' _ _ dt => dt⟩

/-! ### the hook: facts, defs, tables -/
theorem SaysV.d {fa : List He.Fa} {fn : List He.DefD} {ts : List Tc} {K : PySem.W.Frag} (c : SaysV fa fn ts K) : He.SaysD fa fn K := by
  have e1 : ((He.obsD fa fn K).1 && ts.all fun t => He.tupB K t.1 t.2) = true := congrArg Prod.fst c
  have e2 : (He.obsD fa fn K).2 = fn.map He.DefD.val := congrArg Prod.snd c
  exact Prod.ext (Bool.and_eq_true_iff.mp e1).1 e2
theorem SaysV.tup {fa : List He.Fa} {fn : List He.DefD} {ts : List Tc} {K : PySem.W.Frag} (c : SaysV fa fn ts K) {t : Tc} (h : t ∈ ts) : He.tupB K t.1 t.2 = true := by
  have e1 : ((He.obsD fa fn K).1 && ts.all fun t => He.tupB K t.1 t.2) = true := congrArg Prod.fst c
  exact List.all_eq_true.mp (Bool.and_eq_true_iff.mp e1).2 t h

/-! ### from the hook to PrgK -/
/-- a constant: a whole number, a text, a tuple of such -/
def dvD : He.Dv → Option D
  | .non => some .non
  | .bl b => some (.bl b)
  | .int i => some (.int i)
  | .str s => some (.str s)
  | _ => none
def dvDs : List He.Dv → Option (List D)
  | [] => some []
  | v :: vs => (dvD v).bind fun d => (dvDs vs).map fun ds => d :: ds
theorem dvD_dat {K : PySem.W.Frag} {fa : Nat → Addr} {G : Hp} {B : List Addr} {v : He.Dv} {d : D} (h : dvD v = some d) : Dat K fa G B (v.v K) d := by
  cases v <;> cases h <;> rfl
theorem dvDs_dat {K : PySem.W.Frag} {fa : Nat → Addr} {G : Hp} {B : List Addr} : ∀ {vs : List He.Dv} {ds : List D}, dvDs vs = some ds → Dats K fa G B (vs.map (He.Dv.v K)) ds
  | [], _, h => by cases h; rfl
  | v :: vs, ds, h => by
    obtain ⟨d, h1, h2⟩ := Option.bind_eq_some_iff.mp (show ((dvD v).bind fun d => (dvDs vs).map fun ds => d :: ds) = some ds from h)
    obtain ⟨ds', h3, rfl⟩ := Option.map_eq_some_iff.mp h2
    exact ⟨_, _, rfl, dvD_dat h1, dvDs_dat h3⟩
def cstOk (fa : List He.Fa) (ts : List Tc) (p : Str × D) : Prop :=
  (∃ i, p.2 = .int i ∧ He.Fa.int p.1 i ∈ fa) ∨ (∃ z, p.2 = .str z ∧ He.Fa.str p.1 z ∈ fa) ∨ ∃ vs ds, p.2 = .tup ds ∧ dvDs vs = some ds ∧ He.Fa.glo p.1 ∈ fa ∧ (p.1, vs) ∈ ts
def scOk (N : List Str) (np : Nat) (sc : Scope) : Bool := decide (sc.kind = .function) && (!sc.isCoroutine && (!sc.isGenerator && (decide N.Nodup && ((N.take np).all (fun x => decide (sc.names.lookup x = some .local) || decide (sc.names.lookup x = some .cell)) && sc.names.all fun y => decide (y.2 ≠ .free)))))
theorem scOk_ok {N : List Str} {np : Nat} {sc : Scope} (h : scOk N np sc = true) (hn : np ≤ N.length) : FnScope N (N.take np) sc := by
  unfold scOk at h
  simp only [Bool.and_eq_true, Bool.not_eq_true', decide_eq_true_eq, List.all_eq_true, Bool.or_eq_true] at h
  obtain ⟨h1, h2, h3, h4, h5, h6⟩ := h
  exact ⟨h1, h2, h3, h4, by rw [List.length_take, Nat.min_eq_left hn], h5, h6⟩
/-- a def of the text and its form as data agree -/
structure DefC (P : Prg) (j : Nat) (g : Fn) (st : Stmt) : Prop where
  np : g.np ≤ g.N.length
  sc : scOk g.N g.np (defScope st) = true
  chk : mB P g.N (defScope st) g.body (defBody st) = true
  bnd : ∀ (kV doc pm : Value) (an : Option Addr) (cd ct : Value) (us : List Value), us.length = (g.N.take g.np).length → bindArgs (PySem.W.fnOf g.own g.own (defArgs st) (defBody st) (defScope st) .none kV doc pm an cd ct) ⟨us, []⟩ = pure ((g.N.take g.np).zip us)
  kwb : ∀ w ∈ P.kws, w.f = j → ∀ (kV doc pm : Value) (an : Option Addr) (cd ct : Value) (us ws zs : List Value), us.length = w.n → ws.length = w.ks.length → pick w.perm (us ++ ws) = some zs →
    bindArgs (PySem.W.fnOf g.own g.own (defArgs st) (defBody st) (defScope st) .none kV doc pm an cd ct) ⟨us, w.ks.zip ws⟩ = pure ((g.N.take g.np).zip zs)
def faOf (P : Prg) (K : PySem.W.Frag) (j : Nat) : Addr := match P.fns[j]? with
  | some g => He.ga K g.name
  | none => 0
theorem prgK_of {P : Prg} {tx : Nat → Stmt} {fa : List He.Fa} {fn : List He.DefD} {ts : List Tc} {K : PySem.W.Frag} {h : Heap} {mg : Str → Option Value} (X : K.In h) (Gn : h.Ns mainGlobals mg) (c : SaysV fa fn ts K)
    (hbi : ∀ x ∈ biNames, He.Fa.free x ∈ fa) (hc : ∀ p ∈ P.csts, cstOk fa ts p) (hf : ∀ (j : Nat) (g : Fn), P.fns[j]? = some g → He.Fa.glo g.name ∈ fa ∧ fn[j]? = some (ddOf g (tx j)) ∧ DefC P j g (tx j)) : PrgK P K mg (faOf P K) := by
  have fact : ∀ f ∈ fa, f.ok K = true := fun f hm => by
    have c1 := (He.ba (show ((fa.all fun f => f.ok K) && fn.all fun d => d.ok K) = true from congrArg (fun z : He.AlD => z.1) c.d)).1
    exact List.all_eq_true.mp c1 f hm
  refine ⟨fun x hx => He.free_ok X Gn (fact _ (hbi x hx)), fun j p hj => ?_, fun j g hj => ?_, fun j g hj => (hf j g hj).2.2.np⟩
  · rcases hc p (List.mem_of_getElem? hj) with ⟨i, e, hm⟩ | ⟨z, e, hm⟩ | ⟨vs, ds, e, e2, hm, ht⟩
    · obtain ⟨t, ht⟩ := He.int_ok X Gn (fact _ hm)
      exact ⟨_, .int i, ht, ⟨t, rfl⟩, fun G B => by rw [e]; rfl⟩
    · obtain ⟨t, ht⟩ := He.str_ok X Gn (fact _ hm)
      exact ⟨_, .str z, ht, ⟨t, rfl⟩, fun G B => by rw [e]; rfl⟩
    · exact ⟨_, .ref (He.ga K p.1), He.glo_ok X Gn (fact _ hm), rfl, fun G B => by
        rw [e]
        exact ⟨_, _, rfl, He.tupB_ok (c.tup ht) G, dvDs_dat e2⟩⟩
  · obtain ⟨h1, h2, h3⟩ := hf j g hj
    have e : faOf P K j = He.ga K g.name := by
      unfold faOf
      rw [hj]
    obtain ⟨fd, F⟩ := c.d.def_ j h2
    have F' : FunD K g.own g.own (defArgs (tx j)) (defBody (tx j)) (defScope (tx j)) [] [] (He.ga K g.name) fd := F
    refine ⟨by rw [e]; exact He.glo_ok X Gn (fact _ h1), g.own, g.own, _, _, _, fd, by rw [e]; exact F', scOk_ok h3.sc h3.np, h3.chk, F'.bindsN h3.bnd, fun q w hw hq s us ws zs l1 l2 hp => ?_⟩
    obtain ⟨oc, od, dV, kV, doc, pm, an, cd, ct, osl, rfl, lk, hcd, hD, hK⟩ := F'.ex
    rcases hD with ⟨_, rfl⟩ | ⟨hne, _⟩
    · exact .of_eq (h3.kwb w (List.mem_of_getElem? hw) hq kV doc pm an cd ct us ws zs l1 l2 hp)
    · exact absurd rfl hne
end Pv

set_option Elab.async false
set_option linter.all false
set_option maxRecDepth 100000
/-! Re: texts of numbers and of tuples of numbers. -/
namespace Pv
open PySem
theorem int_len {i : Int} (h : Bd 1000 i) : (PyData.shown (.int i)).length ≤ 1002 := by
  simp only [PyData.shown]
  have := PySem.int_text_length_le (a := i) (k := 1001) (by decide) (by have := h.log; omega)
  show (Str.ofString (toString i)).length ≤ _
  rw [ofString_length]
  omega
theorem int_show {i : Int} (h : Bd 1000 i) : PyData.showable (.int i) = true := by
  have := h.log
  simp only [PyData.showable, decide_eq_true_eq]
  omega
theorem rp_of {x : D} {p : PyData} (h : x.py = some p) (h1 : p.showable = true) (h2 : p.shown.length ≤ 100000) (h3 : p.depth ≤ 40) : biD .repr [x] = some (.str p.shown) := by
  show (x.py).bind _ = _
  rw [h]
  show (if _ then _ else _) = _
  rw [if_pos (by simp [h1, h2, h3])]
theorem rp_int {i : Int} (h : Bd 1000 i) : ∃ s, biD .repr [.int i] = some (.str s) :=
  ⟨_, rp_of rfl (int_show h) (by have := int_len h; omega) (by show (0 : Nat) ≤ 40; decide)⟩
theorem rp_2 {a b : Int} (ha : Bd 1000 a) (hb : Bd 1000 b) : ∃ s, biD .repr [.tup [.int a, .int b]] = some (.str s) := by
  refine ⟨_, rp_of (p := .tuple [.int a, .int b]) rfl ?_ ?_ ?_⟩
  · simp [PyData.showable, PyData.showableAll, int_show ha, int_show hb]
    have := ha.log
    have := hb.log
    omega
  · simp only [PyData.shown]
    have := tupleText_len_le (PyData.shownAll [.int a, .int b])
    have e1 := int_len ha
    have e2 := int_len hb
    simp only [PyData.shownAll, List.map_cons, List.map_nil, List.sum_cons, List.sum_nil, List.length_cons, List.length_nil] at this ⊢
    omega
  · simp [PyData.depth, PyData.depthAll]
theorem rp_4 {a b c s : Int} (ha : Bd 1000 a) (hb : Bd 1000 b) (hc : Bd 1000 c) (hs : Bd 1000 s) : ∃ t, biD .repr [.tup [.int a, .int b, .int c, .int s]] = some (.str t) := by
  refine ⟨_, rp_of (p := .tuple [.int a, .int b, .int c, .int s]) rfl ?_ ?_ ?_⟩
  · simp [PyData.showable, PyData.showableAll, int_show ha, int_show hb]
    have := ha.log
    have := hb.log
    have := hc.log
    have := hs.log
    omega
  · simp only [PyData.shown]
    have := tupleText_len_le (PyData.shownAll [.int a, .int b, .int c, .int s])
    have e1 := int_len ha
    have e2 := int_len hb
    have e3 := int_len hc
    have e4 := int_len hs
    simp only [PyData.shownAll, List.map_cons, List.map_nil, List.sum_cons, List.sum_nil, List.length_cons, List.length_nil] at this ⊢
    omega
  · simp [PyData.depth, PyData.depthAll]
end Pv

set_option Elab.async false
set_option linter.all false
set_option maxRecDepth 100000
/-! Rm: texts of moments and of tuples of moments. -/
namespace Pv
open PySem
theorem mo_py {m : Nat} {x : Mo} (hx : x.ok m) (hm : m ≤ 900) : ∃ p : PyData, x.d.py = some p ∧ p.showable = true ∧ p.shown.length ≤ 4100 ∧ p.depth ≤ 4 := by
  cases x with
  | f u v =>
    have ha := hx.ba.mono (by omega : m ≤ 1000)
    have hb := hx.bb.mono (by omega : m ≤ 1000)
    refine ⟨.tuple [.int u, .int v], rfl, ?_, ?_, ?_⟩
    · simp [PyData.showable, PyData.showableAll, int_show ha, int_show hb]
      have := ha.log
      have := hb.log
      omega
    · simp only [PyData.shown]
      have := tupleText_len_le (PyData.shownAll [.int u, .int v])
      have e1 := int_len ha
      have e2 := int_len hb
      simp only [PyData.shownAll, List.map_cons, List.map_nil, List.sum_cons, List.sum_nil, List.length_cons, List.length_nil] at this ⊢
      omega
    · simp [PyData.depth, PyData.depthAll]
  | r a b c s =>
    have ha := hx.ba.mono (by omega : m ≤ 1000)
    have hb := hx.bb.mono (by omega : m ≤ 1000)
    have hc := hx.bc.mono (by omega : m ≤ 1000)
    have hs := hx.bs.mono (by omega : 1 ≤ 1000)
    refine ⟨.tuple [.int a, .int b, .int c, .int s], rfl, ?_, ?_, ?_⟩
    · simp [PyData.showable, PyData.showableAll, int_show ha, int_show hb]
      have := ha.log
      have := hb.log
      have := hc.log
      have := hs.log
      omega
    · simp only [PyData.shown]
      have := tupleText_len_le (PyData.shownAll [.int a, .int b, .int c, .int s])
      have e1 := int_len ha
      have e2 := int_len hb
      have e3 := int_len hc
      have e4 := int_len hs
      simp only [PyData.shownAll, List.map_cons, List.map_nil, List.sum_cons, List.sum_nil, List.length_cons, List.length_nil] at this ⊢
      omega
    · simp [PyData.depth, PyData.depthAll]
theorem mos_py {m : Nat} (hm : m ≤ 900) : ∀ G : List Mo, (∀ x ∈ G, x.ok m) → ∃ ps, pys (G.map Mo.d) = some ps ∧ PyData.showableAll ps = true ∧ ((PyData.shownAll ps).map (·.length)).sum ≤ 4100 * G.length ∧ (PyData.shownAll ps).length = G.length ∧ PyData.depthAll ps ≤ 4
  | [], _ => ⟨[], rfl, rfl, by simp [PyData.shownAll], rfl, by simp [PyData.depthAll]⟩
  | x :: G, h => by
    obtain ⟨ps, e, h1, h2, h3, h4⟩ := mos_py hm G fun y hy => h y (List.mem_cons_of_mem _ hy)
    obtain ⟨p, e', g1, g2, g3⟩ := mo_py (h x List.mem_cons_self) hm
    refine ⟨p :: ps, ?_, ?_, ?_, ?_, ?_⟩
    · show (x.d.py).bind _ = _
      rw [e']
      show (pys (G.map Mo.d)).map _ = _
      rw [e]
      rfl
    · simp [PyData.showableAll, g1, h1]
    · simp only [PyData.shownAll, List.map_cons, List.sum_cons, List.length_cons]
      omega
    · simp only [PyData.shownAll, List.length_cons, h3]
    · simp only [PyData.depthAll]
      omega
theorem rp_mo {m : Nat} {x : Mo} (hx : x.ok m) (hm : m ≤ 900) : ∃ s, biD .repr [x.d] = some (.str s) := by
  obtain ⟨p, e, h1, h2, h3⟩ := mo_py hx hm
  exact ⟨_, rp_of e h1 (by omega) (by omega)⟩
theorem rp_mos {m : Nat} {G : List Mo} (hG : ∀ x ∈ G, x.ok m) (hm : m ≤ 900) (hl : G.length ≤ 20) : ∃ s, biD .repr [.tup (G.map Mo.d)] = some (.str s) := by
  obtain ⟨ps, e, h1, h2, h3, h4⟩ := mos_py hm G hG
  refine ⟨_, rp_of (p := .tuple ps) ?_ ?_ ?_ ?_⟩
  · show (pys (G.map Mo.d)).map PyData.tuple = _
    rw [e]
    rfl
  · simp only [PyData.showable, h1]
  · simp only [PyData.shown]
    have := tupleText_len_le (PyData.shownAll ps)
    omega
  · simp only [PyData.depth]
    omega
theorem cmpM_bd {x y : Mo} : Bd 10 (cmpM x y) := by
  have sb : ∀ z : Int, z.sign.natAbs ≤ 1 := fun z => by rcases sign_cases z with ⟨_, h⟩ | ⟨_, h⟩ | ⟨_, h⟩ <;> rw [h] <;> decide
  have sg : ∀ z : Int, Bd 1 z.sign := fun z => by
    unfold Bd
    have := sb z
    omega
  unfold cmpM sgG rts sq1
  repeat' split
  all_goals first | exact (sg _).mono (by decide) | exact ((sg _).mul (sg _)).mono (by decide)
end Pv

set_option Elab.async false
set_option linter.all false
set_option maxRecDepth 100000
/-! Mn: cuts; own numbers that stand for moments. -/
namespace Pv
open PySem
abbrev OM := {x : Mo // x.ok 400}
abbrev Cu := OM × Bool
def ltC (c d : Cu) : Prop := cmpM c.1.1 d.1.1 < 0 ∨ (c.1 = d.1 ∧ c.2 = false ∧ d.2 = true)
instance : DecidableRel ltC := fun c d => by unfold ltC; infer_instance
theorem om_zero {x y : OM} : cmpM x.1 y.1 = 0 ↔ x = y := ⟨fun h => Subtype.ext (cmp_zero x.2 y.2 h), fun h => by rw [h]; exact cmpM_self⟩
theorem linC : LinO ltC where
  ir := fun a h => by
    rcases h with h | ⟨_, h1, h2⟩
    · rw [cmpM_self] at h
      omega
    · rw [h1] at h2
      cases h2
  tr := fun {a b c} h g => by
    rcases h with h | ⟨h0, h1, h2⟩ <;> rcases g with g | ⟨g0, g1, g2⟩
    · exact .inl (cmp_trans a.1.2 b.1.2 c.1.2 h g)
    · exact .inl (g0 ▸ h)
    · exact .inl (by rw [h0]; exact g)
    · rw [h2] at g1
      cases g1
  tot := fun a b => by
    rcases Int.lt_trichotomy (cmpM a.1.1 b.1.1) 0 with h | h | h
    · exact .inl (.inl h)
    · have e := om_zero.mp h
      rcases a with ⟨x, i⟩
      rcases b with ⟨y, j⟩
      have e' : x = y := e
      subst e'
      cases i <;> cases j
      · exact .inr (.inl rfl)
      · exact .inl (.inr ⟨rfl, rfl, rfl⟩)
      · exact .inr (.inr (.inr ⟨rfl, rfl, rfl⟩))
      · exact .inr (.inl rfl)
    · exact .inr (.inr (.inl (by rw [cmpM_neg]; omega)))
/-- by the sign of the comparing -/
theorem ltC_by {x y : OM} {a b : Bool} : ltC (x, a) (y, b) ↔ cmpM x.1 y.1 < 0 ∨ (cmpM x.1 y.1 = 0 ∧ a = false ∧ b = true) := by
  unfold ltC
  rw [om_zero]
theorem ltC_by' {x y : OM} {a b : Bool} : ltC (y, b) (x, a) ↔ 0 < cmpM x.1 y.1 ∨ (cmpM x.1 y.1 = 0 ∧ b = false ∧ a = true) := by
  rw [ltC_by, cmpM_neg (x := x.1) (y := y.1)]
  constructor <;> rintro (h | ⟨h, g⟩)
  · exact .inl (by omega)
  · exact .inr ⟨by omega, g⟩
  · exact .inl (by omega)
  · exact .inr ⟨by omega, g⟩
/-! own numbers -/
structure Nu where
  p : Int
  q : Int
  d : Int
  r : Int
def Nu.n (n : Nu) : D := .tup [.int n.p, .int n.q, .int n.d, .int n.r]
structure Nu.Ok (m : Nat) (n : Nu) : Prop where
  r0 : 0 < n.r
  bp : Bd m n.p
  br : Bd m n.r
  bd : Bd m n.d
  bq : Bd m n.q
  bqd : Bd (2 * m) (n.q * n.q * n.d)
  qd : (n.q = 0 ∧ n.d = 0) ∨ (n.q ≠ 0 ∧ 0 < n.d ∧ Nsq n.d)
theorem Nu.Ok.mono {m k : Nat} {n : Nu} (h : n.Ok m) (q : m ≤ k) : n.Ok k := ⟨h.r0, h.bp.mono q, h.br.mono q, h.bd.mono q, h.bq.mono q, h.bqd.mono (by omega), h.qd⟩
def Nu.mo (n : Nu) : Mo := if n.q = 0 then Mo.fr n.p n.r else .r (n.r * n.r / Int.gcd (Int.gcd (n.r * n.r) (-2 * n.p * n.r)) (n.p * n.p - n.q * n.q * n.d)) (-2 * n.p * n.r / Int.gcd (Int.gcd (n.r * n.r) (-2 * n.p * n.r)) (n.p * n.p - n.q * n.q * n.d)) ((n.p * n.p - n.q * n.q * n.d) / Int.gcd (Int.gcd (n.r * n.r) (-2 * n.p * n.r)) (n.p * n.p - n.q * n.q * n.d)) n.q.sign
/-- beneath the root: 1 for a fraction -/
def Nu.e (n : Nu) : Int := if n.q = 0 then 1 else n.d
theorem Nu.e_pos {m : Nat} {n : Nu} (h : n.Ok m) : 0 < n.e := by
  unfold Nu.e
  rcases h.qd with ⟨h, _⟩ | ⟨h1, h2, _⟩
  · rw [if_pos h]
    decide
  · rw [if_neg h1]
    exact h2
theorem nu_rel {m : Nat} {n : Nu} (h : n.Ok m) : n.mo.ok (2 * m + 3) ∧ n.mo.p * n.r = n.p * n.mo.w ∧ n.mo.q * n.mo.q.natAbs * n.mo.e 1 * (n.r * n.r) = n.q * n.q.natAbs * n.e * (n.mo.w * n.mo.w) := by
  unfold Nu.mo Nu.e
  rcases h.qd with ⟨h0, _⟩ | ⟨h1, h2, h3⟩
  · rw [if_pos h0, if_pos h0, h0]
    obtain ⟨a, b⟩ := Mo.fr_ok (m := 2 * m + 3) h.r0 (h.bp.mono (by omega)) (h.br.mono (by omega))
    refine ⟨a, b, ?_⟩
    show 0 * ((0 : Int).natAbs : Int) * 1 * (n.r * n.r) = 0 * ((0 : Int).natAbs : Int) * 1 * _
    simp
  · have q0 : n.q ≠ 0 := h1
    rw [if_neg q0, if_neg q0]
    have z : 2 * n.r * n.q ≠ 0 := Int.mul_ne_zero (by have := h.r0; omega) q0
    obtain ⟨g, x, y, w, g0, e1, e2, e3, e4, R⟩ := prim_ex (m := 2 * m + 3) (a := n.r * n.r) (b := -2 * n.p * n.r) (c := n.p * n.p - n.q * n.q * n.d) (s := n.q.sign) (Int.mul_pos h.r0 h.r0) (sign_pm q0) (by rw [disc_num]; exact pos_of z h2) (by rw [disc_num]; exact nsq_mul z h3)
      ((h.br.mul h.br).mono (by omega)) (((bd2.neg.mul h.bp).mul h.br).mono (by omega)) ((h.bp.mul h.bp).sub h.bqd (by omega) (by omega))
    unfold prim at e4
    injection e4 with e4
    injection e4 with f1 e4
    injection e4 with f2 e4
    injection e4 with f3 e4
    injection f1 with f1
    injection f2 with f2
    injection f3 with f3
    rw [f1, f2, f3]
    refine ⟨R, ?_, ?_⟩
    · show -y * n.r = n.p * (2 * x)
      have : g * (-y * n.r) = g * (n.p * (2 * x)) := by
        have a1 : g * (-y * n.r) = -(g * y) * n.r := by grind
        have a2 : g * (n.p * (2 * x)) = 2 * n.p * (g * x) := by grind
        rw [a1, a2, ← e1, ← e2]
        grind
      exact Int.eq_of_mul_eq_mul_left (by omega) this
    · show n.q.sign * (n.q.sign.natAbs : Int) * (y * y - 4 * x * w) * (n.r * n.r) = n.q * (n.q.natAbs : Int) * n.d * (2 * x * (2 * x))
      have qs : n.q.sign * (n.q.sign.natAbs : Int) * (n.q * n.q) = n.q * (n.q.natAbs : Int) := by
        rcases sign_cases n.q with ⟨z1, z2⟩ | ⟨z1, _⟩ | ⟨z1, z2⟩
        · rw [z2]
          have : (n.q.natAbs : Int) = -n.q := by omega
          rw [this]
          show -1 * ((1 : Nat) : Int) * (n.q * n.q) = _
          grind
        · exact absurd z1 q0
        · rw [z2]
          have : (n.q.natAbs : Int) = n.q := by omega
          rw [this]
          show 1 * ((1 : Nat) : Int) * (n.q * n.q) = _
          grind
      have ge : g * g * (y * y - 4 * x * w) = 4 * (n.r * n.r) * (n.q * n.q) * n.d := by
        have a1 : g * g * (y * y - 4 * x * w) = g * y * (g * y) - 4 * (g * x) * (g * w) := by grind
        rw [a1, ← e1, ← e2, ← e3]
        grind
      have : g * g * (n.q.sign * (n.q.sign.natAbs : Int) * (y * y - 4 * x * w) * (n.r * n.r)) = g * g * (n.q * (n.q.natAbs : Int) * n.d * (2 * x * (2 * x))) := by
        have a1 : g * g * (n.q.sign * (n.q.sign.natAbs : Int) * (y * y - 4 * x * w) * (n.r * n.r)) = n.q.sign * (n.q.sign.natAbs : Int) * (g * g * (y * y - 4 * x * w)) * (n.r * n.r) := by grind
        have a2 : g * g * (n.q * (n.q.natAbs : Int) * n.d * (2 * x * (2 * x))) = n.q * (n.q.natAbs : Int) * n.d * 4 * (g * x * (g * x)) := by grind
        rw [a1, a2, ge, ← e1, ← qs]
        grind
      exact Int.eq_of_mul_eq_mul_left (Int.mul_ne_zero (by omega) (by omega)) this
theorem absm {X q : Int} (h : 0 ≤ X) : X * q * ((X * q).natAbs : Int) = X * X * (q * (q.natAbs : Int)) := by
  rw [Int.natAbs_mul, Int.natCast_mul, Int.natAbs_of_nonneg h]
  grind
theorem sgL_gen {c q d u t e r : Int} (hu : 0 < u) (hr : 0 < r) (h1 : (q = 0 ∧ d = 0) ∨ (q ≠ 0 ∧ 0 < d)) (h2 : (t = 0 ∧ e = 0) ∨ (t ≠ 0 ∧ 0 < e)) :
    sgL c (q * u) d (-t * r) e = sgG c (q * u) (if q = 0 then 1 else d) (-t * r) (if t = 0 then 1 else e) := by
  rcases h1 with ⟨rfl, rfl⟩ | ⟨q0, d0⟩ <;> rcases h2 with ⟨rfl, rfl⟩ | ⟨t0, e0⟩
  · rw [if_pos rfl, Int.zero_mul, Int.neg_zero, Int.zero_mul, sgL_ff (x := 0) (y := 0), sg_ff]
  · rw [if_pos rfl, if_neg t0, Int.zero_mul, sg_fr e0]
    exact sgL_fr e0 (Int.mul_ne_zero (by omega) (by omega))
  · rw [if_pos rfl, if_neg q0, Int.neg_zero, Int.zero_mul, sg_rf d0]
    exact sgL_rf d0
  · rw [if_neg q0, if_neg t0]
    exact sgL_rr d0 e0 (Int.mul_ne_zero q0 (by omega)) (Int.mul_ne_zero (by omega) (by omega))
theorem nu_cmp {m k : Nat} {x y : Nu} (hx : x.Ok m) (hy : y.Ok k) : sgL (x.p * y.r - y.p * x.r) (x.q * y.r) x.d (-y.q * x.r) y.d = cmpM x.mo y.mo := by
  obtain ⟨a1, a2, a3⟩ := nu_rel hx
  obtain ⟨b1, b2, b3⟩ := nu_rel hy
  have wx := Mo.w_pos a1
  have wy := Mo.w_pos b1
  have rx := hx.r0
  have ry := hy.r0
  have kk : 0 < x.r * y.r := Int.mul_pos rx ry
  have ww : 0 < x.mo.w * y.mo.w := Int.mul_pos wx wy
  have qd : ∀ {m : Nat} {n : Nu}, n.Ok m → (n.q = 0 ∧ n.d = 0) ∨ (n.q ≠ 0 ∧ 0 < n.d) := fun {m n} h => by
    rcases h.qd with h | ⟨h1, h2, _⟩
    · exact .inl h
    · exact .inr ⟨h1, h2⟩
  rw [sgL_gen ry rx (qd hx) (qd hy)]
  unfold cmpM
  rw [← sgG_scale (k := x.mo.w * y.mo.w) ww, ← sgG_scale (k := x.r * y.r) (c := x.mo.p * y.mo.w - y.mo.p * x.mo.w) kk]
  have c1 : x.mo.w * y.mo.w * (x.p * y.r - y.p * x.r) = x.r * y.r * (x.mo.p * y.mo.w - y.mo.p * x.mo.w) := by
    have z1 : x.mo.w * y.mo.w * (x.p * y.r - y.p * x.r) = (x.p * x.mo.w) * y.mo.w * y.r - (y.p * y.mo.w) * x.mo.w * x.r := by grind
    have z2 : x.r * y.r * (x.mo.p * y.mo.w - y.mo.p * x.mo.w) = (x.mo.p * x.r) * y.r * y.mo.w - (y.mo.p * y.r) * x.r * x.mo.w := by grind
    rw [z1, z2, a2, b2]
    grind
  rw [c1]
  have g : ∀ {P W Q E q e W2 R2 r : Int}, 0 < W → 0 < W2 → 0 < r → 0 < R2 → Q * Q.natAbs * E * (r * r) = q * q.natAbs * e * (W * W) → (W * W2 * (q * R2)) * ((W * W2 * (q * R2)).natAbs : Int) * e = (r * R2 * (Q * W2)) * ((r * R2 * (Q * W2)).natAbs : Int) * E := fun {P W Q E q e W2 R2 r} w0 w2 r0 r2 h => by
    have y1 : W * W2 * (q * R2) = W * W2 * R2 * q := by grind
    have y2 : r * R2 * (Q * W2) = r * R2 * W2 * Q := by grind
    rw [y1, y2, absm (Int.le_of_lt (Int.mul_pos (Int.mul_pos w0 w2) r2)), absm (Int.le_of_lt (Int.mul_pos (Int.mul_pos r0 r2) w2))]
    have y3 : W * W2 * R2 * (W * W2 * R2) * (q * (q.natAbs : Int)) * e = W2 * W2 * (R2 * R2) * (q * q.natAbs * e * (W * W)) := by grind
    have y4 : r * R2 * W2 * (r * R2 * W2) * (Q * (Q.natAbs : Int)) * E = W2 * W2 * (R2 * R2) * (Q * Q.natAbs * E * (r * r)) := by grind
    rw [y3, y4, h]
  refine sgG_val (Nu.e_pos hx) (Nu.e_pos hy) (Mo.e_pos a1) (Mo.e_pos b1) ?_ ?_
  · exact g (P := 0) wx wy rx ry a3
  · have b3' : (-y.mo.q) * ((-y.mo.q).natAbs : Int) * y.mo.e 1 * (y.r * y.r) = (-y.q) * ((-y.q).natAbs : Int) * y.e * (y.mo.w * y.mo.w) := by
      rw [Int.natAbs_neg, Int.natAbs_neg]
      have z1 : -y.mo.q * (y.mo.q.natAbs : Int) * y.mo.e 1 * (y.r * y.r) = -(y.mo.q * y.mo.q.natAbs * y.mo.e 1 * (y.r * y.r)) := by grind
      have z2 : -y.q * (y.q.natAbs : Int) * y.e * (y.mo.w * y.mo.w) = -(y.q * y.q.natAbs * y.e * (y.mo.w * y.mo.w)) := by grind
      rw [z1, z2, b3]
    have := g (P := 0) wy wx ry rx b3'
    rw [Int.mul_comm x.mo.w y.mo.w, Int.mul_comm x.r y.r]
    exact this
/-! later by t / b -/
def Nu.later (n : Nu) (t b : Int) : Nu := ⟨n.p * b + t * n.r, n.q * b, n.d, n.r * b⟩
theorem later_ok {m i k : Nat} {n : Nu} {t b : Int} (h : n.Ok m) (hb : 0 < b) (bt : Bd i t) (bb : Bd i b) (hk : m + i + 1 ≤ k) : (n.later t b).Ok k := by
  refine ⟨Int.mul_pos h.r0 hb, ((h.bp.mul bb).add (bt.mul h.br) (m := m + i + 1) (by omega) (by omega)).mono hk, (h.br.mul bb).mono (by omega), h.bd.mono (by omega), (h.bq.mul bb).mono (by omega), ?_, ?_⟩
  · show Bd (2 * k) (n.q * b * (n.q * b) * n.d)
    have e : n.q * b * (n.q * b) * n.d = n.q * n.q * n.d * (b * b) := by grind
    rw [e]
    exact (h.bqd.mul (bb.mul bb)).mono (by omega)
  · rcases h.qd with ⟨h1, h2⟩ | ⟨h1, h2, h3⟩
    · exact .inl ⟨by show n.q * b = 0; rw [h1, Int.zero_mul], h2⟩
    · exact .inr ⟨Int.mul_ne_zero h1 (by omega), h2, h3⟩
theorem qd2 {m : Nat} {n : Nu} (h : n.Ok m) : (n.q = 0 ∧ n.d = 0) ∨ (n.q ≠ 0 ∧ 0 < n.d) := by
  rcases h.qd with h | ⟨h1, h2, _⟩
  · exact .inl h
  · exact .inr ⟨h1, h2⟩
/-- comparing leans on the numbers -/
theorem nu_cmpG {m k : Nat} {x y : Nu} (hx : x.Ok m) (hy : y.Ok k) : cmpM x.mo y.mo = sgG (x.p * y.r - y.p * x.r) (x.q * y.r) x.e (-y.q * x.r) y.e := by
  rw [← nu_cmp hx hy, sgL_gen hy.r0 hx.r0 (qd2 hx) (qd2 hy)]
  rfl
theorem later_e {n : Nu} {t b : Int} (hb : 0 < b) : (n.later t b).e = n.e := by
  unfold Nu.e Nu.later
  by_cases h : n.q = 0
  · rw [if_pos (by rw [h, Int.zero_mul]), if_pos h]
  · rw [if_neg (Int.mul_ne_zero h (by omega)), if_neg h]
theorem later_cmp {m k : Nat} {x y : Nu} {t b : Int} (hx : x.Ok m) (hy : y.Ok k) (hb : 0 < b) : cmpM (x.later t b).mo (y.later t b).mo = cmpM x.mo y.mo := by
  have o : ∀ {j : Nat} {n : Nu}, n.Ok j → ∃ k, (n.later t b).Ok k := fun {j n} h => by
    obtain ⟨i, hi⟩ : ∃ i, Bd i t ∧ Bd i b := by
      have p : ∀ z : Int, Bd (z.natAbs + 1) z := fun z => by
        unfold Bd
        exact Nat.lt_of_lt_of_le Nat.lt_two_pow_self (Nat.pow_le_pow_right (by decide) (by omega))
      exact ⟨t.natAbs + b.natAbs + 1, (p t).mono (by omega), (p b).mono (by omega)⟩
    exact ⟨_, later_ok h hb hi.1 hi.2 (Nat.le_refl _)⟩
  obtain ⟨k1, o1⟩ := o hx
  obtain ⟨k2, o2⟩ := o hy
  rw [nu_cmpG o1 o2, nu_cmpG hx hy, later_e hb, later_e hb]
  have c1 : (x.later t b).p * (y.later t b).r - (y.later t b).p * (x.later t b).r = b * b * (x.p * y.r - y.p * x.r) := by
    show (x.p * b + t * x.r) * (y.r * b) - (y.p * b + t * y.r) * (x.r * b) = _
    grind
  have c2 : (x.later t b).q * (y.later t b).r = b * b * (x.q * y.r) := by
    show x.q * b * (y.r * b) = _
    grind
  have c3 : -(y.later t b).q * (x.later t b).r = b * b * (-y.q * x.r) := by
    show -(y.q * b) * (x.r * b) = _
    grind
  rw [c1, c2, c3, sgG_scale (Int.mul_pos hb hb)]
/-- the same root, turned: the rest counts -/
theorem sgG_same {c a e : Int} : sgG c a e (-a) e = c.sign := by
  have h : rts a e (-a) e = 0 := by
    unfold rts
    have : a * a.natAbs * e + -a * (-a).natAbs * e = 0 := by
      rw [Int.natAbs_neg]
      grind
    rw [this]
    rfl
  unfold sgG
  rw [h]
  by_cases hc : c = 0
  · rw [if_pos hc, hc]
    rfl
  · rw [if_neg hc, if_pos rfl]
theorem later_self {m k : Nat} {x : Nu} {t b : Int} (hx : x.Ok m) (hl : (x.later t b).Ok k) (hb : 0 < b) : cmpM (x.later t b).mo x.mo = t.sign := by
  rw [nu_cmpG hl hx, later_e hb]
  have c1 : (x.later t b).p * x.r - x.p * (x.later t b).r = t * (x.r * x.r) := by
    show (x.p * b + t * x.r) * x.r - x.p * (x.r * b) = _
    grind
  have c2 : -x.q * (x.later t b).r = -((x.later t b).q * x.r) := by
    show -x.q * (x.r * b) = -(x.q * b * x.r)
    grind
  rw [c1, c2, sgG_same, Int.sign_mul, Int.sign_eq_one_of_pos (Int.mul_pos hx.r0 hx.r0), Int.mul_one]
theorem later_back {m k l : Nat} {x : Nu} {t b : Int} (hx : x.Ok m) (hl : (x.later t b).Ok k) (h2 : ((x.later t b).later (-t) b).Ok l) (hb : 0 < b) : ((x.later t b).later (-t) b).mo = x.mo := by
  have h : cmpM ((x.later t b).later (-t) b).mo x.mo = 0 := by
    rw [nu_cmpG h2 hx, later_e hb, later_e hb]
    have c1 : ((x.later t b).later (-t) b).p * x.r - x.p * ((x.later t b).later (-t) b).r = 0 := by
      show ((x.p * b + t * x.r) * b + -t * (x.r * b)) * x.r - x.p * (x.r * b * b) = _
      grind
    have c2 : -x.q * ((x.later t b).later (-t) b).r = -(((x.later t b).later (-t) b).q * x.r) := by
      show -x.q * (x.r * b * b) = -(x.q * b * b * x.r)
      grind
    rw [c1, c2, sgG_same]
    rfl
  exact cmp_zero (nu_rel h2).1 (nu_rel hx).1 h
end Pv

set_option Elab.async false
set_option linter.all false
set_option maxRecDepth 100000
/-! Mp: stretches as values. -/
namespace Pv
open PySem
/-- a value that can be compared and told -/
def PdOk (k w : Nat) (d : D) : Prop := ∃ p : PyData, d.py = some p ∧ p.canLay0 = true ∧ p.depth ≤ k ∧ p.showable = true ∧ p.shown.length ≤ w
theorem PdOk.mono {k w k' w' : Nat} {d : D} (h : PdOk k w d) (hk : k ≤ k') (hw : w ≤ w') : PdOk k' w' d := by
  obtain ⟨p, a, b, c, e, f⟩ := h
  exact ⟨p, a, b, by omega, e, by omega⟩
theorem pd_list {k w : Nat} : ∀ ds : List D, (∀ d ∈ ds, PdOk k w d) → ∃ ps, pys ds = some ps ∧ PyData.canLayAll0 ps = true ∧ PyData.depthAll ps ≤ k ∧ PyData.showableAll ps = true ∧ ((PyData.shownAll ps).map (·.length)).sum ≤ w * ds.length ∧ (PyData.shownAll ps).length = ds.length
  | [], _ => ⟨[], rfl, by simp [PyData.canLayAll0], by simp [PyData.depthAll], rfl, by simp [PyData.shownAll], rfl⟩
  | d :: ds, h => by
    obtain ⟨ps, e, h1, h2, h3, h4, h5⟩ := pd_list ds fun y hy => h y (List.mem_cons_of_mem _ hy)
    obtain ⟨p, e', g1, g2, g3, g4⟩ := h d List.mem_cons_self
    refine ⟨p :: ps, ?_, ?_, ?_, ?_, ?_, ?_⟩
    · show (d.py).bind _ = _
      rw [e']
      show (pys ds).map _ = _
      rw [e]
      rfl
    · simp [PyData.canLayAll0, g1, h1]
    · simp only [PyData.depthAll]
      omega
    · simp [PyData.showableAll, g3, h3]
    · simp only [PyData.shownAll, List.map_cons, List.sum_cons, List.length_cons]
      rw [Nat.mul_add]
      omega
    · simp only [PyData.shownAll, List.length_cons, h5]
theorem pd_tup {k w : Nat} {ds : List D} (h : ∀ d ∈ ds, PdOk k w d) : PdOk (k + 1) (w * ds.length + 2 * ds.length + 3) (.tup ds) := by
  obtain ⟨ps, e, h1, h2, h3, h4, h5⟩ := pd_list ds h
  refine ⟨.tuple ps, ?_, ?_, ?_, ?_, ?_⟩
  · show (pys ds).map PyData.tuple = _
    rw [e]
    rfl
  · simp only [PyData.canLay0, h1]
  · simp only [PyData.depth]
    omega
  · simp only [PyData.showable, h3]
  · simp only [PyData.shown]
    have := tupleText_len_le (PyData.shownAll ps)
    omega
theorem pd_lst {k w : Nat} {ds : List D} (h : ∀ d ∈ ds, PdOk k w d) : PdOk (k + 1) (w * ds.length + 2 * ds.length + 3) (.lst ds) := by
  obtain ⟨ps, e, h1, h2, h3, h4, h5⟩ := pd_list ds h
  refine ⟨.list ps, ?_, ?_, ?_, ?_, ?_⟩
  · show (pys ds).map PyData.list = _
    rw [e]
    rfl
  · simp only [PyData.canLay0, h1]
  · simp only [PyData.depth]
    omega
  · simp only [PyData.showable, h3]
  · simp only [PyData.shown]
    have := listText_len_le (PyData.shownAll ps)
    omega
theorem pd_int {i : Int} (h : Bd 1000 i) : PdOk 0 1002 (.int i) := ⟨.int i, rfl, by simp [PyData.canLay0], by simp [PyData.depth], int_show h, int_len h⟩
theorem pd_bl {b : Bool} : PdOk 0 1002 (.bl b) := ⟨.bool b, rfl, by simp [PyData.canLay0], by simp [PyData.depth], rfl, by cases b <;> decide⟩
theorem pd_ok {k w : Nat} {d : D} (h : PdOk k w d) (hk : k ≤ 64) : okPy d = true := by
  obtain ⟨p, e, h1, h2, _⟩ := h
  unfold okPy
  rw [e]
  show SeqAt.shaped p = true
  unfold SeqAt.shaped
  rw [h1]
  simp only [Bool.true_and, decide_eq_true_eq]
  omega
theorem pd_rp {k w : Nat} {d : D} (h : PdOk k w d) (hk : k ≤ 40) (hw : w ≤ 100000) : ∃ s, biD .repr [d] = some (.str s) := by
  obtain ⟨p, e, h1, h2, h3, h4⟩ := h
  exact ⟨_, rp_of e h3 (by omega) (by omega)⟩
theorem pd_mo {m : Nat} {x : Mo} (hx : x.ok m) (hm : m ≤ 900) : PdOk 1 5000 x.d := by
  cases x with
  | f u v =>
    refine (pd_tup (k := 0) (w := 1002) (ds := [.int u, .int v]) fun d hd => ?_).mono (by omega) (by simp)
    simp only [List.mem_cons, List.not_mem_nil, or_false] at hd
    rcases hd with rfl | rfl
    · exact pd_int (hx.ba.mono (by omega))
    · exact pd_int (hx.bb.mono (by omega))
  | r a b c s =>
    refine (pd_tup (k := 0) (w := 1002) (ds := [.int a, .int b, .int c, .int s]) fun d hd => ?_).mono (by omega) (by simp)
    simp only [List.mem_cons, List.not_mem_nil, or_false] at hd
    rcases hd with rfl | rfl | rfl | rfl
    · exact pd_int (hx.ba.mono (by omega))
    · exact pd_int (hx.bb.mono (by omega))
    · exact pd_int (hx.bc.mono (by omega))
    · exact pd_int (hx.bs.mono (by omega))
theorem eqD_refl_mo (x : Mo) : eqD x.d x.d = true := by
  cases x <;> simp [Mo.d, eqD, eqDs]
/-! edges and stretches -/
def lowD (c : Cu) : D := .tup [c.1.1.d, .bl (!c.2)]
def hiD (c : Cu) : D := .tup [c.1.1.d, .bl c.2]
def stD (s : Cu × Cu) : D := .tup [s.1.1.1.d, .bl (!s.1.2), s.2.1.1.d, .bl s.2.2]
theorem pd_st (s : Cu × Cu) : PdOk 2 21000 (stD s) := by
  refine (pd_tup (k := 1) (w := 5000) fun d hd => ?_).mono (by omega) (by simp)
  simp only [List.mem_cons, List.not_mem_nil, or_false] at hd
  rcases hd with rfl | rfl | rfl | rfl
  · exact pd_mo s.1.1.2 (by omega)
  · exact pd_bl.mono (by omega) (by omega)
  · exact pd_mo s.2.1.2 (by omega)
  · exact pd_bl.mono (by omega) (by omega)
theorem pd_sts (L : List (Cu × Cu)) : PdOk 3 (21000 * L.length + 2 * L.length + 3) (.tup (L.map stD)) := by
  have := pd_tup (ds := L.map stD) (k := 2) (w := 21000) (fun d hd => by
    obtain ⟨s, _, rfl⟩ := List.mem_map.mp hd
    exact pd_st s)
  rw [List.length_map] at this
  exact this
theorem pd_stl (L : List (Cu × Cu)) : PdOk 3 (21000 * L.length + 2 * L.length + 3) (.lst (L.map stD)) := by
  have := pd_lst (ds := L.map stD) (k := 2) (w := 21000) (fun d hd => by
    obtain ⟨s, _, rfl⟩ := List.mem_map.mp hd
    exact pd_st s)
  rw [List.length_map] at this
  exact this
theorem eqD_refl_st (s : Cu × Cu) : eqD (stD s) (stD s) = true := by
  simp [stD, eqD, eqDs, eqD_refl_mo]
theorem eqDs_refl_st : ∀ L : List (Cu × Cu), eqDs (L.map stD) (L.map stD) = true
  | [] => rfl
  | s :: L => by
    show (eqD (stD s) (stD s) && eqDs (L.map stD) (L.map stD)) = true
    rw [eqD_refl_st, eqDs_refl_st L]
    rfl
theorem st_pure (s : Cu × Cu) : (stD s).pure = true := by
  have h : ∀ x : Mo, x.d.pure = true := fun x => by cases x <;> rfl
  show (s.1.1.1.d.pure && (true && (s.2.1.1.d.pure && (true && true)))) = true
  rw [h, h]
  rfl
theorem sts_pure : ∀ L : List (Cu × Cu), pures (L.map stD) = true
  | [] => rfl
  | s :: L => by
    show ((stD s).pure && pures (L.map stD)) = true
    rw [st_pure, sts_pure L]
    rfl
theorem st_deB {S : Sto} (s : Cu × Cu) : deB S (stD s) = stD s := rfl
theorem st_wk (s : Cu × Cu) : wk (stD s) = stD s := rfl
theorem st_lo (s : Cu × Cu) : slcD (stD s) none (some 2) = some (lowD s.1) := rfl
theorem st_hi (s : Cu × Cu) : slcD (stD s) (some 2) none = some (hiD s.2) := rfl
theorem st_0 (s : Cu × Cu) : idxD (stD s) (.int 0) = some s.1.1.1.d := rfl
theorem st_1 (s : Cu × Cu) : idxD (stD s) (.int 1) = some (.bl (!s.1.2)) := rfl
theorem st_2 (s : Cu × Cu) : idxD (stD s) (.int 2) = some s.2.1.1.d := rfl
theorem st_m (s : Cu × Cu) : idxD (stD s) (.int (-1)) = some (.bl s.2.2) := rfl
/-- the last one -/
theorem atI_last {α : Type} {xs : List α} {x : α} : L2.atI (xs ++ [x]) (-1) = some x := by
  unfold L2.atI L2.ixN
  rw [if_neg (by omega), if_pos (by simp; omega)]
  show (xs ++ [x])[((-1 : Int) + ((xs ++ [x]).length : Nat)).toNat]? = some x
  have : ((-1 : Int) + ((xs ++ [x]).length : Nat)).toNat = xs.length := by
    rw [List.length_append, List.length_singleton]
    omega
  rw [this]
  simp
theorem ixN_last {α : Type} {xs : List α} {x : α} : L2.ixN (xs ++ [x]).length (-1) = some xs.length := by
  unfold L2.ixN
  rw [if_neg (by omega), if_pos (by simp; omega)]
  congr 1
  rw [List.length_append, List.length_singleton]
  omega
def memB (L : List (Cu × Cu)) (c : Cu) : Bool := L.any fun s => decide (¬ ltC c s.1) && decide (ltC c s.2)
theorem memB_iff {L : List (Cu × Cu)} {c : Cu} : memB L c = true ↔ MemS ltC L c := by
  unfold memB MemS InS
  simp
instance memDec {L : List (Cu × Cu)} {c : Cu} : Decidable (MemS ltC L c) := decidable_of_iff _ memB_iff
end Pv

set_option Elab.async false
set_option linter.all false
set_option maxRecDepth 100000
/-! Mq: the law's own stretches by a rule, plain. -/
namespace Pv
open PySem
abbrev NS := {n : Nu // n.Ok 8}
def om (n : NS) : OM := ⟨n.1.mo, (nu_rel n.2).1.mono (by omega)⟩
theorem om_small (n : NS) : (om n).1.ok 19 := (nu_rel n.2).1
abbrev LS := (NS × Bool) × (NS × Bool)
def cuN (a : NS × Bool) : Cu := (om a.1, a.2)
def lsC (s : LS) : Cu × Cu := (cuN s.1, cuN s.2)
def lsD (s : LS) : D := .tup [s.1.1.1.n, .bl (!s.1.2), s.2.1.1.n, .bl s.2.2]
theorem rle_map {α β : Type} (f : α → β) : ∀ (cs : List (α × Bool)) (o : Option α), (rle o cs).map (fun s => (f s.1, f s.2)) = rle (o.map f) (cs.map fun a => (f a.1, a.2))
  | [], o => by cases o <;> rfl
  | (c, true) :: r, none => rle_map f r (some c)
  | (c, false) :: r, none => rle_map f r none
  | (c, true) :: r, some l => rle_map f r (some l)
  | (c, false) :: r, some l => by
    show (f l, f c) :: (rle none r).map _ = (f l, f c) :: rle none _
    rw [rle_map f r none]
    rfl
theorem rle_len {α : Type} : ∀ (cs : List (α × Bool)), 2 * (rle none cs).length ≤ cs.length ∧ ∀ l, 2 * (rle (some l) cs).length ≤ cs.length + 1
  | [] => ⟨Nat.le_refl _, fun l => Nat.zero_le _⟩
  | (c, true) :: r => ⟨by show 2 * (rle (some c) r).length ≤ r.length + 1; exact (rle_len r).2 c, fun l => by show 2 * (rle (some l) r).length ≤ r.length + 1 + 1; have := (rle_len r).2 l; omega⟩
  | (c, false) :: r => ⟨by show 2 * (rle none r).length ≤ r.length + 1; have := (rle_len r).1; omega, fun l => by show 2 * ((rle none r).length + 1) ≤ r.length + 1 + 1; have := (rle_len r).1; omega⟩
/-- the points: at each number, and right behind it -/
def ptsC (ps : List (NS × Bool × Bool)) : List ((NS × Bool) × Bool) := ps.flatMap fun p => [((p.1, false), p.2.1), ((p.1, true), p.2.2)]
theorem ptsC_cons (p : NS × Bool × Bool) (ps : List (NS × Bool × Bool)) : ptsC (p :: ps) = ((p.1, false), p.2.1) :: ((p.1, true), p.2.2) :: ptsC ps := rfl
theorem ptsC_len : ∀ ps : List (NS × Bool × Bool), (ptsC ps).length = 2 * ps.length
  | [] => rfl
  | p :: ps => by
    rw [ptsC_cons, List.length_cons, List.length_cons, ptsC_len ps, List.length_cons]
    omega
def cutsOf (ps : List (NS × Bool × Bool)) : List (Cu × Bool) := (ptsC ps).map fun a => (cuN a.1, a.2)
theorem cutsOf_cons (p : NS × Bool × Bool) (ps : List (NS × Bool × Bool)) : cutsOf (p :: ps) = ((om p.1, false), p.2.1) :: ((om p.1, true), p.2.2) :: cutsOf ps := rfl
theorem lsC_map (ps : List (NS × Bool × Bool)) : (rle none (ptsC ps)).map lsC = rle none (cutsOf ps) := rle_map cuN (ptsC ps) none
def Up (G : List NS) : Prop := G.Pairwise fun a b => cmpM a.1.mo b.1.mo < 0
/-- rho at the numbers, and at a moment between each two -/
def PtsOk (ρ : OM → Bool) : List NS → List (NS × Bool × Bool) → Prop
  | [], ps => ps = []
  | [g], ps => ps = [(g, ρ (om g), false)]
  | g :: g' :: l, ps => ∃ (f : OM) (ps' : List (NS × Bool × Bool)), cmpM g.1.mo f.1 < 0 ∧ cmpM f.1 g'.1.mo < 0 ∧ ps = (g, ρ (om g), ρ f) :: ps' ∧ PtsOk ρ (g' :: l) ps'
theorem pts_heads {ρ : OM → Bool} : ∀ (G : List NS) (ps : List (NS × Bool × Bool)), PtsOk ρ G ps → ps.map (·.1) = G
  | [], ps, h => by rw [show ps = [] from h]; rfl
  | [g], ps, h => by rw [show ps = _ from h]; rfl
  | g :: g' :: l, ps, h => by
    obtain ⟨f, ps', _, _, rfl, h'⟩ := h
    rw [List.map_cons, pts_heads (g' :: l) ps' h']
theorem pts_len {ρ : OM → Bool} {G : List NS} {ps : List (NS × Bool × Bool)} (h : PtsOk ρ G ps) : ps.length = G.length := by
  rw [← pts_heads G ps h, List.length_map]
theorem cuts_mem : ∀ {ps : List (NS × Bool × Bool)} {a : Cu × Bool}, a ∈ cutsOf ps → ∃ p ∈ ps, a = ((om p.1, false), p.2.1) ∨ a = ((om p.1, true), p.2.2)
  | [], a, h => by cases h
  | p :: ps, a, h => by
    rw [cutsOf_cons] at h
    rcases List.mem_cons.mp h with h | h
    · exact ⟨p, List.mem_cons_self, .inl h⟩
    · rcases List.mem_cons.mp h with h | h
      · exact ⟨p, List.mem_cons_self, .inr h⟩
      · obtain ⟨q, hq, e⟩ := cuts_mem h
        exact ⟨q, List.mem_cons_of_mem _ hq, e⟩
theorem cuts_up : ∀ (ps : List (NS × Bool × Bool)), Up (ps.map (·.1)) → (cutsOf ps).Pairwise fun a b => ltC a.1 b.1
  | [], _ => List.Pairwise.nil
  | p :: ps, h => by
    have h' := List.pairwise_cons.mp (show (p.1 :: ps.map (·.1)).Pairwise _ from h)
    have beh : ∀ (i : Bool), ∀ a ∈ cutsOf ps, ltC (om p.1, i) a.1 := fun i a ha => by
      obtain ⟨q, hq, e⟩ := cuts_mem ha
      have lt := h'.1 q.1 (List.mem_map.mpr ⟨q, hq, rfl⟩)
      rcases e with e | e <;> rw [e] <;> exact .inl lt
    rw [cutsOf_cons]
    refine List.pairwise_cons.mpr ⟨fun a ha => ?_, List.pairwise_cons.mpr ⟨beh true, cuts_up ps h'.2⟩⟩
    rcases List.mem_cons.mp ha with rfl | ha
    · exact .inr ⟨rfl, rfl, rfl⟩
    · exact beh false a ha
theorem pts_last {ρ : OM → Bool} : ∀ (G : List NS) (ps : List (NS × Bool × Bool)), PtsOk ρ G ps → ∀ b, (G = [] → b = false) → lastF b (cutsOf ps) = false
  | [], ps, h, b, hb => by
    rw [show ps = [] from h]
    exact hb rfl
  | [g], ps, h, b, _ => by
    rw [show ps = _ from h]
    rfl
  | g :: g' :: l, ps, h, b, _ => by
    obtain ⟨f, ps', _, _, rfl, h'⟩ := h
    rw [cutsOf_cons]
    exact pts_last (g' :: l) ps' h' _ fun z => by cases z
theorem byrule_can {ρ : OM → Bool} {G : List NS} {ps : List (NS × Bool × Bool)} (hG : Up G) (h : PtsOk ρ G ps) : Can ltC ((rle none (ptsC ps)).map lsC) ∧ (rle none (ptsC ps)).length ≤ G.length := by
  have e := pts_heads G ps h
  refine ⟨?_, ?_⟩
  · rw [lsC_map]
    exact (rle_none linC (cutsOf ps) (cuts_up ps (by rw [e]; exact hG)) (pts_last G ps h false fun _ => rfl)).1
  · have := (rle_len (ptsC ps)).1
    rw [ptsC_len, pts_len h] at this
    omega
/-- the flags are those of a set whose ends lie among the numbers -/
theorem pts_flags {ρ : OM → Bool} {Q : List (Cu × Cu)} (hρ : ∀ x : OM, ρ x = true ↔ MemS ltC Q (x, false)) : ∀ (G : List NS) (ps : List (NS × Bool × Bool)), Up G → PtsOk ρ G ps → (∀ c, EndS Q c → (∃ g ∈ G, c.1 = om g) ∨ (∀ g ∈ G, cmpM c.1.1 g.1.mo < 0)) → ∀ a ∈ cutsOf ps, a.2 = true ↔ MemS ltC Q a.1
  | [], ps, _, h, _ => by
    rw [show ps = [] from h]
    exact fun a ha => by cases ha
  | [g], ps, _, h, hE => by
    rw [show ps = _ from h]
    intro a ha
    rw [cutsOf_cons] at ha
    rcases List.mem_cons.mp ha with rfl | ha
    · exact hρ (om g)
    · rcases List.mem_cons.mp ha with rfl | ha
      · constructor
        · intro z
          cases z
        · rintro ⟨s, hs, _, q⟩
          exfalso
          obtain ⟨⟨y, j⟩, hy⟩ : ∃ c : Cu, c = s.2 := ⟨_, rfl⟩
          rw [← hy, ltC_by] at q
          rcases hE s.2 ⟨s, hs, .inr rfl⟩ with ⟨g1, hg1, e⟩ | e
          · obtain rfl := List.mem_singleton.mp hg1
            rw [← hy] at e
            rw [show y = om g1 from e, cmpM_self] at q
            rcases q with q | ⟨_, q, _⟩
            · omega
            · cases q
          · have e' := e g (List.mem_singleton.mpr rfl)
            rw [← hy] at e'
            have e2 : cmpM y.1 (om g).1 < 0 := e'
            rw [cmpM_neg] at e2
            have q' : cmpM (om g).1 y.1 < 0 ∨ (cmpM (om g).1 y.1 = 0 ∧ true = false ∧ j = true) := q
            rcases q' with q | ⟨q, _⟩ <;> omega
      · cases ha
  | g :: g' :: l, ps, hU, h, hE => by
    obtain ⟨f, ps', f1, f2, rfl, h'⟩ := h
    have hU' := List.pairwise_cons.mp hU
    have hU2 := List.pairwise_cons.mp hU'.2
    intro a ha
    rw [cutsOf_cons] at ha
    rcases List.mem_cons.mp ha with rfl | ha
    · exact hρ (om g)
    · rcases List.mem_cons.mp ha with rfl | ha
      · -- behind g it is as at f
        show ρ f = true ↔ _
        rw [hρ f]
        have key : ∀ c, EndS Q c → (ltC (f, false) c ↔ ltC (om g, true) c) := fun c hc => by
          obtain ⟨y, j⟩ := c
          rw [ltC_by, ltC_by]
          rcases hE (y, j) hc with ⟨g1, hg1, e⟩ | e
          · have e' : y = om g1 := e
            subst e'
            rcases List.mem_cons.mp hg1 with rfl | hg1
            · have a1 : 0 < cmpM f.1 (om g1).1 := by
                rw [cmpM_neg]
                have : cmpM (om g1).1 f.1 < 0 := f1
                omega
              rw [cmpM_self]
              constructor
              · rintro (z | ⟨z, _⟩) <;> omega
              · rintro (z | ⟨_, z, _⟩)
                · omega
                · cases z
            · have b1 : cmpM f.1 (om g1).1 < 0 := by
                rcases List.mem_cons.mp hg1 with rfl | hg2
                · exact f2
                · exact cmp_trans f.2 (om g').2 (om g1).2 f2 (hU2.1 g1 hg2)
              have b2 : cmpM (om g).1 (om g1).1 < 0 := hU'.1 g1 hg1
              exact ⟨fun _ => .inl b2, fun _ => .inl b1⟩
          · have a1 : cmpM y.1 (om g).1 < 0 := e g List.mem_cons_self
            have a2 : cmpM y.1 f.1 < 0 := cmp_trans y.2 (om g).2 f.2 a1 f1
            rw [cmpM_neg (x := y.1) (y := f.1), cmpM_neg (x := y.1) (y := (om g).1)]
            constructor
            · rintro (z | ⟨z, _⟩) <;> omega
            · rintro (z | ⟨z, _⟩) <;> omega
        constructor
        · rintro ⟨s, hs, z1, z2⟩
          exact ⟨s, hs, fun w => z1 ((key s.1 ⟨s, hs, .inl rfl⟩).mpr w), (key s.2 ⟨s, hs, .inr rfl⟩).mp z2⟩
        · rintro ⟨s, hs, z1, z2⟩
          exact ⟨s, hs, fun w => z1 ((key s.1 ⟨s, hs, .inl rfl⟩).mp w), (key s.2 ⟨s, hs, .inr rfl⟩).mpr z2⟩
      · refine pts_flags hρ (g' :: l) ps' hU'.2 h' (fun c hc => ?_) a ha
        rcases hE c hc with ⟨g1, hg1, e⟩ | e
        · rcases List.mem_cons.mp hg1 with rfl | hg1
          · exact .inr fun z hz => by rw [e]; exact hU'.1 z hz
          · exact .inl ⟨g1, hg1, e⟩
        · exact .inr fun z hz => e z (List.mem_cons_of_mem _ hz)
theorem byrule_eq {ρ : OM → Bool} {G : List NS} {ps : List (NS × Bool × Bool)} {Q : List (Cu × Cu)} (hG : Up G) (h : PtsOk ρ G ps) (hQ : Can ltC Q) (hρ : ∀ x : OM, ρ x = true ↔ MemS ltC Q (x, false)) (hE : ∀ c, EndS Q c → ∃ g ∈ G, c.1 = om g) : (rle none (ptsC ps)).map lsC = Q := by
  have e := pts_heads G ps h
  have rn := rle_none linC (cutsOf ps) (cuts_up ps (by rw [e]; exact hG)) (pts_last G ps h false fun _ => rfl)
  obtain ⟨r1, r2, _, r4⟩ := rn
  have fl := pts_flags hρ G ps hG h fun c hc => .inl (hE c hc)
  rw [lsC_map]
  refine can_uniq linC _ _ r1 hQ fun c hc => ?_
  have key : ∃ a ∈ cutsOf ps, c = a.1 := by
    rcases hc with hc | hc
    · exact r2 c hc
    · obtain ⟨g, hg, eg⟩ := hE c hc
      rw [← e] at hg
      obtain ⟨p, hp, rfl⟩ := List.mem_map.mp hg
      have all : ∀ (ps : List (NS × Bool × Bool)), p ∈ ps → ∀ b : Bool, ∃ a ∈ cutsOf ps, a.1 = (om p.1, b) := fun ps => by
        induction ps with
        | nil => exact fun h => absurd h List.not_mem_nil
        | cons q ps ih =>
          intro h b
          rw [cutsOf_cons]
          rcases List.mem_cons.mp h with rfl | h
          · cases b
            · exact ⟨_, List.mem_cons_self, rfl⟩
            · exact ⟨_, List.mem_cons_of_mem _ List.mem_cons_self, rfl⟩
          · obtain ⟨a, ha, e⟩ := ih h b
            exact ⟨a, List.mem_cons_of_mem _ (List.mem_cons_of_mem _ ha), e⟩
      obtain ⟨a, ha, ea⟩ := all ps hp c.2
      exact ⟨a, ha, by rw [ea, ← eg]⟩
  obtain ⟨a, ha, rfl⟩ := key
  exact (r4 a ha).trans (fl a ha)
/-! sorted -/
theorem up_of {G : List NS} (h : Asc (G.map fun n => n.1.mo)) : Up G := by
  induction G with
  | nil => exact List.Pairwise.nil
  | cons g l ih =>
    cases l with
    | nil => exact List.pairwise_singleton _ _
    | cons g' l =>
      have h2 : cmpM g.1.mo g'.1.mo < 0 ∧ Asc ((g' :: l).map fun n => n.1.mo) := h
      have u := ih h2.2
      refine List.pairwise_cons.mpr ⟨fun z hz => ?_, u⟩
      rcases List.mem_cons.mp hz with rfl | hz
      · exact h2.1
      · exact cmp_trans (om g).2 (om g').2 (om z).2 h2.1 ((List.pairwise_cons.mp u).1 z hz)
/-- what is put together stands among the points -/
theorem rle_ends {α : Type} : ∀ (cs : List (α × Bool)) (o : Option α) (s : α × α), s ∈ rle o cs → (o = some s.1 ∨ s.1 ∈ cs.map (·.1)) ∧ s.2 ∈ cs.map (·.1)
  | [], o, s, h => by cases o <;> cases h
  | (c, true) :: r, none, s, h => by
    obtain ⟨h1, h2⟩ := rle_ends r (some c) s h
    refine ⟨.inr ?_, List.mem_cons_of_mem _ h2⟩
    rcases h1 with h1 | h1
    · injection h1 with h1
      rw [← h1]
      exact List.mem_cons_self
    · exact List.mem_cons_of_mem _ h1
  | (c, false) :: r, none, s, h => by
    obtain ⟨h1, h2⟩ := rle_ends r none s h
    exact ⟨.inr (List.mem_cons_of_mem _ (h1.resolve_left fun z => by cases z)), List.mem_cons_of_mem _ h2⟩
  | (c, true) :: r, some l, s, h => by
    obtain ⟨h1, h2⟩ := rle_ends r (some l) s h
    exact ⟨h1.imp id (List.mem_cons_of_mem _), List.mem_cons_of_mem _ h2⟩
  | (c, false) :: r, some l, s, h => by
    rcases List.mem_cons.mp (show s ∈ (l, c) :: rle none r from h) with rfl | h
    · exact ⟨.inl rfl, List.mem_cons_self⟩
    · obtain ⟨h1, h2⟩ := rle_ends r none s h
      exact ⟨.inr (List.mem_cons_of_mem _ (h1.resolve_left fun z => by cases z)), List.mem_cons_of_mem _ h2⟩
theorem pts_mem : ∀ {ps : List (NS × Bool × Bool)} {a : NS × Bool}, a ∈ (ptsC ps).map (·.1) → a.1 ∈ ps.map (·.1)
  | [], a, h => by cases h
  | p :: ps, a, h => by
    rw [ptsC_cons, List.map_cons, List.map_cons] at h
    rcases List.mem_cons.mp h with h | h
    · rw [h]
      exact List.mem_cons_self
    · rcases List.mem_cons.mp h with h | h
      · rw [h]
        exact List.mem_cons_self
      · exact List.mem_cons_of_mem _ (pts_mem h)
theorem rle_in {ρ : OM → Bool} {G : List NS} {ps : List (NS × Bool × Bool)} (h : PtsOk ρ G ps) {s : LS} (hs : s ∈ rle none (ptsC ps)) : s.1.1 ∈ G ∧ s.2.1 ∈ G := by
  obtain ⟨h1, h2⟩ := rle_ends _ _ s hs
  have e := pts_heads G ps h
  exact ⟨e ▸ pts_mem (h1.resolve_left fun z => by cases z), e ▸ pts_mem h2⟩
end Pv

set_option Elab.async false
set_option linter.all false
set_option maxRecDepth 100000
/-! Mr: own stretches, later by a fraction; narrowed, widened, plain. -/
namespace Pv
open PySem
theorem later_move {m k i j : Nat} {x y : Nu} {t b : Int} (hx : x.Ok m) (hy : y.Ok k) (ox : (x.later (-t) b).Ok i) (oy : (y.later t b).Ok j) (hb : 0 < b) : cmpM (x.later (-t) b).mo y.mo = cmpM x.mo (y.later t b).mo := by
  rw [nu_cmpG ox hy, nu_cmpG hx oy, later_e hb, later_e hb]
  have c1 : (x.later (-t) b).p * y.r - y.p * (x.later (-t) b).r = x.p * (y.later t b).r - (y.later t b).p * x.r := by
    show (x.p * b + -t * x.r) * y.r - y.p * (x.r * b) = x.p * (y.r * b) - (y.p * b + t * y.r) * x.r
    grind
  have c2 : (x.later (-t) b).q * y.r = x.q * (y.later t b).r := by
    show x.q * b * y.r = x.q * (y.r * b)
    grind
  have c3 : -y.q * (x.later (-t) b).r = -(y.later t b).q * x.r := by
    show -y.q * (x.r * b) = -(y.q * b) * x.r
    grind
  rw [c1, c2, c3]
theorem Fr.mono {m k : Nat} {a b : Int} (h : Fr m a b) (q : m ≤ k) : Fr k a b := ⟨h.b1, h.g1, h.ba.mono q, h.bb.mono q⟩
abbrev Len := {p : Int × Int // Fr 3 p.1 p.2}
theorem Len.b0 (f : Len) : 0 < f.1.2 := by
  have := f.2.b1
  omega
theorem ns_later (n : NS) (f : Len) : (n.1.later f.1.1 f.1.2).Ok 12 := later_ok n.2 f.b0 f.2.ba f.2.bb (by decide)
def omL (n : NS) (f : Len) : OM := ⟨(n.1.later f.1.1 f.1.2).mo, (nu_rel (ns_later n f)).1.mono (by decide)⟩
def cuL (a : NS × Bool) (f : Len) : Cu := (omL a.1 f, a.2)
theorem omL_cmp (x y : NS) (f : Len) : cmpM (omL x f).1 (omL y f).1 = cmpM (om x).1 (om y).1 := later_cmp x.2 y.2 f.b0
theorem cuL_lt (a b : NS × Bool) (f : Len) : ltC (cuL a f) (cuL b f) ↔ ltC (cuN a) (cuN b) := by
  obtain ⟨x, i⟩ := a
  obtain ⟨y, j⟩ := b
  show ltC (omL x f, i) (omL y f, j) ↔ ltC (om x, i) (om y, j)
  rw [ltC_by, ltC_by, omL_cmp]
theorem cuL_ge {a : NS × Bool} {f : Len} (h : 0 ≤ f.1.1) : ¬ ltC (cuL a f) (cuN a) := by
  obtain ⟨x, i⟩ := a
  show ¬ ltC (omL x f, i) (om x, i)
  rw [ltC_by]
  have e : cmpM (omL x f).1 (om x).1 = f.1.1.sign := later_self x.2 (ns_later x f) f.b0
  rw [e]
  rcases sign_cases f.1.1 with ⟨z, _⟩ | ⟨_, z⟩ | ⟨_, z⟩
  · omega
  · rw [z]
    rintro (g | ⟨_, g1, g2⟩)
    · omega
    · rw [g1] at g2
      cases g2
  · rw [z]
    rintro (g | ⟨g, _⟩) <;> omega
/-- narrowed -/
def narL (A : List LS) (f : Len) : List (Cu × Cu) := A.flatMap fun s => mk1 ltC (cuL s.1 f) (cuN s.2)
def widL (A : List LS) (f : Len) : List (Cu × Cu) := A.map fun s => (cuN s.1, cuL s.2 f)
def movL (A : List LS) (f : Len) : List (Cu × Cu) := A.map fun s => (cuL s.1 f, cuL s.2 f)
theorem nar_mem {A : List LS} {f : Len} {c : Cu} : MemS ltC (narL A f) c ↔ ∃ s ∈ A, ¬ ltC c (cuL s.1 f) ∧ ltC c (cuN s.2) := by
  unfold narL
  constructor
  · rintro ⟨t, ht, h⟩
    obtain ⟨s, hs, ht⟩ := List.mem_flatMap.mp ht
    exact ⟨s, hs, (memS_mk1 linC).mp ⟨t, ht, h⟩⟩
  · rintro ⟨s, hs, h⟩
    obtain ⟨t, ht, g⟩ := (memS_mk1 linC).mpr h
    exact ⟨t, List.mem_flatMap.mpr ⟨s, hs, ht⟩, g⟩
theorem wid_mem {A : List LS} {f : Len} {c : Cu} : MemS ltC (widL A f) c ↔ ∃ s ∈ A, ¬ ltC c (cuN s.1) ∧ ltC c (cuL s.2 f) := by
  unfold widL MemS
  constructor
  · rintro ⟨t, ht, h⟩
    obtain ⟨s, hs, rfl⟩ := List.mem_map.mp ht
    exact ⟨s, hs, h⟩
  · rintro ⟨s, hs, h⟩
    exact ⟨_, List.mem_map.mpr ⟨s, hs, rfl⟩, h⟩
theorem can_pw {A : List LS} (h : Can ltC (A.map lsC)) : (∀ s ∈ A, ltC (cuN s.1) (cuN s.2)) ∧ A.Pairwise fun s t => ltC (cuN s.2) (cuN t.1) := by
  obtain ⟨h1, h2⟩ := h
  rw [List.pairwise_map] at h2
  exact ⟨fun s hs => h1 (lsC s) (List.mem_map.mpr ⟨s, hs, rfl⟩), h2.imp fun {a b} z => z⟩
theorem nar_can {A : List LS} {f : Len} (h : Can ltC (A.map lsC)) (h0 : 0 ≤ f.1.1) : Can ltC (narL A f) := by
  obtain ⟨h1, h2⟩ := can_pw h
  refine ⟨fun t ht => ?_, ?_⟩
  · obtain ⟨s, hs, ht⟩ := List.mem_flatMap.mp ht
    obtain ⟨rfl, g⟩ := mem_mk1.mp ht
    exact g
  · unfold narL
    rw [List.pairwise_flatMap]
    refine ⟨fun s hs => ?_, h2.imp fun {s t} hst u hu v hv => ?_⟩
    · unfold mk1
      split <;> simp
    · obtain ⟨rfl, _⟩ := mem_mk1.mp hu
      obtain ⟨rfl, _⟩ := mem_mk1.mp hv
      exact linC.lt_le hst (cuL_ge h0)
theorem wid_lt {A : List LS} {f : Len} (h : Can ltC (A.map lsC)) (h0 : 0 ≤ f.1.1) : ∀ s ∈ widL A f, ltC s.1 s.2 := fun s hs => by
  obtain ⟨t, ht, rfl⟩ := List.mem_map.mp hs
  exact linC.lt_le ((can_pw h).1 t ht) (cuL_ge h0)
theorem mov_can {A : List LS} {f : Len} (h : Can ltC (A.map lsC)) : Can ltC (movL A f) := by
  obtain ⟨h1, h2⟩ := can_pw h
  refine ⟨fun t ht => ?_, ?_⟩
  · obtain ⟨s, hs, rfl⟩ := List.mem_map.mp ht
    exact (cuL_lt _ _ f).mpr (h1 s hs)
  · unfold movL
    rw [List.pairwise_map]
    exact h2.imp fun {s t} hst => (cuL_lt _ _ f).mpr hst
theorem nar_sub {A : List LS} {f : Len} {c : Cu} (h0 : 0 ≤ f.1.1) (h : MemS ltC (narL A f) c) : MemS ltC (A.map lsC) c := by
  obtain ⟨s, hs, h1, h2⟩ := nar_mem.mp h
  exact ⟨_, List.mem_map.mpr ⟨s, hs, rfl⟩, linC.le_le (cuL_ge h0) h1, h2⟩
theorem wid_sup {A : List LS} {f : Len} {c : Cu} (h0 : 0 ≤ f.1.1) (h : MemS ltC (A.map lsC) c) : MemS ltC (widL A f) c := by
  obtain ⟨t, ht, h1, h2⟩ := h
  obtain ⟨s, hs, rfl⟩ := List.mem_map.mp ht
  exact wid_mem.mpr ⟨s, hs, h1, linC.lt_le h2 (cuL_ge h0)⟩
/-- an own number, later, again one -/
noncomputable def laterN (n : NS) (f : Len) : NS := by
  classical
  exact if h : n.1.Ok 4 then ⟨n.1.later f.1.1 f.1.2, later_ok h f.b0 f.2.ba f.2.bb (by decide)⟩ else n
theorem laterN_eq {n : NS} {f : Len} (h : n.1.Ok 4) : (laterN n f).1 = n.1.later f.1.1 f.1.2 := by
  unfold laterN
  rw [dif_pos h]
theorem om_laterN {n : NS} {f : Len} (h : n.1.Ok 4) : om (laterN n f) = omL n f := by
  apply Subtype.ext
  show (laterN n f).1.mo = (n.1.later f.1.1 f.1.2).mo
  rw [laterN_eq h]
noncomputable def movS (s : LS) (f : Len) : LS := ((laterN s.1.1 f, s.1.2), (laterN s.2.1 f, s.2.2))
theorem movS_C {s : LS} {f : Len} (h : s.1.1.1.Ok 4 ∧ s.2.1.1.Ok 4) : lsC (movS s f) = (cuL s.1 f, cuL s.2 f) := by
  show ((om (laterN s.1.1 f), s.1.2), (om (laterN s.2.1 f), s.2.2)) = ((omL s.1.1 f, s.1.2), (omL s.2.1 f, s.2.2))
  rw [om_laterN h.1, om_laterN h.2]
theorem movS_map {A : List LS} {f : Len} (h : ∀ s ∈ A, s.1.1.1.Ok 4 ∧ s.2.1.1.Ok 4) : (A.map fun s => movS s f).map lsC = movL A f := by
  unfold movL
  rw [List.map_map]
  exact List.map_congr_left fun s hs => movS_C (h s hs)
def Len.neg (f : Len) : Len := ⟨(-f.1.1, f.1.2), f.2.neg⟩
/-- there and back -/
theorem back_om {n : NS} {f : Len} (h : n.1.Ok 4) : omL (laterN n f) f.neg = om n := by
  apply Subtype.ext
  show ((laterN n f).1.later (-f.1.1) f.1.2).mo = n.1.mo
  rw [laterN_eq h]
  have o1 := later_ok h f.b0 f.2.ba f.2.bb (Nat.le_refl _)
  exact later_back h o1 (later_ok o1 f.b0 f.2.ba.neg f.2.bb (Nat.le_refl _)) f.b0
theorem back_map {A : List LS} {f : Len} (h : ∀ s ∈ A, s.1.1.1.Ok 4 ∧ s.2.1.1.Ok 4) : movL (A.map fun s => movS s f) f.neg = A.map lsC := by
  unfold movL
  rw [List.map_map]
  refine List.map_congr_left fun s hs => ?_
  show ((omL (laterN s.1.1 f) f.neg, s.1.2), (omL (laterN s.2.1 f) f.neg, s.2.2)) = ((om s.1.1, s.1.2), (om s.2.1, s.2.2))
  rw [back_om (h s hs).1, back_om (h s hs).2]
/-- a number beside later ones -/
theorem beside_L {n : Nu} {x : OM} {y : NS} {f : Len} {m : Nat} (hn : n.Ok m) (hx : n.mo = x.1) : cmpM (n.later (-f.1.1) f.1.2).mo y.1.mo = cmpM x.1 (omL y f).1 := by
  rw [later_move hn y.2 (later_ok hn f.b0 f.2.ba.neg f.2.bb (Nat.le_refl _)) (ns_later y f) f.b0, hx]
  rfl
end Pv

set_option Elab.async false
set_option linter.all false
set_option maxRecDepth 100000
/-! Mt: since, plain. -/
namespace Pv
open PySem
def clo (h : Cu × Cu) : Cu × Cu := ((h.1.1, false), (h.2.1, true))
def sinceP (B : List (Cu × Cu)) (h : Cu × Cu) : List (Cu × Cu) := match bothL ltC [clo h] B with
  | [] => []
  | b :: _ => mk1 ltC (mx ltC h.1 b.1) h.2
def sinceL (A B : List (Cu × Cu)) : List (Cu × Cu) := B ++ A.flatMap (sinceP B)
theorem clo_lo (h : Cu × Cu) : ¬ ltC h.1 (clo h).1 := by
  obtain ⟨⟨x, a⟩, y⟩ := h
  show ¬ ltC (x, a) (x, false)
  rw [ltC_by, cmpM_self]
  rintro (g | ⟨_, _, g⟩)
  · omega
  · cases g
theorem clo_hi (h : Cu × Cu) : ¬ ltC (clo h).2 h.2 := by
  obtain ⟨x, ⟨y, b⟩⟩ := h
  show ¬ ltC (y, true) (y, b)
  rw [ltC_by, cmpM_self]
  rintro (g | ⟨_, g, _⟩)
  · omega
  · cases g
theorem clo_can {h : Cu × Cu} (g : ltC h.1 h.2) : Can ltC [clo h] := by
  refine ⟨fun s hs => ?_, List.pairwise_singleton _ _⟩
  obtain rfl := List.mem_singleton.mp hs
  exact linC.le_lt (clo_lo h) (linC.lt_le g (clo_hi h))
/-- one stretch, gone on with -/
theorem sinceP_mem {B : List (Cu × Cu)} {h : Cu × Cu} {c : Cu} (hB : Can ltC B) (hh : ltC h.1 h.2) : MemS ltC (sinceP B h) c ↔ InS ltC h c ∧ ∃ s ∈ B, ¬ ltC c s.1 ∧ ltC (clo h).1 s.2 := by
  have pc := both_can linC (clo_can hh) hB
  unfold sinceP
  cases e : bothL ltC [clo h] B with
  | nil =>
    constructor
    · exact fun m => absurd m memS_nil
    · rintro ⟨⟨i1, i2⟩, s, hs, j1, j2⟩
      exfalso
      have t : (mx ltC (clo h).1 s.1, mn ltC (clo h).2 s.2) ∈ bothL ltC [clo h] B := mem_both.mpr ⟨_, List.mem_singleton.mpr rfl, s, hs, rfl, by
        rw [lt_mn linC]
        have c12 : ltC (clo h).1 (clo h).2 := linC.le_lt (clo_lo h) (linC.lt_le hh (clo_hi h))
        have s1 : ltC s.1 (clo h).2 := linC.le_lt j1 (linC.lt_le i2 (clo_hi h))
        rcases mx_or (lt := ltC) (clo h).1 s.1 with q | q <;> rw [q]
        · exact ⟨c12, j2⟩
        · exact ⟨s1, hB.1 s hs⟩⟩
      rw [e] at t
      cases t
  | cons b l =>
    show MemS ltC (mk1 ltC (mx ltC h.1 b.1) h.2) c ↔ _
    rw [memS_mk1 linC, le_mx linC]
    rw [e] at pc
    constructor
    · rintro ⟨⟨m1, m2⟩, m3⟩
      refine ⟨⟨m1, m3⟩, ?_⟩
      have hb : b ∈ bothL ltC [clo h] B := by rw [e]; exact List.mem_cons_self
      obtain ⟨z, hz, s, hs, eb, lt⟩ := mem_both.mp hb
      obtain rfl := List.mem_singleton.mp hz
      refine ⟨s, hs, ?_, ?_⟩
      · rw [eb] at m2
        exact ((le_mx linC).mp m2).2
      · have l2 := (lt_mn linC).mp lt
        exact linC.le_lt ((le_mx linC).mp (linC.ir (mx ltC (clo h).1 s.1))).1 l2.2
    · rintro ⟨⟨i1, i2⟩, s, hs, j1, j2⟩
      refine ⟨⟨i1, ?_⟩, i2⟩
      have ht : (mx ltC (clo h).1 s.1, mn ltC (clo h).2 s.2) ∈ bothL ltC [clo h] B := mem_both.mpr ⟨_, List.mem_singleton.mpr rfl, s, hs, rfl, by
        rw [lt_mn linC]
        have c12 : ltC (clo h).1 (clo h).2 := linC.le_lt (clo_lo h) (linC.lt_le hh (clo_hi h))
        have s1 : ltC s.1 (clo h).2 := linC.le_lt j1 (linC.lt_le i2 (clo_hi h))
        rcases mx_or (lt := ltC) (clo h).1 s.1 with q | q <;> rw [q]
        · exact ⟨c12, j2⟩
        · exact ⟨s1, hB.1 s hs⟩⟩
      have tx : ¬ ltC c (mx ltC (clo h).1 s.1) := (le_mx linC).mpr ⟨linC.le_le (clo_lo h) i1, j1⟩
      rw [e] at ht
      obtain ⟨b0, bl, _⟩ := can_cons pc
      rcases List.mem_cons.mp ht with q | q
      · rw [← q]
        exact tx
      · exact linC.le_le (linC.as (linC.tr b0 (bl _ q))) tx
theorem since_mem {A B : List (Cu × Cu)} {c : Cu} (hA : Can ltC A) (hB : Can ltC B) : MemS ltC (sinceL A B) c ↔ MemS ltC B c ∨ ∃ h ∈ A, InS ltC h c ∧ ∃ s ∈ B, ¬ ltC c s.1 ∧ ltC (clo h).1 s.2 := by
  unfold sinceL
  rw [memS_app]
  constructor
  · rintro (m | ⟨t, ht, m⟩)
    · exact .inl m
    · obtain ⟨h, hh, ht⟩ := List.mem_flatMap.mp ht
      exact .inr ⟨h, hh, (sinceP_mem hB (hA.1 h hh)).mp ⟨t, ht, m⟩⟩
  · rintro (m | ⟨h, hh, m⟩)
    · exact .inl m
    · obtain ⟨t, ht, m⟩ := (sinceP_mem hB (hA.1 h hh)).mpr m
      exact .inr ⟨t, List.mem_flatMap.mpr ⟨h, hh, ht⟩, m⟩
theorem sinceP_len {B : List (Cu × Cu)} {h : Cu × Cu} : (sinceP B h).length ≤ 1 := by
  unfold sinceP
  split
  · simp
  · unfold mk1
    split <;> simp
theorem since_lt {A B : List (Cu × Cu)} (hB : Can ltC B) : ∀ s ∈ sinceL A B, ltC s.1 s.2 := fun s hs => by
  rcases List.mem_append.mp hs with q | q
  · exact hB.1 s q
  · obtain ⟨h, _, q⟩ := List.mem_flatMap.mp q
    unfold sinceP at q
    split at q
    · cases q
    · obtain ⟨rfl, g⟩ := mem_mk1.mp q
      exact g
theorem since_end {A B : List (Cu × Cu)} {c : Cu} (hc : EndS (sinceL A B) c) : ∃ e, (EndS A e ∨ EndS B e) ∧ c.1 = e.1 := by
  obtain ⟨s, hs, h⟩ := hc
  rcases List.mem_append.mp hs with q | q
  · exact ⟨c, .inr ⟨s, q, h⟩, rfl⟩
  · obtain ⟨z, hz, q⟩ := List.mem_flatMap.mp q
    unfold sinceP at q
    split at q
    · cases q
    · rename_i b l e
      obtain ⟨rfl, _⟩ := mem_mk1.mp q
      rcases h with rfl | rfl
      · rcases mx_or (lt := ltC) z.1 b.1 with w | w
        · rw [w]
          exact ⟨z.1, .inl ⟨z, hz, .inl rfl⟩, rfl⟩
        · rw [w]
          have hb : b ∈ bothL ltC [clo z] B := by rw [e]; exact List.mem_cons_self
          obtain ⟨y, hy, t, ht, eb, _⟩ := mem_both.mp hb
          obtain rfl := List.mem_singleton.mp hy
          rw [eb]
          rcases mx_or (lt := ltC) (clo z).1 t.1 with v | v
          · rw [v]
            exact ⟨z.1, .inl ⟨z, hz, .inl rfl⟩, rfl⟩
          · rw [v]
            exact ⟨t.1, .inr ⟨t, ht, .inl rfl⟩, rfl⟩
      · exact ⟨z.2, .inl ⟨z, hz, .inr rfl⟩, rfl⟩
theorem since_sub {A B : List (Cu × Cu)} {c : Cu} (hA : Can ltC A) (hB : Can ltC B) (h : MemS ltC (sinceL A B) c) : MemS ltC A c ∨ MemS ltC B c := by
  rcases (since_mem hA hB).mp h with q | ⟨s, hs, q, _⟩
  · exact .inr q
  · exact .inl ⟨s, hs, q⟩
/-- a cut lies in one stretch alone -/
theorem can_one {L : List (Cu × Cu)} {s t : Cu × Cu} {c : Cu} (h : Can ltC L) (hs : s ∈ L) (ht : t ∈ L) (i : InS ltC s c) (j : InS ltC t c) : s = t := by
  induction L with
  | nil => cases hs
  | cons u l ih =>
    obtain ⟨u0, ul, hl⟩ := can_cons h
    rcases List.mem_cons.mp hs with e | hs' <;> rcases List.mem_cons.mp ht with e' | ht'
    · exact e.trans e'.symm
    · subst e; exact absurd (linC.tr i.2 (ul t ht')) j.1
    · subst e'; exact absurd (linC.tr j.2 (ul s hs')) i.1
    · exact ih hl hs' ht'
end Pv

set_option Elab.async false
set_option linter.all false
set_option maxRecDepth 100000
set_option maxHeartbeats 0
namespace Pv.K08
open PySem PySem.Spec PyProof.Rows L2
theorem c0 : DefC prg 0 f0 (top 5) where
  np := by decide
  sc := by decide +kernel
  chk := by decide +kernel
  bnd := fun _ _ _ _ _ _ us hl => match us, hl with | [_], _ => rfl
  kwb := fun w hw hj => by
    simp only [prg, List.mem_cons, List.not_mem_nil, or_false] at hw
    rcases hw with rfl | rfl
    · cases hj
    · cases hj
theorem c1 : DefC prg 1 f1 (top 6) where
  np := by decide
  sc := by decide +kernel
  chk := by decide +kernel
  bnd := fun _ _ _ _ _ _ us hl => match us, hl with | [_, _, _], _ => rfl
  kwb := fun w hw hj => by
    simp only [prg, List.mem_cons, List.not_mem_nil, or_false] at hw
    rcases hw with rfl | rfl
    · cases hj
    · cases hj
theorem c2 : DefC prg 2 f2 (top 9) where
  np := by decide
  sc := by decide +kernel
  chk := by decide +kernel
  bnd := fun _ _ _ _ _ _ us hl => match us, hl with | [_, _], _ => rfl
  kwb := fun w hw hj => by
    simp only [prg, List.mem_cons, List.not_mem_nil, or_false] at hw
    rcases hw with rfl | rfl
    · cases hj
    · cases hj
theorem c3 : DefC prg 3 f3 (top 10) where
  np := by decide
  sc := by decide +kernel
  chk := by decide +kernel
  bnd := fun _ _ _ _ _ _ us hl => match us, hl with | [_, _], _ => rfl
  kwb := fun w hw hj => by
    simp only [prg, List.mem_cons, List.not_mem_nil, or_false] at hw
    rcases hw with rfl | rfl
    · cases hj
    · cases hj
theorem c4 : DefC prg 4 f4 (top 11) where
  np := by decide
  sc := by decide +kernel
  chk := by decide +kernel
  bnd := fun _ _ _ _ _ _ us hl => match us, hl with | [_], _ => rfl
  kwb := fun w hw hj => by
    simp only [prg, List.mem_cons, List.not_mem_nil, or_false] at hw
    rcases hw with rfl | rfl
    · cases hj
    · cases hj
theorem c5 : DefC prg 5 f5 (top 12) where
  np := by decide
  sc := by decide +kernel
  chk := by decide +kernel
  bnd := fun _ _ _ _ _ _ us hl => match us, hl with | [_], _ => rfl
  kwb := fun w hw hj => by
    simp only [prg, List.mem_cons, List.not_mem_nil, or_false] at hw
    rcases hw with rfl | rfl
    · cases hj
    · cases hj
theorem c6 : DefC prg 6 f6 (top 13) where
  np := by decide
  sc := by decide +kernel
  chk := by decide +kernel
  bnd := fun _ _ _ _ _ _ us hl => match us, hl with | [_, _], _ => rfl
  kwb := fun w hw hj => by
    simp only [prg, List.mem_cons, List.not_mem_nil, or_false] at hw
    rcases hw with rfl | rfl
    · cases hj
    · cases hj
theorem c7 : DefC prg 7 f7 (top 14) where
  np := by decide
  sc := by decide +kernel
  chk := by decide +kernel
  bnd := fun _ _ _ _ _ _ us hl => match us, hl with | [_, _], _ => rfl
  kwb := fun w hw hj => by
    simp only [prg, List.mem_cons, List.not_mem_nil, or_false] at hw
    rcases hw with rfl | rfl
    · cases hj
    · cases hj
theorem c8 : DefC prg 8 f8 (top 16) where
  np := by decide
  sc := by decide +kernel
  chk := by decide +kernel
  bnd := fun _ _ _ _ _ _ us hl => match us, hl with | [_, _], _ => rfl
  kwb := fun w hw hj => by
    simp only [prg, List.mem_cons, List.not_mem_nil, or_false] at hw
    rcases hw with rfl | rfl
    · cases hj
    · cases hj
theorem c9 : DefC prg 9 f9 (top 20) where
  np := by decide
  sc := by decide +kernel
  chk := by decide +kernel
  bnd := fun _ _ _ _ _ _ us hl => match us, hl with | [_], _ => rfl
  kwb := fun w hw hj => by
    simp only [prg, List.mem_cons, List.not_mem_nil, or_false] at hw
    rcases hw with rfl | rfl
    · cases hj
    · cases hj
theorem c10 : DefC prg 10 f10 (top 21) where
  np := by decide
  sc := by decide +kernel
  chk := by decide +kernel
  bnd := fun _ _ _ _ _ _ us hl => match us, hl with | [_], _ => rfl
  kwb := fun w hw hj => by
    simp only [prg, List.mem_cons, List.not_mem_nil, or_false] at hw
    rcases hw with rfl | rfl
    · cases hj
    · cases hj
theorem c11 : DefC prg 11 f11 (top 22) where
  np := by decide
  sc := by decide +kernel
  chk := by decide +kernel
  bnd := fun _ _ _ _ _ _ us hl => match us, hl with | [_], _ => rfl
  kwb := fun w hw hj => by
    simp only [prg, List.mem_cons, List.not_mem_nil, or_false] at hw
    rcases hw with rfl | rfl
    · cases hj
    · cases hj
theorem c12 : DefC prg 12 f12 (top 23) where
  np := by decide
  sc := by decide +kernel
  chk := by decide +kernel
  bnd := fun _ _ _ _ _ _ us hl => match us, hl with | [_, _, _], _ => rfl
  kwb := fun w hw hj => by
    simp only [prg, List.mem_cons, List.not_mem_nil, or_false] at hw
    rcases hw with rfl | rfl
    · cases hj
    · cases hj
theorem c13 : DefC prg 13 f13 (top 24) where
  np := by decide
  sc := by decide +kernel
  chk := by decide +kernel
  bnd := fun _ _ _ _ _ _ us hl => match us, hl with | [_, _, _, _, _], _ => rfl
  kwb := fun w hw hj => by
    simp only [prg, List.mem_cons, List.not_mem_nil, or_false] at hw
    rcases hw with rfl | rfl
    · cases hj
    · cases hj
theorem c14 : DefC prg 14 f14 (top 25) where
  np := by decide
  sc := by decide +kernel
  chk := by decide +kernel
  bnd := fun _ _ _ _ _ _ us hl => match us, hl with | [_, _, _], _ => rfl
  kwb := fun w hw hj => by
    simp only [prg, List.mem_cons, List.not_mem_nil, or_false] at hw
    rcases hw with rfl | rfl
    · cases hj
    · cases hj
theorem c15 : DefC prg 15 f15 (top 26) where
  np := by decide
  sc := by decide +kernel
  chk := by decide +kernel
  bnd := fun _ _ _ _ _ _ us hl => match us, hl with | [_], _ => rfl
  kwb := fun w hw hj => by
    simp only [prg, List.mem_cons, List.not_mem_nil, or_false] at hw
    rcases hw with rfl | rfl
    · cases hj
    · cases hj
theorem c16 : DefC prg 16 f16 (top 27) where
  np := by decide
  sc := by decide +kernel
  chk := by decide +kernel
  bnd := fun _ _ _ _ _ _ us hl => match us, hl with | [_], _ => rfl
  kwb := fun w hw hj => by
    simp only [prg, List.mem_cons, List.not_mem_nil, or_false] at hw
    rcases hw with rfl | rfl
    · cases hj
    · cases hj
theorem c17 : DefC prg 17 f17 (top 28) where
  np := by decide
  sc := by decide +kernel
  chk := by decide +kernel
  bnd := fun _ _ _ _ _ _ us hl => match us, hl with | [_, _, _, _], _ => rfl
  kwb := fun w hw hj => by
    simp only [prg, List.mem_cons, List.not_mem_nil, or_false] at hw
    rcases hw with rfl | rfl
    · cases hj
    · cases hj
theorem c18 : DefC prg 18 f18 (top 29) where
  np := by decide
  sc := by decide +kernel
  chk := by decide +kernel
  bnd := fun _ _ _ _ _ _ us hl => match us, hl with | [_], _ => rfl
  kwb := fun w hw hj => by
    simp only [prg, List.mem_cons, List.not_mem_nil, or_false] at hw
    rcases hw with rfl | rfl
    · cases hj
    · cases hj
theorem c19 : DefC prg 19 f19 (top 30) where
  np := by decide
  sc := by decide +kernel
  chk := by decide +kernel
  bnd := fun _ _ _ _ _ _ us hl => match us, hl with | [_, _, _, _], _ => rfl
  kwb := fun w hw hj => by
    simp only [prg, List.mem_cons, List.not_mem_nil, or_false] at hw
    rcases hw with rfl | rfl
    · cases hj
    · cases hj
theorem c20 : DefC prg 20 f20 (top 31) where
  np := by decide
  sc := by decide +kernel
  chk := by decide +kernel
  bnd := fun _ _ _ _ _ _ us hl => match us, hl with | [_], _ => rfl
  kwb := fun w hw hj => by
    simp only [prg, List.mem_cons, List.not_mem_nil, or_false] at hw
    rcases hw with rfl | rfl
    · cases hj
    · cases hj
theorem c21 : DefC prg 21 f21 (top 32) where
  np := by decide
  sc := by decide +kernel
  chk := by decide +kernel
  bnd := fun _ _ _ _ _ _ us hl => match us, hl with | [_, _], _ => rfl
  kwb := fun w hw hj => by
    simp only [prg, List.mem_cons, List.not_mem_nil, or_false] at hw
    rcases hw with rfl | rfl
    · cases hj
    · cases hj
theorem c22 : DefC prg 22 f22 (top 33) where
  np := by decide
  sc := by decide +kernel
  chk := by decide +kernel
  bnd := fun _ _ _ _ _ _ us hl => match us, hl with | [_, _], _ => rfl
  kwb := fun w hw hj => by
    simp only [prg, List.mem_cons, List.not_mem_nil, or_false] at hw
    rcases hw with rfl | rfl
    · cases hj
    · cases hj
theorem c23 : DefC prg 23 f23 (top 36) where
  np := by decide
  sc := by decide +kernel
  chk := by decide +kernel
  bnd := fun _ _ _ _ _ _ us hl => match us, hl with | [_, _], _ => rfl
  kwb := fun w hw hj => by
    simp only [prg, List.mem_cons, List.not_mem_nil, or_false] at hw
    rcases hw with rfl | rfl
    · cases hj
    · cases hj
theorem c24 : DefC prg 24 f24 (top 37) where
  np := by decide
  sc := by decide +kernel
  chk := by decide +kernel
  bnd := fun _ _ _ _ _ _ us hl => match us, hl with | [_, _], _ => rfl
  kwb := fun w hw hj => by
    simp only [prg, List.mem_cons, List.not_mem_nil, or_false] at hw
    rcases hw with rfl | rfl
    · cases hj
    · cases hj
theorem c25 : DefC prg 25 f25 (top 38) where
  np := by decide
  sc := by decide +kernel
  chk := by decide +kernel
  bnd := fun _ _ _ _ _ _ us hl => match us, hl with | [_, _], _ => rfl
  kwb := fun w hw hj => by
    simp only [prg, List.mem_cons, List.not_mem_nil, or_false] at hw
    rcases hw with rfl | rfl
    · cases hj
    · cases hj
theorem c26 : DefC prg 26 f26 (top 39) where
  np := by decide
  sc := by decide +kernel
  chk := by decide +kernel
  bnd := fun _ _ _ _ _ _ us hl => match us, hl with | [_, _], _ => rfl
  kwb := fun w hw hj => by
    simp only [prg, List.mem_cons, List.not_mem_nil, or_false] at hw
    rcases hw with rfl | rfl
    · cases hj
    · cases hj
theorem c27 : DefC prg 27 f27 (top 40) where
  np := by decide
  sc := by decide +kernel
  chk := by decide +kernel
  bnd := fun _ _ _ _ _ _ us hl => match us, hl with | [_, _], _ => rfl
  kwb := fun w hw hj => by
    simp only [prg, List.mem_cons, List.not_mem_nil, or_false] at hw
    rcases hw with rfl | rfl
    · cases hj
    · cases hj
theorem c28 : DefC prg 28 f28 (top 41) where
  np := by decide
  sc := by decide +kernel
  chk := by decide +kernel
  bnd := fun _ _ _ _ _ _ us hl => match us, hl with | [_, _], _ => rfl
  kwb := fun w hw hj => by
    simp only [prg, List.mem_cons, List.not_mem_nil, or_false] at hw
    rcases hw with rfl | rfl
    · cases hj
    · cases hj
theorem c29 : DefC prg 29 f29 (top 42) where
  np := by decide
  sc := by decide +kernel
  chk := by decide +kernel
  bnd := fun _ _ _ _ _ _ us hl => match us, hl with | [_], _ => rfl
  kwb := fun w hw hj => by
    simp only [prg, List.mem_cons, List.not_mem_nil, or_false] at hw
    rcases hw with rfl | rfl
    · cases hj
    · cases hj
theorem c30 : DefC prg 30 f30 (top 43) where
  np := by decide
  sc := by decide +kernel
  chk := by decide +kernel
  bnd := fun _ _ _ _ _ _ us hl => match us, hl with | [_], _ => rfl
  kwb := fun w hw hj => by
    simp only [prg, List.mem_cons, List.not_mem_nil, or_false] at hw
    rcases hw with rfl | rfl
    · cases hj
    · cases hj
theorem c31 : DefC prg 31 f31 (top 44) where
  np := by decide
  sc := by decide +kernel
  chk := by decide +kernel
  bnd := fun _ _ _ _ _ _ us hl => match us, hl with | [_], _ => rfl
  kwb := fun w hw hj => by
    simp only [prg, List.mem_cons, List.not_mem_nil, or_false] at hw
    rcases hw with rfl | rfl
    · cases hj
    · cases hj
theorem c32 : DefC prg 32 f32 (top 45) where
  np := by decide
  sc := by decide +kernel
  chk := by decide +kernel
  bnd := fun _ _ _ _ _ _ us hl => match us, hl with | [_], _ => rfl
  kwb := fun w hw hj => by
    simp only [prg, List.mem_cons, List.not_mem_nil, or_false] at hw
    rcases hw with rfl | rfl
    · cases hj
    · cases hj
theorem c33 : DefC prg 33 f33 (top 46) where
  np := by decide
  sc := by decide +kernel
  chk := by decide +kernel
  bnd := fun _ _ _ _ _ _ us hl => match us, hl with | [_, _], _ => rfl
  kwb := fun w hw hj => by
    simp only [prg, List.mem_cons, List.not_mem_nil, or_false] at hw
    rcases hw with rfl | rfl
    · cases hj
    · cases hj
theorem c34 : DefC prg 34 f34 (top 47) where
  np := by decide
  sc := by decide +kernel
  chk := by decide +kernel
  bnd := fun _ _ _ _ _ _ us hl => match us, hl with | [_], _ => rfl
  kwb := fun w hw hj => by
    simp only [prg, List.mem_cons, List.not_mem_nil, or_false] at hw
    rcases hw with rfl | rfl
    · cases hj
    · cases hj
theorem c35 : DefC prg 35 f35 (top 48) where
  np := by decide
  sc := by decide +kernel
  chk := by decide +kernel
  bnd := fun _ _ _ _ _ _ us hl => match us, hl with | [_, _], _ => rfl
  kwb := fun w hw hj => by
    simp only [prg, List.mem_cons, List.not_mem_nil, or_false] at hw
    rcases hw with rfl | rfl
    · cases hj
    · cases hj
theorem c36 : DefC prg 36 f36 (top 49) where
  np := by decide
  sc := by decide +kernel
  chk := by decide +kernel
  bnd := fun _ _ _ _ _ _ us hl => match us, hl with | [_, _], _ => rfl
  kwb := fun w hw hj => by
    simp only [prg, List.mem_cons, List.not_mem_nil, or_false] at hw
    rcases hw with rfl | rfl
    · cases hj
    · cases hj
theorem c37 : DefC prg 37 f37 (top 50) where
  np := by decide
  sc := by decide +kernel
  chk := by decide +kernel
  bnd := fun _ _ _ _ _ _ us hl => match us, hl with | [_, _], _ => rfl
  kwb := fun w hw hj => by
    simp only [prg, List.mem_cons, List.not_mem_nil, or_false] at hw
    rcases hw with rfl | rfl
    · cases hj
    · cases hj
theorem c38 : DefC prg 38 f38 (top 51) where
  np := by decide
  sc := by decide +kernel
  chk := by decide +kernel
  bnd := fun _ _ _ _ _ _ us hl => match us, hl with | [_, _], _ => rfl
  kwb := fun w hw hj => by
    simp only [prg, List.mem_cons, List.not_mem_nil, or_false] at hw
    rcases hw with rfl | rfl
    · cases hj
    · cases hj
theorem c39 : DefC prg 39 f39 (top 52) where
  np := by decide
  sc := by decide +kernel
  chk := by decide +kernel
  bnd := fun _ _ _ _ _ _ us hl => match us, hl with | [_, _], _ => rfl
  kwb := fun w hw hj => by
    simp only [prg, List.mem_cons, List.not_mem_nil, or_false] at hw
    rcases hw with rfl | rfl
    · cases hj
    · cases hj
theorem c40 : DefC prg 40 f40 (top 54) where
  np := by decide
  sc := by decide +kernel
  chk := by decide +kernel
  bnd := fun _ _ _ _ _ _ us hl => match us, hl with | [_, _], _ => rfl
  kwb := fun w hw hj => by
    simp only [prg, List.mem_cons, List.not_mem_nil, or_false] at hw
    rcases hw with rfl | rfl
    · intro _ _ _ _ _ _ us ws zs l1 l2 h
      match us, ws, l1, l2, h with
      | [], [_, _], _, _, h => cases h; rfl
    · cases hj
theorem c41 : DefC prg 41 f41 (top 55) where
  np := by decide
  sc := by decide +kernel
  chk := by decide +kernel
  bnd := fun _ _ _ _ _ _ us hl => match us, hl with | [_, _], _ => rfl
  kwb := fun w hw hj => by
    simp only [prg, List.mem_cons, List.not_mem_nil, or_false] at hw
    rcases hw with rfl | rfl
    · cases hj
    · intro _ _ _ _ _ _ us ws zs l1 l2 h
      match us, ws, l1, l2, h with
      | [], [_, _], _, _, h => cases h; rfl
theorem c42 : DefC prg 42 f42 (top 57) where
  np := by decide
  sc := by decide +kernel
  chk := by decide +kernel
  bnd := fun _ _ _ _ _ _ us hl => match us, hl with | [_, _], _ => rfl
  kwb := fun w hw hj => by
    simp only [prg, List.mem_cons, List.not_mem_nil, or_false] at hw
    rcases hw with rfl | rfl
    · cases hj
    · cases hj
theorem c43 : DefC prg 43 f43 (top 58) where
  np := by decide
  sc := by decide +kernel
  chk := by decide +kernel
  bnd := fun _ _ _ _ _ _ us hl => match us, hl with | [_, _], _ => rfl
  kwb := fun w hw hj => by
    simp only [prg, List.mem_cons, List.not_mem_nil, or_false] at hw
    rcases hw with rfl | rfl
    · cases hj
    · cases hj
theorem c44 : DefC prg 44 f44 (top 59) where
  np := by decide
  sc := by decide +kernel
  chk := by decide +kernel
  bnd := fun _ _ _ _ _ _ us hl => match us, hl with | [_, _], _ => rfl
  kwb := fun w hw hj => by
    simp only [prg, List.mem_cons, List.not_mem_nil, or_false] at hw
    rcases hw with rfl | rfl
    · cases hj
    · cases hj
theorem c45 : DefC prg 45 f45 (top 60) where
  np := by decide
  sc := by decide +kernel
  chk := by decide +kernel
  bnd := fun _ _ _ _ _ _ us hl => match us, hl with | [_, _, _], _ => rfl
  kwb := fun w hw hj => by
    simp only [prg, List.mem_cons, List.not_mem_nil, or_false] at hw
    rcases hw with rfl | rfl
    · cases hj
    · cases hj
theorem c46 : DefC prg 46 f46 (top 61) where
  np := by decide
  sc := by decide +kernel
  chk := by decide +kernel
  bnd := fun _ _ _ _ _ _ us hl => match us, hl with | [_, _], _ => rfl
  kwb := fun w hw hj => by
    simp only [prg, List.mem_cons, List.not_mem_nil, or_false] at hw
    rcases hw with rfl | rfl
    · cases hj
    · cases hj
theorem c47 : DefC prg 47 f47 (top 62) where
  np := by decide
  sc := by decide +kernel
  chk := by decide +kernel
  bnd := fun _ _ _ _ _ _ us hl => match us, hl with | [_, _], _ => rfl
  kwb := fun w hw hj => by
    simp only [prg, List.mem_cons, List.not_mem_nil, or_false] at hw
    rcases hw with rfl | rfl
    · cases hj
    · cases hj
theorem c48 : DefC prg 48 f48 (top 63) where
  np := by decide
  sc := by decide +kernel
  chk := by decide +kernel
  bnd := fun _ _ _ _ _ _ us hl => match us, hl with | [_, _], _ => rfl
  kwb := fun w hw hj => by
    simp only [prg, List.mem_cons, List.not_mem_nil, or_false] at hw
    rcases hw with rfl | rfl
    · cases hj
    · cases hj
theorem c49 : DefC prg 49 f49 (top 64) where
  np := by decide
  sc := by decide +kernel
  chk := by decide +kernel
  bnd := fun _ _ _ _ _ _ us hl => match us, hl with | [_], _ => rfl
  kwb := fun w hw hj => by
    simp only [prg, List.mem_cons, List.not_mem_nil, or_false] at hw
    rcases hw with rfl | rfl
    · cases hj
    · cases hj
theorem c50 : DefC prg 50 f50 (top 65) where
  np := by decide
  sc := by decide +kernel
  chk := by decide +kernel
  bnd := fun _ _ _ _ _ _ us hl => match us, hl with | [_], _ => rfl
  kwb := fun w hw hj => by
    simp only [prg, List.mem_cons, List.not_mem_nil, or_false] at hw
    rcases hw with rfl | rfl
    · cases hj
    · cases hj
theorem c51 : DefC prg 51 f51 (top 66) where
  np := by decide
  sc := by decide +kernel
  chk := by decide +kernel
  bnd := fun _ _ _ _ _ _ us hl => match us, hl with | [_, _, _], _ => rfl
  kwb := fun w hw hj => by
    simp only [prg, List.mem_cons, List.not_mem_nil, or_false] at hw
    rcases hw with rfl | rfl
    · cases hj
    · cases hj
theorem c52 : DefC prg 52 f52 (top 67) where
  np := by decide
  sc := by decide +kernel
  chk := by decide +kernel
  bnd := fun _ _ _ _ _ _ us hl => match us, hl with | [_, _, _, _, _], _ => rfl
  kwb := fun w hw hj => by
    simp only [prg, List.mem_cons, List.not_mem_nil, or_false] at hw
    rcases hw with rfl | rfl
    · cases hj
    · cases hj
theorem c53 : DefC prg 53 f53 (top 68) where
  np := by decide
  sc := by decide +kernel
  chk := by decide +kernel
  bnd := fun _ _ _ _ _ _ us hl => match us, hl with | [_], _ => rfl
  kwb := fun w hw hj => by
    simp only [prg, List.mem_cons, List.not_mem_nil, or_false] at hw
    rcases hw with rfl | rfl
    · cases hj
    · cases hj
theorem c54 : DefC prg 54 f54 (top 69) where
  np := by decide
  sc := by decide +kernel
  chk := by decide +kernel
  bnd := fun _ _ _ _ _ _ us hl => match us, hl with | [_, _], _ => rfl
  kwb := fun w hw hj => by
    simp only [prg, List.mem_cons, List.not_mem_nil, or_false] at hw
    rcases hw with rfl | rfl
    · cases hj
    · cases hj
theorem c55 : DefC prg 55 f55 (top 70) where
  np := by decide
  sc := by decide +kernel
  chk := by decide +kernel
  bnd := fun _ _ _ _ _ _ us hl => match us, hl with | [_, _], _ => rfl
  kwb := fun w hw hj => by
    simp only [prg, List.mem_cons, List.not_mem_nil, or_false] at hw
    rcases hw with rfl | rfl
    · cases hj
    · cases hj
theorem c56 : DefC prg 56 f56 (top 71) where
  np := by decide
  sc := by decide +kernel
  chk := by decide +kernel
  bnd := fun _ _ _ _ _ _ us hl => match us, hl with | [_, _], _ => rfl
  kwb := fun w hw hj => by
    simp only [prg, List.mem_cons, List.not_mem_nil, or_false] at hw
    rcases hw with rfl | rfl
    · cases hj
    · cases hj
theorem c57 : DefC prg 57 f57 (top 72) where
  np := by decide
  sc := by decide +kernel
  chk := by decide +kernel
  bnd := fun _ _ _ _ _ _ us hl => match us, hl with | [_], _ => rfl
  kwb := fun w hw hj => by
    simp only [prg, List.mem_cons, List.not_mem_nil, or_false] at hw
    rcases hw with rfl | rfl
    · cases hj
    · cases hj
theorem c58 : DefC prg 58 f58 (top 73) where
  np := by decide
  sc := by decide +kernel
  chk := by decide +kernel
  bnd := fun _ _ _ _ _ _ us hl => match us, hl with | [_], _ => rfl
  kwb := fun w hw hj => by
    simp only [prg, List.mem_cons, List.not_mem_nil, or_false] at hw
    rcases hw with rfl | rfl
    · cases hj
    · cases hj
theorem c59 : DefC prg 59 f59 (top 74) where
  np := by decide
  sc := by decide +kernel
  chk := by decide +kernel
  bnd := fun _ _ _ _ _ _ us hl => match us, hl with | [_, _], _ => rfl
  kwb := fun w hw hj => by
    simp only [prg, List.mem_cons, List.not_mem_nil, or_false] at hw
    rcases hw with rfl | rfl
    · cases hj
    · cases hj
theorem c60 : DefC prg 60 f60 (top 75) where
  np := by decide
  sc := by decide +kernel
  chk := by decide +kernel
  bnd := fun _ _ _ _ _ _ us hl => match us, hl with | [_, _], _ => rfl
  kwb := fun w hw hj => by
    simp only [prg, List.mem_cons, List.not_mem_nil, or_false] at hw
    rcases hw with rfl | rfl
    · cases hj
    · cases hj
theorem c61 : DefC prg 61 f61 (top 76) where
  np := by decide
  sc := by decide +kernel
  chk := by decide +kernel
  bnd := fun _ _ _ _ _ _ us hl => match us, hl with | [_], _ => rfl
  kwb := fun w hw hj => by
    simp only [prg, List.mem_cons, List.not_mem_nil, or_false] at hw
    rcases hw with rfl | rfl
    · cases hj
    · cases hj
theorem c62 : DefC prg 62 f62 (top 77) where
  np := by decide
  sc := by decide +kernel
  chk := by decide +kernel
  bnd := fun _ _ _ _ _ _ us hl => match us, hl with | [_, _, _], _ => rfl
  kwb := fun w hw hj => by
    simp only [prg, List.mem_cons, List.not_mem_nil, or_false] at hw
    rcases hw with rfl | rfl
    · cases hj
    · cases hj
theorem c63 : DefC prg 63 f63 (top 78) where
  np := by decide
  sc := by decide +kernel
  chk := by decide +kernel
  bnd := fun _ _ _ _ _ _ us hl => match us, hl with | [_], _ => rfl
  kwb := fun w hw hj => by
    simp only [prg, List.mem_cons, List.not_mem_nil, or_false] at hw
    rcases hw with rfl | rfl
    · cases hj
    · cases hj
theorem c64 : DefC prg 64 f64 (top 79) where
  np := by decide
  sc := by decide +kernel
  chk := by decide +kernel
  bnd := fun _ _ _ _ _ _ us hl => match us, hl with | [_], _ => rfl
  kwb := fun w hw hj => by
    simp only [prg, List.mem_cons, List.not_mem_nil, or_false] at hw
    rcases hw with rfl | rfl
    · cases hj
    · cases hj
theorem c65 : DefC prg 65 f65 (top 80) where
  np := by decide
  sc := by decide +kernel
  chk := by decide +kernel
  bnd := fun _ _ _ _ _ _ us hl => match us, hl with | [_, _], _ => rfl
  kwb := fun w hw hj => by
    simp only [prg, List.mem_cons, List.not_mem_nil, or_false] at hw
    rcases hw with rfl | rfl
    · cases hj
    · cases hj
theorem c66 : DefC prg 66 f66 (top 81) where
  np := by decide
  sc := by decide +kernel
  chk := by decide +kernel
  bnd := fun _ _ _ _ _ _ us hl => match us, hl with | [_], _ => rfl
  kwb := fun w hw hj => by
    simp only [prg, List.mem_cons, List.not_mem_nil, or_false] at hw
    rcases hw with rfl | rfl
    · cases hj
    · cases hj
theorem c67 : DefC prg 67 f67 (top 82) where
  np := by decide
  sc := by decide +kernel
  chk := by decide +kernel
  bnd := fun _ _ _ _ _ _ us hl => match us, hl with | [_, _], _ => rfl
  kwb := fun w hw hj => by
    simp only [prg, List.mem_cons, List.not_mem_nil, or_false] at hw
    rcases hw with rfl | rfl
    · cases hj
    · cases hj
theorem c68 : DefC prg 68 f68 (top 83) where
  np := by decide
  sc := by decide +kernel
  chk := by decide +kernel
  bnd := fun _ _ _ _ _ _ us hl => match us, hl with | [_], _ => rfl
  kwb := fun w hw hj => by
    simp only [prg, List.mem_cons, List.not_mem_nil, or_false] at hw
    rcases hw with rfl | rfl
    · cases hj
    · cases hj
theorem c69 : DefC prg 69 f69 (top 84) where
  np := by decide
  sc := by decide +kernel
  chk := by decide +kernel
  bnd := fun _ _ _ _ _ _ us hl => match us, hl with | [_, _, _], _ => rfl
  kwb := fun w hw hj => by
    simp only [prg, List.mem_cons, List.not_mem_nil, or_false] at hw
    rcases hw with rfl | rfl
    · cases hj
    · cases hj
theorem c70 : DefC prg 70 f70 (top 85) where
  np := by decide
  sc := by decide +kernel
  chk := by decide +kernel
  bnd := fun _ _ _ _ _ _ us hl => match us, hl with | [_, _, _], _ => rfl
  kwb := fun w hw hj => by
    simp only [prg, List.mem_cons, List.not_mem_nil, or_false] at hw
    rcases hw with rfl | rfl
    · cases hj
    · cases hj
theorem c71 : DefC prg 71 f71 (top 86) where
  np := by decide
  sc := by decide +kernel
  chk := by decide +kernel
  bnd := fun _ _ _ _ _ _ us hl => match us, hl with | [_, _], _ => rfl
  kwb := fun w hw hj => by
    simp only [prg, List.mem_cons, List.not_mem_nil, or_false] at hw
    rcases hw with rfl | rfl
    · cases hj
    · cases hj
theorem c72 : DefC prg 72 f72 (top 87) where
  np := by decide
  sc := by decide +kernel
  chk := by decide +kernel
  bnd := fun _ _ _ _ _ _ us hl => match us, hl with | [_, _], _ => rfl
  kwb := fun w hw hj => by
    simp only [prg, List.mem_cons, List.not_mem_nil, or_false] at hw
    rcases hw with rfl | rfl
    · cases hj
    · cases hj
theorem c73 : DefC prg 73 f73 (top 88) where
  np := by decide
  sc := by decide +kernel
  chk := by decide +kernel
  bnd := fun _ _ _ _ _ _ us hl => match us, hl with | [_, _], _ => rfl
  kwb := fun w hw hj => by
    simp only [prg, List.mem_cons, List.not_mem_nil, or_false] at hw
    rcases hw with rfl | rfl
    · cases hj
    · cases hj
theorem c74 : DefC prg 74 f74 (top 89) where
  np := by decide
  sc := by decide +kernel
  chk := by decide +kernel
  bnd := fun _ _ _ _ _ _ us hl => match us, hl with | [_, _], _ => rfl
  kwb := fun w hw hj => by
    simp only [prg, List.mem_cons, List.not_mem_nil, or_false] at hw
    rcases hw with rfl | rfl
    · cases hj
    · cases hj
theorem c75 : DefC prg 75 f75 (top 90) where
  np := by decide
  sc := by decide +kernel
  chk := by decide +kernel
  bnd := fun _ _ _ _ _ _ us hl => match us, hl with | [_], _ => rfl
  kwb := fun w hw hj => by
    simp only [prg, List.mem_cons, List.not_mem_nil, or_false] at hw
    rcases hw with rfl | rfl
    · cases hj
    · cases hj
theorem c76 : DefC prg 76 f76 (top 91) where
  np := by decide
  sc := by decide +kernel
  chk := by decide +kernel
  bnd := fun _ _ _ _ _ _ us hl => match us, hl with | [_], _ => rfl
  kwb := fun w hw hj => by
    simp only [prg, List.mem_cons, List.not_mem_nil, or_false] at hw
    rcases hw with rfl | rfl
    · cases hj
    · cases hj
theorem allc : ∀ (j : Nat) (g : Fn), prg.fns[j]? = some g → He.Fa.glo g.name ∈ fcs ∧ dds[j]? = some (ddOf g (tx j)) ∧ DefC prg j g (tx j) := by
  intro j g h
  match j, h with
  | 0, h => cases h; exact ⟨by unfold fcs; simp [f0], rfl, c0⟩
  | 1, h => cases h; exact ⟨by unfold fcs; simp [f1], rfl, c1⟩
  | 2, h => cases h; exact ⟨by unfold fcs; simp [f2], rfl, c2⟩
  | 3, h => cases h; exact ⟨by unfold fcs; simp [f3], rfl, c3⟩
  | 4, h => cases h; exact ⟨by unfold fcs; simp [f4], rfl, c4⟩
  | 5, h => cases h; exact ⟨by unfold fcs; simp [f5], rfl, c5⟩
  | 6, h => cases h; exact ⟨by unfold fcs; simp [f6], rfl, c6⟩
  | 7, h => cases h; exact ⟨by unfold fcs; simp [f7], rfl, c7⟩
  | 8, h => cases h; exact ⟨by unfold fcs; simp [f8], rfl, c8⟩
  | 9, h => cases h; exact ⟨by unfold fcs; simp [f9], rfl, c9⟩
  | 10, h => cases h; exact ⟨by unfold fcs; simp [f10], rfl, c10⟩
  | 11, h => cases h; exact ⟨by unfold fcs; simp [f11], rfl, c11⟩
  | 12, h => cases h; exact ⟨by unfold fcs; simp [f12], rfl, c12⟩
  | 13, h => cases h; exact ⟨by unfold fcs; simp [f13], rfl, c13⟩
  | 14, h => cases h; exact ⟨by unfold fcs; simp [f14], rfl, c14⟩
  | 15, h => cases h; exact ⟨by unfold fcs; simp [f15], rfl, c15⟩
  | 16, h => cases h; exact ⟨by unfold fcs; simp [f16], rfl, c16⟩
  | 17, h => cases h; exact ⟨by unfold fcs; simp [f17], rfl, c17⟩
  | 18, h => cases h; exact ⟨by unfold fcs; simp [f18], rfl, c18⟩
  | 19, h => cases h; exact ⟨by unfold fcs; simp [f19], rfl, c19⟩
  | 20, h => cases h; exact ⟨by unfold fcs; simp [f20], rfl, c20⟩
  | 21, h => cases h; exact ⟨by unfold fcs; simp [f21], rfl, c21⟩
  | 22, h => cases h; exact ⟨by unfold fcs; simp [f22], rfl, c22⟩
  | 23, h => cases h; exact ⟨by unfold fcs; simp [f23], rfl, c23⟩
  | 24, h => cases h; exact ⟨by unfold fcs; simp [f24], rfl, c24⟩
  | 25, h => cases h; exact ⟨by unfold fcs; simp [f25], rfl, c25⟩
  | 26, h => cases h; exact ⟨by unfold fcs; simp [f26], rfl, c26⟩
  | 27, h => cases h; exact ⟨by unfold fcs; simp [f27], rfl, c27⟩
  | 28, h => cases h; exact ⟨by unfold fcs; simp [f28], rfl, c28⟩
  | 29, h => cases h; exact ⟨by unfold fcs; simp [f29], rfl, c29⟩
  | 30, h => cases h; exact ⟨by unfold fcs; simp [f30], rfl, c30⟩
  | 31, h => cases h; exact ⟨by unfold fcs; simp [f31], rfl, c31⟩
  | 32, h => cases h; exact ⟨by unfold fcs; simp [f32], rfl, c32⟩
  | 33, h => cases h; exact ⟨by unfold fcs; simp [f33], rfl, c33⟩
  | 34, h => cases h; exact ⟨by unfold fcs; simp [f34], rfl, c34⟩
  | 35, h => cases h; exact ⟨by unfold fcs; simp [f35], rfl, c35⟩
  | 36, h => cases h; exact ⟨by unfold fcs; simp [f36], rfl, c36⟩
  | 37, h => cases h; exact ⟨by unfold fcs; simp [f37], rfl, c37⟩
  | 38, h => cases h; exact ⟨by unfold fcs; simp [f38], rfl, c38⟩
  | 39, h => cases h; exact ⟨by unfold fcs; simp [f39], rfl, c39⟩
  | 40, h => cases h; exact ⟨by unfold fcs; simp [f40], rfl, c40⟩
  | 41, h => cases h; exact ⟨by unfold fcs; simp [f41], rfl, c41⟩
  | 42, h => cases h; exact ⟨by unfold fcs; simp [f42], rfl, c42⟩
  | 43, h => cases h; exact ⟨by unfold fcs; simp [f43], rfl, c43⟩
  | 44, h => cases h; exact ⟨by unfold fcs; simp [f44], rfl, c44⟩
  | 45, h => cases h; exact ⟨by unfold fcs; simp [f45], rfl, c45⟩
  | 46, h => cases h; exact ⟨by unfold fcs; simp [f46], rfl, c46⟩
  | 47, h => cases h; exact ⟨by unfold fcs; simp [f47], rfl, c47⟩
  | 48, h => cases h; exact ⟨by unfold fcs; simp [f48], rfl, c48⟩
  | 49, h => cases h; exact ⟨by unfold fcs; simp [f49], rfl, c49⟩
  | 50, h => cases h; exact ⟨by unfold fcs; simp [f50], rfl, c50⟩
  | 51, h => cases h; exact ⟨by unfold fcs; simp [f51], rfl, c51⟩
  | 52, h => cases h; exact ⟨by unfold fcs; simp [f52], rfl, c52⟩
  | 53, h => cases h; exact ⟨by unfold fcs; simp [f53], rfl, c53⟩
  | 54, h => cases h; exact ⟨by unfold fcs; simp [f54], rfl, c54⟩
  | 55, h => cases h; exact ⟨by unfold fcs; simp [f55], rfl, c55⟩
  | 56, h => cases h; exact ⟨by unfold fcs; simp [f56], rfl, c56⟩
  | 57, h => cases h; exact ⟨by unfold fcs; simp [f57], rfl, c57⟩
  | 58, h => cases h; exact ⟨by unfold fcs; simp [f58], rfl, c58⟩
  | 59, h => cases h; exact ⟨by unfold fcs; simp [f59], rfl, c59⟩
  | 60, h => cases h; exact ⟨by unfold fcs; simp [f60], rfl, c60⟩
  | 61, h => cases h; exact ⟨by unfold fcs; simp [f61], rfl, c61⟩
  | 62, h => cases h; exact ⟨by unfold fcs; simp [f62], rfl, c62⟩
  | 63, h => cases h; exact ⟨by unfold fcs; simp [f63], rfl, c63⟩
  | 64, h => cases h; exact ⟨by unfold fcs; simp [f64], rfl, c64⟩
  | 65, h => cases h; exact ⟨by unfold fcs; simp [f65], rfl, c65⟩
  | 66, h => cases h; exact ⟨by unfold fcs; simp [f66], rfl, c66⟩
  | 67, h => cases h; exact ⟨by unfold fcs; simp [f67], rfl, c67⟩
  | 68, h => cases h; exact ⟨by unfold fcs; simp [f68], rfl, c68⟩
  | 69, h => cases h; exact ⟨by unfold fcs; simp [f69], rfl, c69⟩
  | 70, h => cases h; exact ⟨by unfold fcs; simp [f70], rfl, c70⟩
  | 71, h => cases h; exact ⟨by unfold fcs; simp [f71], rfl, c71⟩
  | 72, h => cases h; exact ⟨by unfold fcs; simp [f72], rfl, c72⟩
  | 73, h => cases h; exact ⟨by unfold fcs; simp [f73], rfl, c73⟩
  | 74, h => cases h; exact ⟨by unfold fcs; simp [f74], rfl, c74⟩
  | 75, h => cases h; exact ⟨by unfold fcs; simp [f75], rfl, c75⟩
  | 76, h => cases h; exact ⟨by unfold fcs; simp [f76], rfl, c76⟩
  | n + 77, h => simp [prg] at h
theorem cstc : ∀ p ∈ prg.csts, cstOk fcs tcs p := by
  intro p h
  simp only [prg, List.mem_cons, List.not_mem_nil, or_false] at h
  rcases h with rfl | rfl | rfl | rfl
  · exact .inl ⟨_, rfl, by unfold fcs; simp⟩
  · exact .inl ⟨_, rfl, by unfold fcs; simp⟩
  · exact .inl ⟨_, rfl, by unfold fcs; simp⟩
  · exact .inl ⟨_, rfl, by unfold fcs; simp⟩
theorem bic : ∀ x ∈ biNames, He.Fa.free x ∈ fcs := by
  intro x h
  simp only [biNames, List.mem_cons, List.not_mem_nil, or_false] at h
  rcases h with rfl | rfl | rfl | rfl | rfl | rfl | rfl | rfl | rfl | rfl | rfl | rfl | rfl | rfl | rfl | rfl | rfl | rfl | rfl | rfl | rfl <;> (unfold fcs; simp)
def depth : Nat := 40
theorem room : Room depth callerA := ⟨rfl, by decide, by decide⟩
/-- the row, from the evaluator's answer -/
theorem holds_of (hev : ∀ ns : List Int, ns.length ≤ 63 → (∀ z ∈ ns, Builtin.Int.intBits z ≤ 1048576) → ∃ S', callF prg depth 76 [scr ns] [] = some (.bl true, S')) : PySem.Challenge.rw_crossingstold_k08_whole_since_and_lasts.Holds := by
  open PySem PySem.W PySem.Calls PyProof.Rows in
  w_on; o_law
  refine HandSHeadRun.head_any (r := PySem.W.OpenLaw.row PySem.Challenge.rw_crossingstold_k08_whole_since_and_lasts) (q := PySem.W.view (PySem.W.OpenLaw.row PySem.Challenge.rw_crossingstold_k08_whole_since_and_lasts).prog [91]) (H := hk) (ob := ob) (M := 3800) (loose := loose) (d := HandSHeadRun.topDef (PySem.W.OpenLaw.row PySem.Challenge.rw_crossingstold_k08_whole_since_and_lasts).prog 91) (kwd := []) ob_eq
    (by kernel_rfl) (fun s => by kernel_rfl) run (by kernel_rfl) (by kernel_rfl) (by kernel_rfl) (by rfl) (by first | assumption | decide +kernel) (by decide +kernel) ⟨rfl, rfl, rfl, rfl, rfl, by decide +kernel⟩ ?hw ?hc
  case hw => w_witness2
  case hc =>
    refine walk_law (l := PySem.Challenge.rw_crossingstold_k08_whole_since_and_lasts) (n := 63) (k := depth) (j := 76) (x := "script") (P := prg) (g := f76) rfl rfl rfl rfl (by decide) (by kernel_rfl) room (fun w mg f h Y G hmg0 => ?_) hev
    · obtain ⟨K, KX, c⟩ := Y
      have hmg : mg ("law" : PySem.Str) = some (.ref f) := by
        have e : (HandSHeadRun.topDef (PySem.W.OpenLaw.row PySem.Challenge.rw_crossingstold_k08_whole_since_and_lasts).prog 91).name = ("law" : PySem.Str) := by kernel_rfl
        rw [← e]
        exact hmg0
      have PK := prgK_of (P := prg) (tx := tx) KX G c bic cstc allc
      have e := hmg.symm.trans (PK.fns 76 f76 rfl).nm
      cases e
      exact ⟨K, faOf prg K, KX, PK, rfl⟩
-- law: 76, at 91; loose: ['is_whole', 'is_tuple', 'common', 'fraction', 'whole', 'is_fraction', 'plus', 'less', 'times', 'root_floor', 'sign', 'square', 'sign_of_one', 'sign_of_two', 'discriminant', 'is_root', 'is_moment', 'moment_of_whole', 'scaled_up', 'moment_by', 'told_parts', 'compared_moments', 'shifted_by', 'low_edges', 'greater_low', 'lesser_high', 'greater_high', 'made', 'are_apart', 'is_stretch', 'is_stretches', 'check_stretches', 'check_length', 'put_in', 'joined_of', 'both_of', 'less_of', 'since_of', 'joined', 'less', 'since', 'lasts', '_law_pot', '_law_take', '_law_of', '_law_some', '_law_cells', '_law_common', '_law_fraction', '_law_root', '_law_sign', '_law_sign_one', '_law_sign_two', '_law_moment', '_law_compare', '_law_later', '_law_amid', '_law_sorted', '_law_told_stretches', '_law_is_in_stretch', '_law_has', '_law_put_together', '_law_by_rule', '_law_ends', '_law_joined', '_law_drawn_fraction', '_law_drawn_number', '_law_drawn_stretches', '_law_drawn_length', '_law_by_numbers', '_law_meets', '_law_is_on', '_law_own_since', '_law_is_same', '_law_touching', '_law_right']
end Pv.K08

set_option Elab.async false
set_option linter.all false
set_option maxRecDepth 100000
set_option maxHeartbeats 4000000
namespace Pv.K08
open PySem PySem.Spec PyProof.Rows L2
theorem s_is_whole {k : Nat} {S : Sto} {n : Int} : callF prg (k + 1) 0 [.int n] S = some (.bl true, S) := by
  rw [cf_s (g := f0) rfl]
  simp [f0, runF, L2.ixN, List.replicate]
theorem s_is_tuple {k : Nat} {S : Sto} {xs : List D} {a b : Int} : callF prg (k + 1) 1 [.tup xs, .int a, .int b] S = some (.bl (decide (a ≤ xs.length) && decide ((xs.length : Int) ≤ b)), S) := by
  rw [cf_s (g := f1) rfl]
  by_cases h : a ≤ xs.length <;> simp [f1, runF, L2.ixN, List.replicate, isNon, h]
theorem gcd_loop {k : Nat} {S : Sto} {a b : Int} (ha : 0 ≤ a) (hb : 0 ≤ b) (hs : Bd 1000000 b) :
    whl (cW prg (callF prg k) (.cmp .NotEq (.var 1) (.cst (.int 0)))) (bW prg (callF prg k) [.par [0, 1] [.var 1, .bin .Mod (.var 0) (.var 1)]]) most
      [some (false, .int a), some (false, .int b)] S = some (.nx [some (false, .int (Int.gcd a b)), some (false, .int 0)], S) := by
  obtain ⟨r1, S1, e, ⟨x, y, rfl, rfl, hx, hy, hg⟩, hc⟩ := whl_ind (c := cW prg (callF prg k) (.cmp .NotEq (.var 1) (.cst (.int 0)))) (b := bW prg (callF prg k) [.par [0, 1] [.var 1, .bin .Mod (.var 0) (.var 1)]])
    (fun r S' => ∃ x y : Int, r = [some (false, .int x), some (false, .int y)] ∧ S' = S ∧ 0 ≤ x ∧ 0 ≤ y ∧ Int.gcd x y = Int.gcd a b) (fun r _ => match r with | [_, some (_, .int y)] => y.natAbs | _ => 0) (fun r S' h => by
      obtain ⟨x, y, rfl, rfl, hx, hy, hg⟩ := h
      by_cases h0 : y = 0
      · left
        simp [runF, L2.ixN, List.replicate, h0]
      · right
        refine ⟨by simp [runF, L2.ixN, List.replicate, h0], [some (false, .int y), some (false, .int (x.fmod y))], _, by simp [runF, L2.ixN, List.replicate, b_mod h0], ⟨y, x.fmod y, rfl, rfl, hy, ?_, ?_⟩, ?_⟩
        · exact Int.fmod_nonneg_of_pos x (by omega)
        · rw [gcd_fmod]; exact hg
        · show (x.fmod y).natAbs < y.natAbs
          have h1 := Int.fmod_nonneg_of_pos x (b := y) (by omega)
          have h2 := Int.fmod_lt_of_pos x (b := y) (by omega)
          omega) most [some (false, .int a), some (false, .int b)] S ⟨a, b, rfl, rfl, ha, hb, rfl⟩ (lt_most hs (by decide))
  have hy0 : y = 0 := by
    by_cases h0 : y = 0
    · exact h0
    · simp [runF, L2.ixN, List.replicate, h0] at hc
  subst hy0
  rw [e]
  have : (Int.gcd x 0 : Int) = x := by
    rw [Int.gcd_zero_right]
    omega
  rw [← hg, this]
theorem s_common {k : Nat} {S : Sto} {a b : Int} (hs : Bd 1000000 b) : callF prg (k + 1) 2 [.int a, .int b] S = some (.int (Int.gcd a b), S) := by
  rw [cf_s (g := f2) rfl]
  have h := gcd_loop (k := k) (S := S) (a := a.natAbs) (b := b.natAbs) (by omega) (by omega) (hs.le (by simp))
  simp [f2, runF, L2.ixN, List.replicate, h]
  rfl

theorem s_fraction {k : Nat} {S : Sto} {a b : Int} (hb : 0 < b) (hs : Bd 8000 b) : callF prg (k + 2) 3 [.int a, .int b] S = some (fr a b, S) := by
  rw [cf_s (g := f3) rfl]
  have g0 := gcd_pos (a := a) hb
  have g1 := gcd_le (a := a) hb
  have d := szDiv_ok (j := (Int.gcd a b : Int)) (by omega) (hs.le (by omega))
  have e : ∀ x : Int, x.fdiv (Int.gcd a b : Int) = x / (Int.gcd a b : Int) := fun x => Int.fdiv_eq_ediv_of_nonneg x (by omega)
  simp [f3, runF, L2.ixN, List.replicate, s_common (k := k) (a := a) (hs.mono (by decide : 8000 ≤ 1000000)), hb, b_div d, e, fr]
theorem s_whole {k : Nat} {S : Sto} {n : Int} : callF prg (k + 1) 4 [.int n] S = some (.tup [.int n, .int 1], S) := by
  rw [cf_s (g := f4) rfl]
  simp [f4, runF, L2.ixN, List.replicate]
theorem s_plus {k : Nat} {S : Sto} {a b c d : Int} (hb : 0 < b) (hd : 0 < d) (sa : Bd 3000 a) (sb : Bd 3000 b) (sc : Bd 3000 c) (sd : Bd 3000 d) :
    callF prg (k + 3) 6 [.tup [.int a, .int b], .tup [.int c, .int d]] S = some (fr (a * d + c * b) (b * d), S) := by
  rw [cf_s (g := f6) rfl]
  simp [f6, runF, L2.ixN, List.replicate, b_mul (szMul_ok sa sd), b_mul (szMul_ok sc sb), b_mul (szMul_ok sb sd), s_fraction (k := k) (a := a * d + c * b) (Int.mul_pos hb hd) ((sb.mul sd).mono (by decide)), fr]
theorem s_less {k : Nat} {S : Sto} {a b c d : Int} (hb : 0 < b) (hd : 0 < d) (sa : Bd 3000 a) (sb : Bd 3000 b) (sc : Bd 3000 c) (sd : Bd 3000 d) :
    callF prg (k + 3) 7 [.tup [.int a, .int b], .tup [.int c, .int d]] S = some (fr (a * d - c * b) (b * d), S) := by
  rw [cf_s (g := f7) rfl]
  simp [f7, runF, L2.ixN, List.replicate, b_mul (szMul_ok sa sd), b_mul (szMul_ok sc sb), b_mul (szMul_ok sb sd), s_fraction (k := k) (a := a * d - c * b) (Int.mul_pos hb hd) ((sb.mul sd).mono (by decide)), fr]
theorem s_times {k : Nat} {S : Sto} {a b c d : Int} (hb : 0 < b) (hd : 0 < d) (sa : Bd 3000 a) (sb : Bd 3000 b) (sc : Bd 3000 c) (sd : Bd 3000 d) :
    callF prg (k + 3) 8 [.tup [.int a, .int b], .tup [.int c, .int d]] S = some (fr (a * c) (b * d), S) := by
  rw [cf_s (g := f8) rfl]
  simp [f8, runF, L2.ixN, List.replicate, b_mul (szMul_ok sa sc), b_mul (szMul_ok sb sd), s_fraction (k := k) (a := a * c) (Int.mul_pos hb hd) ((sb.mul sd).mono (by decide)), fr]

theorem s_is_fraction {k : Nat} {S : Sto} {a b : Int} (sb : Bd 1000000 b) : callF prg (k + 2) 5 [.tup [.int a, .int b]] S = some (.bl (decide (1 ≤ b) && decide (Int.gcd a b = 1)), S) := by
  rw [cf_s (g := f5) rfl]
  have e1 : ((Int.gcd a b : Int) = 1) = (Int.gcd a b = 1) := by
    apply propext
    omega
  have t := s_is_tuple (k := k) (S := S) (xs := [.int a, .int b]) (a := 2) (b := 2)
  simp at t
  by_cases h : 1 ≤ b <;> simp [f5, runF, L2.ixN, List.replicate, h, wipeR, compL, boolsOf, t, s_is_whole (k := k), s_common (k := k) sb, e1]
theorem s_is_fraction4 {k : Nat} {S : Sto} {a b c d : D} : callF prg (k + 2) 5 [.tup [a, b, c, d]] S = some (.bl false, S) := by
  rw [cf_s (g := f5) rfl]
  have t := s_is_tuple (k := k) (S := S) (xs := [a, b, c, d]) (a := 2) (b := 2)
  simp at t
  simp [f5, runF, L2.ixN, List.replicate, t]
theorem s_sign {k : Nat} {S : Sto} {n : Int} : callF prg (k + 1) 10 [.int n] S = some (.int n.sign, S) := by
  rw [cf_s (g := f10) rfl]
  by_cases h : 0 < n
  · simp [f10, runF, L2.ixN, List.replicate, h, Int.sign_eq_one_of_pos h]
  · by_cases h0 : n = 0
    · subst h0
      simp [f10, runF, L2.ixN, List.replicate]
    · simp [f10, runF, L2.ixN, List.replicate, h, h0, Int.sign_eq_neg_one_of_neg (show n < 0 by omega)]
theorem s_square {k : Nat} {S : Sto} {n : Int} (sn : Bd 400000 n) : callF prg (k + 1) 11 [.int n] S = some (.int (n * n.natAbs), S) := by
  rw [cf_s (g := f11) rfl]
  simp [f11, runF, L2.ixN, List.replicate, b_mul (szMul_ok sn (sn.le (j := (n.natAbs : Int)) (by simp)))]
theorem s_sign_of_one {k : Nat} {S : Sto} {c a d : Int} (sc : Bd 20000 c) (sa : Bd 20000 a) (sd : Bd 20000 d) : callF prg (k + 2) 12 [.int c, .int a, .int d] S = some (.int (c * c.natAbs + a * a.natAbs * d).sign, S) := by
  rw [cf_s (g := f12) rfl]
  have m := b_mul (szMul_ok (sa.mul (sa.le (j := (a.natAbs : Int)) (by simp))) sd)
  simp [f12, runF, L2.ixN, List.replicate, s_square (k := k) (sc.mono (by decide)), s_square (k := k) (sa.mono (by decide)), m, s_sign (k := k)]
theorem s_discriminant {k : Nat} {S : Sto} {a b c : Int} (sa : Bd 20000 a) (sb : Bd 20000 b) (sc : Bd 20000 c) : callF prg (k + 1) 14 [.int a, .int b, .int c] S = some (.int (b * b - 4 * a * c), S) := by
  rw [cf_s (g := f14) rfl]
  have s4 : Bd 3 4 := by unfold Bd; decide
  simp [f14, runF, L2.ixN, List.replicate, b_mul (szMul_ok sb sb), b_mul (szMul_ok s4 sa), b_mul (szMul_ok (s4.mul sa) sc)]
/-- root_floor gives the root's floor -/
theorem s_root_floor' {k : Nat} {S : Sto} {n : Int} (hn : 0 < n) (sn : Bd 4000 n) : ∃ m : Int, callF prg (k + 1) 9 [.int n] S = some (.int m, S) ∧ Bd 5000 m ∧ 0 ≤ m ∧ m * m ≤ n ∧ n < (m + 1) * (m + 1) := by
  rw [cf_s (g := f9) rfl]
  have bits : (Builtin.Int.intBits n : Int) ≤ 4001 := by
    have := bits_le n
    have := sn.log
    omega
  have sh : szShl 1 ((((Builtin.Int.intBits n : Nat) : Int) + 1) / 2) = true := by
    unfold szShl
    simp only [Bool.and_eq_true, decide_eq_true_eq]
    refine ⟨⟨by omega, by omega⟩, by decide⟩
  have e0 : binD .LShift (.int 1) (.int ((((Builtin.Int.intBits n : Nat) : Int) + 1) / 2)) = some (.int (1 * 2 ^ ((((Builtin.Int.intBits n : Nat) : Int) + 1) / 2).toNat)) := if_pos sh
  have d2 : szDiv 2 = true := by decide
  obtain ⟨f, hf⟩ : ∃ f : Int, f = 1 * 2 ^ ((((Builtin.Int.intBits n : Nat) : Int) + 1) / 2).toNat := ⟨_, rfl⟩
  have hf0 : 0 < f := by rw [hf, Int.one_mul]; exact Int.pow_pos (by decide)
  have hf1 : Bd 5000 f := by
    rw [hf, Int.one_mul]
    unfold Bd
    rw [Int.natAbs_pow]
    refine Nat.pow_lt_pow_right (by decide) ?_
    omega
  have hf2 : n < (f + 1) * (f + 1) := by
    have big := lt_bits (n := n) (by omega)
    have h2 : Builtin.Int.intBits n ≤ ((((Builtin.Int.intBits n : Nat) : Int) + 1) / 2).toNat + ((((Builtin.Int.intBits n : Nat) : Int) + 1) / 2).toNat := by omega
    have h3 := Nat.pow_le_pow_right (n := 2) (by decide) h2
    have h4 : (2 : Int) ^ Builtin.Int.intBits n ≤ f * f := by
      rw [hf, Int.one_mul, ← Int.pow_add]
      exact_mod_cast h3
    have h5 : (f + 1) * (f + 1) = f * f + f + f + 1 := by grind
    omega
  rw [← hf] at e0
  have dv : ∀ x : Int, 0 < x → Bd 5000 x → binD .FloorDiv (.int n) (.int x) = some (.int (n / x)) := fun x h0 h1 => by
    rw [b_div (szDiv_ok (by omega) h1), Int.fdiv_eq_ediv_of_nonneg _ (by omega)]
  have dv2 : ∀ x : Int, binD .FloorDiv (.int x) (.int 2) = some (.int (x / 2)) := fun x => by
    rw [b_div d2, Int.fdiv_eq_ediv_of_nonneg _ (by decide)]
  obtain ⟨r1, S1, e, ⟨x, rfl, rfl, hx, hx1, hx2⟩, hc⟩ := whl_ind (c := cW prg (callF prg k) (.cmp .Lt (.var 2) (.var 1)))
    (b := bW prg (callF prg k) [.set 1 (.var 2), .set 2 (.bin .FloorDiv (.bin .Add (.var 1) (.bin .FloorDiv (.var 0) (.var 1))) (.glb 1))])
    (fun r S' => ∃ x : Int, r = [some (false, .int n), some (false, .int x), some (false, .int ((x + n / x) / 2))] ∧ S' = S ∧ 0 < x ∧ Bd 5000 x ∧ n < (x + 1) * (x + 1)) (fun r _ => match r with | [_, some (_, .int y), _] => y.natAbs | _ => 0) (fun r S' h => by
      obtain ⟨x, rfl, rfl, hx, hx1, hx2⟩ := h
      by_cases h0 : (x + n / x) / 2 < x
      · right
        have hn0 : 0 ≤ n / x := Int.ediv_nonneg (by omega) (by omega)
        have hy : 0 < (x + n / x) / 2 := by
          by_cases h1 : x = 1
          · subst h1
            rw [Int.ediv_one]
            omega
          · omega
        have hy1 : Bd 5000 ((x + n / x) / 2) := hx1.le (by omega)
        refine ⟨by simp [runF, L2.ixN, List.replicate, h0], [some (false, .int n), some (false, .int ((x + n / x) / 2)), some (false, .int (((x + n / x) / 2 + n / ((x + n / x) / 2)) / 2))], S', by simp [runF, L2.ixN, List.replicate, dv _ hy hy1, dv2], ⟨_, rfl, rfl, hy, hy1, newton hx (by omega)⟩, ?_⟩
        show ((x + n / x) / 2).natAbs < x.natAbs
        omega
      · left
        simp [runF, L2.ixN, List.replicate, h0]) most [some (false, .int n), some (false, .int f), some (false, .int ((f + n / f) / 2))] S ⟨f, rfl, rfl, hf0, hf1, hf2⟩ (lt_most hf1 (by decide))
  have hlast : x ≤ n / x := by
    by_cases h0 : (x + n / x) / 2 < x
    · simp [runF, L2.ixN, List.replicate, h0] at hc
    · omega
  have hxx : x * x ≤ n := by
    have h1 := Int.mul_le_mul_of_nonneg_left hlast (Int.le_of_lt hx)
    have h2 := Int.mul_ediv_self_le (x := n) (k := x) (by omega)
    omega
  refine ⟨x, ?_, hx1, by omega, hxx, hx2⟩
  have hn1 : n ≠ 0 := by omega
  simp [f9, runF, L2.ixN, List.replicate, hn1, e0, dv2, dv f hf0 hf1, e]

theorem s_root_floor {k : Nat} {S : Sto} {n : Int} (hn : 0 < n) (sn : Bd 4000 n) : ∃ m : Int, callF prg (k + 1) 9 [.int n] S = some (.int m, S) ∧ Bd 5000 m := by
  obtain ⟨m, h1, h2, _⟩ := s_root_floor' (k := k) (S := S) hn sn
  exact ⟨m, h1, h2⟩
theorem s_is_root {k m : Nat} {S : Sto} {a b c s : Int} (R : Rt m a b c s) (hm : m ≤ 1500) : callF prg (k + 2) 15 [.tup [.int a, .int b, .int c, .int s]] S = some (.bl true, S) := by
  rw [cf_s (g := f15) rfl]
  have t := s_is_tuple (k := k) (S := S) (xs := [.int a, .int b, .int c, .int s]) (a := 4) (b := 4)
  simp at t
  obtain ⟨w, hw, hw1⟩ := s_root_floor (k := k) (S := S) R.pos (R.bdisc.mono (by omega))
  have d := s_discriminant (k := k) (S := S) (R.ba.mono (by omega)) (R.bb.mono (by omega)) (R.bc.mono (by omega))
  have n1 : ¬ a < 1 := by have := R.a1; omega
  have g : ((Int.gcd (Int.gcd a b) c : Int) = 1) := by rw [R.g1]; rfl
  have ns := R.nsq w
  have ps : 4 * a * c < b * b := by have := R.pos; omega
  have nin : cmpD .NotIn (.int s) (.tup [.int 1, .int (-1)]) = some false := by
    rcases R.s1 with h | h <;> rw [h] <;> rfl
  simp [f15, runF, L2.ixN, List.replicate, t, wipeR, compL, boolsOf, s_is_whole (k := k), n1, nin, s_common (k := k) (a := a) (R.bb.mono (by omega)), s_common (k := k) (b := c) (R.bc.mono (by omega)), g, d, hw, b_mul (szMul_ok hw1 hw1), ns, ps]

theorem s_is_moment_r {k m : Nat} {S : Sto} {a b c s : Int} (R : Rt m a b c s) (hm : m ≤ 1500) : callF prg (k + 3) 16 [.tup [.int a, .int b, .int c, .int s]] S = some (.bl true, S) := by
  rw [cf_s (g := f16) rfl]
  simp [f16, runF, L2.ixN, List.replicate, s_is_fraction4 (k := k), s_is_root (k := k) R hm]
theorem s_is_fraction_t {k m : Nat} {S : Sto} {a b : Int} (R : Fr m a b) (hm : m ≤ 1500) : callF prg (k + 2) 5 [.tup [.int a, .int b]] S = some (.bl true, S) := by
  rw [s_is_fraction (R.bb.mono (by omega))]
  simp [R.b1, R.g1]
theorem s_moment_of_whole {k m : Nat} {S : Sto} {a b c s : Int} (ha : 0 < a) (pos : 0 < b * b - 4 * a * c) (nsq : Nsq (b * b - 4 * a * c)) (ba : Bd m a) (bb : Bd m b) (bc : Bd m c) (hm : m ≤ 1500) :
    callF prg (k + 2) 17 [.int a, .int b, .int c, .int s] S = some (prim a b c s, S) := by
  rw [cf_s (g := f17) rfl]
  have bd : Bd (2 * m + 4) (b * b - 4 * a * c) := (bb.mul bb).sub ((bd4.mul ba).mul bc) (by omega) (by omega)
  obtain ⟨w, hw, hw1⟩ := s_root_floor (k := k) (S := S) pos (bd.mono (by omega))
  have d := s_discriminant (k := k) (S := S) (ba.mono (by omega)) (bb.mono (by omega)) (bc.mono (by omega))
  have ns := nsq w
  have n1 : ¬ a = 0 := by omega
  have n2 : ¬ a < 0 := by omega
  have n3 : ¬ b * b - 4 * a * c < 0 := by omega
  have n4 : ¬ b * b < 4 * a * c := by omega
  have g0 := gcd3_pos (b := b) (c := c) ha
  have g1 := gcd3_le (b := b) (c := c) ha
  have dv : ∀ x : Int, binD .FloorDiv (.int x) (.int (Int.gcd (Int.gcd a b) c : Int)) = some (.int (x / (Int.gcd (Int.gcd a b) c : Int))) := fun x => by
    rw [b_div (szDiv_ok (by omega) ((ba.le (j := (Int.gcd (Int.gcd a b) c : Int)) (by omega)).mono (by omega : m ≤ 8000))), Int.fdiv_eq_ediv_of_nonneg _ (by omega)]
  simp [f17, runF, L2.ixN, List.replicate, n1, n2, n3, n4, d, hw, b_mul (szMul_ok hw1 hw1), ns, s_common (k := k) (a := a) (bb.mono (by omega)), s_common (k := k) (b := c) (bc.mono (by omega)), dv, prim]
/-- what both divide -/
def mul2 (b d : Int) : Int := b / Int.gcd b d * d
theorem mul2_pos {b d : Int} (hb : 0 < b) (hd : 0 < d) : 0 < mul2 b d := by
  have g0 := gcd_pos (a := b) hd
  have h1 : 0 < b / (Int.gcd b d : Int) := Int.ediv_pos_of_pos_of_dvd hb (by omega) (Int.gcd_dvd_left b d)
  exact Int.mul_pos h1 hd
theorem mul2_r {b d : Int} : d ∣ mul2 b d := Int.dvd_mul_left _ _
theorem mul2_l {b d : Int} : b ∣ mul2 b d := by
  obtain ⟨x, hx⟩ := Int.gcd_dvd_left b d
  obtain ⟨y, hy⟩ := Int.gcd_dvd_right b d
  unfold mul2
  by_cases h : (Int.gcd b d : Int) = 0
  · rw [h, Int.ediv_zero, Int.zero_mul]
    exact Int.dvd_zero b
  · have e : b / (Int.gcd b d : Int) = x := Int.ediv_eq_of_eq_mul_right h hx
    rw [e]
    refine ⟨y, ?_⟩
    calc x * d = d * x := Int.mul_comm _ _
      _ = (Int.gcd b d : Int) * y * x := by rw [← hy]
      _ = (Int.gcd b d : Int) * x * y := Int.mul_right_comm _ _ _
      _ = b * y := by rw [← hx]
theorem mul2_bd {m n : Nat} {b d : Int} (hb : 0 < b) (hd : 0 < d) (h1 : Bd m b) (h2 : Bd n d) : Bd (m + n) (mul2 b d) := by
  have g0 := gcd_pos (a := b) hd
  have h3 : b / (Int.gcd b d : Int) ≤ b := Int.ediv_le_self _ (by omega)
  have h4 : 0 ≤ b / (Int.gcd b d : Int) := Int.ediv_nonneg (by omega) (by omega)
  exact (h1.le (by omega)).mul h2
theorem s_scaled_up {k m : Nat} {S : Sto} {a1 d1 a2 d2 a3 d3 : Int} (p1 : 0 < d1) (p2 : 0 < d2) (p3 : 0 < d3) (b1 : Bd m d1) (b2 : Bd m d2) (b3 : Bd m d3) (c1 : Bd m a1) (c2 : Bd m a2) (c3 : Bd m a3) (hm : m ≤ 300) :
    ∃ L : Int, 0 < L ∧ d1 ∣ L ∧ d2 ∣ L ∧ d3 ∣ L ∧ Bd (3 * m + 1) L ∧ callF prg (k + 2) 18 [.lst [.tup [.int a1, .int d1], .tup [.int a2, .int d2], .tup [.int a3, .int d3]]] S = some (.lst [.int (a1 * (L / d1)), .int (a2 * (L / d2)), .int (a3 * (L / d3))], S) := by
  have l2 : 0 < mul2 d1 d2 := mul2_pos p1 p2
  have l3 : 0 < mul2 (mul2 d1 d2) d3 := mul2_pos l2 p3
  have w2 : Bd (m + m) (mul2 d1 d2) := mul2_bd p1 p2 b1 b2
  have w3 : Bd (m + m + m) (mul2 (mul2 d1 d2) d3) := mul2_bd l2 p3 w2 b3
  refine ⟨mul2 (mul2 d1 d2) d3, l3, Int.dvd_trans mul2_l mul2_l, Int.dvd_trans mul2_r mul2_l, mul2_r, w3.mono (by omega), ?_⟩
  rw [cf_s (g := f18) rfl]
  have st : ∀ {b d : Int} {i j : Nat}, 0 < b → 0 < d → Bd i b → Bd m d → i ≤ 1000 → binD .FloorDiv (.int b) (.int (Int.gcd b d : Int)) = some (.int (b / (Int.gcd b d : Int))) ∧ binD .Mult (.int (b / (Int.gcd b d : Int))) (.int d) = some (.int (mul2 b d)) := by
    intro b d i j hb hd h1 h2 hi
    have g0 := gcd_pos (a := b) hd
    have g1 := gcd_le (a := b) hd
    refine ⟨?_, ?_⟩
    · rw [b_div (szDiv_ok (by omega) ((h2.le (j := (Int.gcd b d : Int)) (by omega)).mono (by omega : m ≤ 8000))), Int.fdiv_eq_ediv_of_nonneg _ (by omega)]
    · have h3 : b / (Int.gcd b d : Int) ≤ b := Int.ediv_le_self _ (by omega)
      have h4 : 0 ≤ b / (Int.gcd b d : Int) := Int.ediv_nonneg (by omega) (by omega)
      rw [b_mul (szMul_ok ((h1.le (j := b / (Int.gcd b d : Int)) (by omega)).mono hi) (h2.mono (by omega : m ≤ 1000)))]
      rfl
  have x1 : binD .FloorDiv (.int 1) (.int 1) = some (.int 1) := rfl
  have y1 : binD .Mult (.int 1) (.int d1) = some (.int (1 * d1)) := b_mul (szMul_ok bd1 (b1.mono (by omega : m ≤ 1000)))
  obtain ⟨x2, y2⟩ := st (j := 0) p1 p2 b1 b2 (by omega)
  obtain ⟨x3, y3⟩ := st (j := 0) l2 p3 w2 b3 (by omega)
  have dv : ∀ {d : Int}, 0 < d → Bd m d → binD .FloorDiv (.int (mul2 (mul2 d1 d2) d3)) (.int d) = some (.int (mul2 (mul2 d1 d2) d3 / d)) ∧ Bd 1000 (mul2 (mul2 d1 d2) d3 / d) := by
    intro d hd hb
    refine ⟨?_, ?_⟩
    · rw [b_div (szDiv_ok (by omega) (hb.mono (by omega : m ≤ 8000))), Int.fdiv_eq_ediv_of_nonneg _ (by omega)]
    · have h3 : mul2 (mul2 d1 d2) d3 / d ≤ mul2 (mul2 d1 d2) d3 := Int.ediv_le_self _ (by omega)
      have h4 : 0 ≤ mul2 (mul2 d1 d2) d3 / d := Int.ediv_nonneg (by omega) (by omega)
      exact (w3.le (by omega)).mono (by omega)
  obtain ⟨e1, t1⟩ := dv p1 b1
  obtain ⟨e2, t2⟩ := dv p2 b2
  obtain ⟨e3, t3⟩ := dv p3 b3
  simp [f18, runF, L2.ixN, List.replicate, forL_c, wipeR, s_common (k := k) (b := d1) (b1.mono (by omega)), s_common (k := k) (b := d2) (b2.mono (by omega)), s_common (k := k) (b := d3) (b3.mono (by omega)), x1, y1, x2, y2, x3, y3, e1, e2, e3,
    b_mul (szMul_ok (c1.mono (by omega : m ≤ 1000)) t1), b_mul (szMul_ok (c2.mono (by omega : m ≤ 1000)) t2), b_mul (szMul_ok (c3.mono (by omega : m ≤ 1000)) t3)]
end Pv.K08

set_option Elab.async false
set_option linter.all false
set_option maxRecDepth 100000
set_option maxHeartbeats 4000000
namespace Pv.K08
open PySem PySem.Spec PyProof.Rows L2
theorem s_sign_of_two {k : Nat} {S : Sto} {c a d b e : Int} (bc : Bd 2000 c) (ba : Bd 2000 a) (bd : Bd 2000 d) (bb : Bd 2000 b) (be : Bd 2000 e) :
    callF prg (k + 3) 13 [.int c, .int a, .int d, .int b, .int e] S = some (.int (sgG c a d b e), S) := by
  rw [cf_s (g := f13) rfl]
  have na : Bd 2000 (a.natAbs : Int) := ba.le (by simp)
  have nb : Bd 2000 (b.natAbs : Int) := bb.le (by simp)
  have m1 := b_mul (szMul_ok (ba.mul na) bd)
  have m2 := b_mul (szMul_ok (bb.mul nb) be)
  have m3 := b_mul (szMul_ok ba ba)
  have m4 := b_mul (szMul_ok (ba.mul ba) bd)
  have m5 := b_mul (szMul_ok bb bb)
  have m6 := b_mul (szMul_ok (bb.mul bb) be)
  have m7 := b_mul (szMul_ok bc bc)
  have m8 := b_mul (szMul_ok bd2 ba)
  have m9 := b_mul (szMul_ok (bd2.mul ba) bb)
  have m10 := b_mul (szMul_ok bd be)
  have sA := s_square (k := k + 1) (S := S) (ba.mono (by decide))
  have sB := s_square (k := k + 1) (S := S) (bb.mono (by decide))
  have b1 : Bd 6001 (a * a * d + b * b * e) := ((ba.mul ba).mul bd).add ((bb.mul bb).mul be) (by omega) (by omega)
  have b2 : Bd 7000 (a * a * d + b * b * e - c * c) := b1.sub (bc.mul bc) (by omega) (by omega)
  have sO := s_sign_of_one (k := k) (S := S) (b2.mono (by decide)) (((bd2.mul ba).mul bb).mono (by decide : 2 + 2000 + 2000 ≤ 20000)) ((bd.mul be).mono (by decide : 2000 + 2000 ≤ 20000))
  have eO : (((a * a * d + b * b * e - c * c) * ((a * a * d + b * b * e - c * c).natAbs : Int) + 2 * a * b * ((2 * a * b).natAbs : Int) * (d * e)).sign) = sq1 (a * a * d + b * b * e - c * c) (2 * a * b) (d * e) := rfl
  rw [eO] at sO
  have eR : (a * (a.natAbs : Int) * d + b * (b.natAbs : Int) * e).sign = rts a d b e := rfl
  have sR := s_sign (k := k + 1) (S := S) (n := a * (a.natAbs : Int) * d + b * (b.natAbs : Int) * e)
  rw [eR] at sR
  have sC := s_sign (k := k + 1) (S := S) (n := c)
  have bR : Bd 1 (rts a d b e) := bsign _
  have m11 := b_mul (szMul_ok bR (bsign ((a * a * d + b * b * e - c * c) * ((a * a * d + b * b * e - c * c).natAbs : Int) + 2 * a * b * ((2 * a * b).natAbs : Int) * (d * e))))
  rw [eO] at m11
  unfold sgG
  generalize rts a d b e = R at *
  generalize sq1 (a * a * d + b * b * e - c * c) (2 * a * b) (d * e) = Z at *
  by_cases hc : c = 0
  · subst hc
    simp [f13, runF, L2.ixN, List.replicate, sA, sB, m1, m2, sR]
  · by_cases hr : R = 0
    · subst hr
      simp [f13, runF, L2.ixN, List.replicate, sA, sB, m1, m2, sR, hc, sC]
    · by_cases hs : R = c.sign
      · subst hs
        simp [f13, runF, L2.ixN, List.replicate, sA, sB, m1, m2, sR, hc, sC]
      · simp [f13, runF, L2.ixN, List.replicate, sA, sB, m1, m2, m3, m4, m5, m6, m7, m8, m9, m10, m11, sR, hc, hr, hs, sC, sO]
theorem s_told_parts {k m : Nat} {S : Sto} {x : Mo} (hx : x.ok m) (hm : m ≤ 1000) : callF prg (k + 2) 20 [x.d] S = some (.tup [.int x.p, .int x.q, .int (x.e 1), .int x.w], S) := by
  rw [cf_s (g := f20) rfl]
  cases x with
  | f u v => simp [f20, runF, L2.ixN, List.replicate, Mo.d, Mo.p, Mo.q, Mo.e, Mo.w]
  | r a b c s =>
    have d := s_discriminant (k := k) (S := S) (hx.ba.mono (by omega)) (hx.bb.mono (by omega)) (hx.bc.mono (by omega))
    simp [f20, runF, L2.ixN, List.replicate, Mo.d, Mo.p, Mo.q, Mo.e, Mo.w, d, b_mul (szMul_ok bd2 (hx.ba.mono (by omega : m ≤ 1000)))]

theorem mo_eq {x y : Mo} : cmpD .Eq x.d y.d = some (decide (x = y)) := by
  cases x <;> cases y
  · show some (eqD _ _) = _
    simp [Mo.d, eqD, eqDs]
  · show some (eqD _ _) = _
    simp [Mo.d, eqD, eqDs]
  · show some (eqD _ _) = _
    simp [Mo.d, eqD, eqDs]
  · show some (eqD _ _) = _
    simp [Mo.d, eqD, eqDs]
theorem mo_p {m : Nat} {x : Mo} (hx : x.ok m) : Bd m x.p := by
  cases x with
  | f u v => exact hx.ba
  | r a b c s => exact hx.bb.neg
theorem mo_w {m : Nat} {x : Mo} (hx : x.ok m) : Bd (m + 2) x.w := by
  cases x with
  | f u v => exact hx.bb.mono (by omega)
  | r a b c s => exact (bd2.mul hx.ba).mono (by omega)
theorem mo_q {m : Nat} {x : Mo} (hx : x.ok m) : Bd 1 x.q := by
  cases x with
  | f u v => exact bd0
  | r a b c s => exact hx.bs
theorem mo_e {m : Nat} {x : Mo} (hx : x.ok m) : Bd (2 * m + 4) (x.e 1) := by
  cases x with
  | f u v => exact bd1.mono (by omega)
  | r a b c s => exact hx.bdisc
theorem s_compared_moments {k m : Nat} {S : Sto} {x y : Mo} (hx : x.ok m) (hy : y.ok m) (hm : m ≤ 900) : callF prg (k + 4) 21 [x.d, y.d] S = some (.int (cmpM x y), S) := by
  rw [cf_s (g := f21) rfl]
  by_cases h : x = y
  · subst h
    have dx : ∀ S, deB S x.d = x.d := fun S => by cases x <;> rfl
    simp [f21, runF, L2.ixN, List.replicate, dx, mo_eq, cmpM_self]
  · have dx : ∀ S, deB S x.d = x.d := fun S => by cases x <;> rfl
    have dy : ∀ S, deB S y.d = y.d := fun S => by cases y <;> rfl
    have up : ∀ {i : Nat} {z : Int}, Bd i z → i ≤ 2000 → Bd 2000 z := fun h e => h.mono e
    have M : ∀ {z t : Int}, Bd 2000 z → Bd 2000 t → binD .Mult (.int z) (.int t) = some (.int (z * t)) := fun h q => b_mul (szMul_ok h q)
    have b1 : Bd 2000 (x.p * y.w - y.p * x.w) := ((mo_p hx).mul (mo_w hy)).sub ((mo_p hy).mul (mo_w hx)) (by omega) (by omega)
    have ss := s_sign_of_two (k := k) (S := S) b1 (up ((mo_q hx).mul (mo_w hy)) (by omega)) (up (mo_e hx) (by omega)) (up ((mo_q hy).neg.mul (mo_w hx)) (by omega)) (up (mo_e hy) (by omega))
    have eG : sgG (x.p * y.w - y.p * x.w) (x.q * y.w) (x.e 1) (-y.q * x.w) (y.e 1) = cmpM x y := rfl
    rw [eG] at ss
    have m1 := M (up (mo_p hx) (by omega)) (up (mo_w hy) (by omega))
    have m2 := M (up (mo_p hy) (by omega)) (up (mo_w hx) (by omega))
    have m3 := M (up (mo_q hx) (by omega)) (up (mo_w hy) (by omega))
    have m4 := M (up (mo_q hy).neg (by omega)) (up (mo_w hx) (by omega))
    simp only [Int.neg_mul] at ss m4
    simp [f21, runF, L2.ixN, List.replicate, dx, dy, mo_eq, h, s_told_parts (k := k + 1) hx (by omega), s_told_parts (k := k + 1) hy (by omega), m1, m2, m3, m4, ss]
end Pv.K08

set_option Elab.async false
set_option linter.all false
set_option maxRecDepth 100000
set_option maxHeartbeats 4000000
namespace Pv.K08
open PySem PySem.Spec PyProof.Rows L2
theorem s_moment_by {k m : Nat} {S : Sto} {X A B C s a1 d1 a2 d2 a3 d3 : Int} (hX : 0 < X) (hA : 0 < A) (p1 : 0 < d1) (p2 : 0 < d2) (p3 : 0 < d3) (b1 : Bd m d1) (b2 : Bd m d2) (b3 : Bd m d3) (c1 : Bd m a1) (c2 : Bd m a2) (c3 : Bd m a3) (hm : m ≤ 300)
    (e1 : a1 * X = A * d1) (e2 : a2 * X = B * d2) (e3 : a3 * X = C * d3) (pos : 0 < B * B - 4 * A * C) (nsq : Nsq (B * B - 4 * A * C)) :
    callF prg (k + 3) 19 [.tup [.int a1, .int d1], .tup [.int a2, .int d2], .tup [.int a3, .int d3], .int s] S = some (prim A B C s, S) := by
  obtain ⟨L, hL, l1, l2, l3, bL, eL⟩ := s_scaled_up (k := k) (S := S) p1 p2 p3 b1 b2 b3 c1 c2 c3 hm
  obtain ⟨g1, g2, g3, hp, hd, hn⟩ := by_form hX hL hA l1 l2 l3 p1 p2 p3 e1 e2 e3 rfl rfl rfl pos nsq
  have bq : ∀ {a d : Int}, 0 < d → Bd m a → Bd (4 * m + 1) (a * (L / d)) := by
    intro a d hd ha
    have h3 : L / d ≤ L := Int.ediv_le_self _ (by omega)
    have h4 : 0 ≤ L / d := Int.ediv_nonneg (by omega) (by omega)
    exact (ha.mul (bL.le (j := L / d) (by omega))).mono (by omega)
  rw [cf_s (g := f19) rfl]
  have e := s_moment_of_whole (k := k) (S := S) (s := s) hp hd hn (bq p1 c1) (bq p2 c2) (bq p3 c3) (by omega)
  rw [prim_eq hX hL g1 g2 g3] at e
  have pp : (prim A B C s).pure = true := rfl
  simp [f19, runF, L2.ixN, List.replicate, eL, e, pp]
theorem s_shifted_by_r {k m : Nat} {S : Sto} {a b c s t n : Int} (R : Rt m a b c s) (F : Fr m t n) (hm : m ≤ 36) :
    callF prg (k + 4) 22 [.tup [.int a, .int b, .int c, .int s], .tup [.int t, .int n]] S = some (prim (a * (n * n)) ((b * n - 2 * a * t) * n) (a * t * t + (c * n - b * t) * n) s, S) := by
  have n0 : 0 < n := by have := F.b1; omega
  have a0 : 0 < a := by have := R.a1; omega
  have o0 : (0 : Int) < 1 := by decide
  have up : ∀ {i j : Nat} {x : Int}, Bd i x → i ≤ j → Bd j x := fun h e => h.mono e
  have ba2 : Bd (2 + m) (2 * a) := bd2.mul R.ba
  have t1 := s_times (k := k) (S := S) (a := 2 * a) (b := 1) (c := t) (d := n) o0 n0 (up ba2 (by omega)) (up bd1 (by decide)) (up F.ba (by omega)) (up F.bb (by omega))
  obtain ⟨u1, v1, f1, F1, r1, _⟩ := fr_ex (a := 2 * a * t) (b := 1 * n) (m := 3 * m + 3) (by omega) ((ba2.mul F.ba).mono (by omega)) ((bd1.mul F.bb).mono (by omega))
  have t2 := s_times (k := k) (S := S) (a := a) (b := 1) (c := t) (d := n) o0 n0 (up R.ba (by omega)) (up bd1 (by decide)) (up F.ba (by omega)) (up F.bb (by omega))
  obtain ⟨u2, v2, f2, F2, r2, _⟩ := fr_ex (a := a * t) (b := 1 * n) (m := 3 * m + 3) (by omega) ((R.ba.mul F.ba).mono (by omega)) ((bd1.mul F.bb).mono (by omega))
  have v20 : 0 < v2 := by have := F2.b1; omega
  have v10 : 0 < v1 := by have := F1.b1; omega
  have t3 := s_times (k := k) (S := S) (a := u2) (b := v2) (c := t) (d := n) v20 n0 (up F2.ba (by omega)) (up F2.bb (by omega)) (up F.ba (by omega)) (up F.bb (by omega))
  obtain ⟨u3, v3, f3, F3, r3, _⟩ := fr_ex (a := u2 * t) (b := v2 * n) (m := 4 * m + 3) (Int.mul_pos v20 n0) ((F2.ba.mul F.ba).mono (by omega)) ((F2.bb.mul F.bb).mono (by omega))
  have t4 := s_times (k := k) (S := S) (a := b) (b := 1) (c := t) (d := n) o0 n0 (up R.bb (by omega)) (up bd1 (by decide)) (up F.ba (by omega)) (up F.bb (by omega))
  obtain ⟨u4, v4, f4, F4, r4, _⟩ := fr_ex (a := b * t) (b := 1 * n) (m := 3 * m + 3) (by omega) ((R.bb.mul F.ba).mono (by omega)) ((bd1.mul F.bb).mono (by omega))
  have v40 : 0 < v4 := by have := F4.b1; omega
  have t5 := s_less (k := k) (S := S) (a := c) (b := 1) (c := u4) (d := v4) o0 v40 (up R.bc (by omega)) (up bd1 (by decide)) (up F4.ba (by omega)) (up F4.bb (by omega))
  obtain ⟨u5, v5, f5, F5, r5, _⟩ := fr_ex (a := c * v4 - u4 * 1) (b := 1 * v4) (m := 4 * m + 5) (by omega) ((R.bc.mul F4.bb).sub (F4.ba.mul bd1) (by omega) (by omega)) ((bd1.mul F4.bb).mono (by omega))
  have v30 : 0 < v3 := by have := F3.b1; omega
  have v50 : 0 < v5 := by have := F5.b1; omega
  have t6 := s_plus (k := k) (S := S) (a := u3) (b := v3) (c := u5) (d := v5) v30 v50 (up F3.ba (by omega)) (up F3.bb (by omega)) (up F5.ba (by omega)) (up F5.bb (by omega))
  obtain ⟨u6, v6, f6, F6, r6, _⟩ := fr_ex (a := u3 * v5 + u5 * v3) (b := v3 * v5) (m := 8 * m + 10) (Int.mul_pos v30 v50) ((F3.ba.mul F5.bb).add (F5.ba.mul F3.bb) (by omega) (by omega)) ((F3.bb.mul F5.bb).mono (by omega))
  have t7 := s_less (k := k) (S := S) (a := b) (b := 1) (c := u1) (d := v1) o0 v10 (up R.bb (by omega)) (up bd1 (by decide)) (up F1.ba (by omega)) (up F1.bb (by omega))
  obtain ⟨u7, v7, f7, F7, r7, _⟩ := fr_ex (a := b * v1 - u1 * 1) (b := 1 * v1) (m := 4 * m + 5) (by omega) ((R.bb.mul F1.bb).sub (F1.ba.mul bd1) (by omega) (by omega)) ((bd1.mul F1.bb).mono (by omega))
  have v60 : 0 < v6 := by have := F6.b1; omega
  have v70 : 0 < v7 := by have := F7.b1; omega
  have q7 : u7 * n = (b * n - 2 * a * t) * v7 := q_sub v10 (by rw [Int.one_mul] at r1; exact r1) r7
  have q5 : u5 * n = (c * n - b * t) * v5 := q_sub v40 (by rw [Int.one_mul] at r4; exact r4) r5
  have q3 : u3 * (n * n) = a * t * t * v3 := q_mul v20 (by rw [Int.one_mul] at r2; exact r2) r3
  have q5' : u5 * (n * n) = (c * n - b * t) * n * v5 := by rw [← Int.mul_assoc, q5]; ac_rfl
  have q6 : u6 * (n * n) = (a * t * t + (c * n - b * t) * n) * v6 := q_add v30 v50 q3 q5' r6
  have e := s_moment_by (k := k) (S := S) (X := n * n) (A := a * (n * n)) (B := (b * n - 2 * a * t) * n) (C := a * t * t + (c * n - b * t) * n) (s := s) (a1 := a) (d1 := 1) (m := 8 * m + 10)
    (Int.mul_pos n0 n0) (Int.mul_pos a0 (Int.mul_pos n0 n0)) o0 v70 v60 (up bd1 (by omega)) (up F7.bb (by omega)) (up F6.bb (by omega)) (up R.ba (by omega)) (up F7.ba (by omega)) (up F6.ba (by omega)) (by omega) (by rw [Int.mul_one]) (by rw [← Int.mul_assoc, q7]; ac_rfl) q6
    (by rw [disc_shift]; exact pos_of (Int.ne_of_gt (Int.mul_pos n0 n0)) R.pos) (by rw [disc_shift]; exact nsq_mul (Int.ne_of_gt (Int.mul_pos n0 n0)) R.nsq)
  rw [f1] at t1; rw [f2] at t2; rw [f3] at t3; rw [f4] at t4; rw [f5] at t5; rw [f6] at t6; rw [f7] at t7
  rw [cf_s (g := f22) rfl]
  simp [f22, runF, L2.ixN, List.replicate, s_whole (k := k + 2), b_mul (szMul_ok bd2 (up R.ba (by omega : m ≤ 100))), t1, t2, t3, t4, t5, t6, t7, e, pure_prim]
theorem s_shifted_by_f {k m : Nat} {S : Sto} {a b t n : Int} (R : Fr m a b) (F : Fr m t n) (hm : m ≤ 1000) :
    callF prg (k + 4) 22 [.tup [.int a, .int b], .tup [.int t, .int n]] S = some (fr (a * n + t * b) (b * n), S) := by
  have n0 : 0 < n := by have := F.b1; omega
  have b0 : 0 < b := by have := R.b1; omega
  rw [cf_s (g := f22) rfl]
  simp [f22, runF, L2.ixN, List.replicate, s_plus (k := k) b0 n0 (R.ba.mono (by omega)) (R.bb.mono (by omega)) (F.ba.mono (by omega)) (F.bb.mono (by omega)), pure_fr]
end Pv.K08

set_option Elab.async false
set_option linter.all false
set_option maxRecDepth 100000
set_option maxHeartbeats 4000000
namespace Pv.K08
open PySem PySem.Spec PyProof.Rows L2
theorem l_common {k : Nat} {S : Sto} {a b : Int} (hs : Bd 1000000 b) : callF prg (k + 1) 47 [.int a, .int b] S = some (.int (Int.gcd a b), S) := by
  rw [cf_s (g := f47) rfl]
  have h := gcd_loop (k := k) (S := S) (a := a.natAbs) (b := b.natAbs) (by omega) (by omega) (hs.le (by simp))
  simp [f47, runF, L2.ixN, List.replicate, h]
  rfl
theorem l_fraction {k : Nat} {S : Sto} {a b : Int} (hb : 0 < b) (hs : Bd 8000 b) : callF prg (k + 2) 48 [.int a, .int b] S = some (fr a b, S) := by
  rw [cf_s (g := f48) rfl]
  have g0 := gcd_pos (a := a) hb
  have g1 := gcd_le (a := a) hb
  have d := szDiv_ok (j := (Int.gcd a b : Int)) (by omega) (hs.le (by omega))
  have e : ∀ x : Int, x.fdiv (Int.gcd a b : Int) = x / (Int.gcd a b : Int) := fun x => Int.fdiv_eq_ediv_of_nonneg x (by omega)
  simp [f48, runF, L2.ixN, List.replicate, l_common (k := k) (a := a) (hs.mono (by decide : 8000 ≤ 1000000)), hb, b_div d, e, fr]
theorem l_fraction_n {k : Nat} {S : Sto} {a b : Int} (hb : b < 0) (hs : Bd 8000 b) : callF prg (k + 2) 48 [.int a, .int b] S = some (fr (-a) (-b), S) := by
  rw [cf_s (g := f48) rfl]
  have g0 := gcd_pos (a := a) (b := -b) (by omega)
  have g1 := gcd_le (a := a) (b := -b) (by omega)
  rw [Int.gcd_neg] at g0 g1
  have d := szDiv_ok (j := (Int.gcd a b : Int)) (by omega) (hs.le (by omega))
  have e : ∀ x : Int, x.fdiv (Int.gcd a b : Int) = x / (Int.gcd a b : Int) := fun x => Int.fdiv_eq_ediv_of_nonneg x (by omega)
  have nb : ¬ 0 < b := by omega
  simp [f48, runF, L2.ixN, List.replicate, l_common (k := k) (a := a) (hs.mono (by decide : 8000 ≤ 1000000)), nb, b_div d, e, fr, Int.neg_gcd, Int.gcd_neg]
/-- _law_root gives the root's floor -/
theorem l_root {k : Nat} {S : Sto} {n : Int} (hn : 0 < n) (sn : Bd 4000 n) : ∃ m : Int, callF prg (k + 1) 49 [.int n] S = some (.int m, S) ∧ Bd 5000 m ∧ 0 ≤ m ∧ m * m ≤ n ∧ n < (m + 1) * (m + 1) := by
  rw [cf_s (g := f49) rfl]
  have bits : (Builtin.Int.intBits n : Int) ≤ 4001 := by
    have := bits_le n
    have := sn.log
    omega
  have bits0 : (0 : Int) ≤ (Builtin.Int.intBits n : Int) := by omega
  have big := lt_bits (n := n) (by omega)
  obtain ⟨bn, hbn⟩ : ∃ z : Int, ((Builtin.Int.intBits n : Nat) : Int) = z := ⟨_, rfl⟩
  have hbt : (Builtin.Int.intBits n) = bn.toNat := by omega
  rw [hbt] at big
  rw [hbn] at bits bits0
  have sh : szShl 1 (bn / 2 + 1) = true := by
    unfold szShl
    simp only [Bool.and_eq_true, decide_eq_true_eq]
    refine ⟨⟨by omega, by omega⟩, by decide⟩
  have e0 : binD .LShift (.int 1) (.int (bn / 2 + 1)) = some (.int (1 * 2 ^ (bn / 2 + 1).toNat)) := b_shl sh
  have d2 : szDiv 2 = true := by decide
  obtain ⟨f, hf⟩ : ∃ f : Int, f = 1 * 2 ^ (bn / 2 + 1).toNat := ⟨_, rfl⟩
  have hf0 : 0 < f := by rw [hf, Int.one_mul]; exact Int.pow_pos (by decide)
  have hf1 : Bd 5000 f := by
    rw [hf, Int.one_mul]
    unfold Bd
    rw [Int.natAbs_pow]
    refine Nat.pow_lt_pow_right (by decide) ?_
    omega
  have hf2 : n < f * f := by
    rw [hf, Int.one_mul, ← Int.pow_add]
    refine Int.lt_of_lt_of_le big ?_
    have h2 : bn.toNat ≤ (bn / 2 + 1).toNat + (bn / 2 + 1).toNat := by omega
    have h3 := Nat.pow_le_pow_right (n := 2) (by decide) h2
    exact_mod_cast h3
  rw [← hf] at e0
  have dv2 : ∀ x : Int, binD .FloorDiv (.int x) (.int 2) = some (.int (x / 2)) := fun x => by
    rw [b_div d2, Int.fdiv_eq_ediv_of_nonneg _ (by decide)]
  have hlt : (f - 0).natAbs < most := by
    rw [Int.sub_zero]
    exact lt_most hf1 (by decide)
  obtain ⟨r1, S1, e, ⟨x, y, w, rfl, rfl, hx, hy, hx1, hy1, hxx, hyy⟩, hc⟩ := whl_ind (c := cW prg (callF prg k) (.cmp .Gt (.bin .Sub (.var 2) (.var 1)) (.cst (.int 1))))
    (b := bW prg (callF prg k) [.set 3 (.bin .FloorDiv (.bin .Add (.var 1) (.var 2)) (.cst (.int 2))), .unp (.tp [.nm 1, .nm 2]) (.ite (.cmp .LtE (.bin .Mult (.var 3) (.var 3)) (.var 0)) (.tup [.var 3, .var 2]) (.tup [.var 1, .var 3]))])
    (fun r S' => ∃ (x y : Int) (w : Slot), r = [some (false, .int n), some (false, .int x), some (false, .int y), w] ∧ S' = S ∧ 0 ≤ x ∧ 0 ≤ y ∧ Bd 5000 x ∧ Bd 5000 y ∧ x * x ≤ n ∧ n < y * y) (fun r _ => match r with | [_, some (_, .int x), some (_, .int y), _] => (y - x).natAbs | _ => 0) (fun r S' h => by
      obtain ⟨x, y, w, rfl, rfl, hx, hy, hx1, hy1, hxx, hyy⟩ := h
      by_cases h0 : 1 < y - x
      · right
        have hm1 : Bd 5000 ((x + y) / 2) := hy1.le (by omega)
        have mm := b_mul (szMul_ok hm1 hm1)
        by_cases hh : (x + y) / 2 * ((x + y) / 2) ≤ n
        · refine ⟨by simp [runF, L2.ixN, List.replicate, h0], [some (false, .int n), some (false, .int ((x + y) / 2)), some (false, .int y), some (false, .int ((x + y) / 2))], S', by simp [runF, L2.ixN, List.replicate, dv2, mm, hh], ⟨_, _, _, rfl, rfl, by omega, hy, hm1, hy1, hh, hyy⟩, ?_⟩
          show (y - (x + y) / 2).natAbs < (y - x).natAbs
          omega
        · refine ⟨by simp [runF, L2.ixN, List.replicate, h0], [some (false, .int n), some (false, .int x), some (false, .int ((x + y) / 2)), some (false, .int ((x + y) / 2))], S', by simp [runF, L2.ixN, List.replicate, dv2, mm, hh], ⟨_, _, _, rfl, rfl, hx, by omega, hx1, hm1, hxx, by omega⟩, ?_⟩
          show ((x + y) / 2 - x).natAbs < (y - x).natAbs
          omega
      · left
        simp [runF, L2.ixN, List.replicate, h0]) most [some (false, .int n), some (false, .int 0), some (false, .int f), none] S ⟨0, f, none, rfl, rfl, by omega, by omega, bd0, hf1, by omega, hf2⟩ hlt
  have hlast : y ≤ x + 1 := by
    by_cases h0 : 1 < y - x
    · simp [runF, L2.ixN, List.replicate, h0] at hc
    · omega
  refine ⟨x, ?_, hx1, hx, hxx, Int.lt_of_lt_of_le hyy (Int.mul_le_mul hlast hlast hy (by omega))⟩
  simp [f49, runF, L2.ixN, List.replicate, hbn, e0, dv2, e]
theorem l_sign {k : Nat} {S : Sto} {n : Int} : callF prg (k + 1) 50 [.int n] S = some (.int n.sign, S) := by
  rw [cf_s (g := f50) rfl]
  by_cases h : 0 < n
  · have h2 : ¬ n < 0 := by omega
    simp [f50, runF, L2.ixN, List.replicate, h, h2, Int.sign_eq_one_of_pos h]
  · by_cases h0 : n = 0
    · subst h0
      simp [f50, runF, L2.ixN, List.replicate]
    · have h2 : n < 0 := by omega
      simp [f50, runF, L2.ixN, List.replicate, h, h2, Int.sign_eq_neg_one_of_neg h2]

theorem l_sign_one {k : Nat} {S : Sto} {a b d : Int} (ba : Bd 5000 a) (bb : Bd 5000 b) (bd : Bd 5000 d) : callF prg (k + 2) 51 [.int a, .int b, .int d] S = some (.int (sgn1 a b d), S) := by
  rw [cf_s (g := f51) rfl]
  have m1 := b_mul (szMul_ok ba ba)
  have m2 := b_mul (szMul_ok bb bb)
  have m3 := b_mul (szMul_ok (bb.mul bb) bd)
  have m4 := b_mul (szMul_ok (bsign a) (bsign (a * a - b * b * d)))
  have m5 := b_mul (szMul_ok (bsign a) (bsign b))
  have m6 : binD .Mult (.int a.sign) (.int 0) = some (.int (a.sign * 0)) := b_mul (szMul_ok (bsign a) (bd0 (k := 1)))
  unfold sgn1
  by_cases hd : 0 < d
  · by_cases h0 : 0 ≤ a.sign * b.sign
    · by_cases h1 : a = 0 <;> simp [f51, runF, L2.ixN, List.replicate, l_sign (k := k), hd, m5, h0, h1] <;> simp_all
    · simp [f51, runF, L2.ixN, List.replicate, l_sign (k := k), hd, m1, m2, m3, m4, m5, h0]
  · have m7 : binD .Mult (.int 0) (.int 0) = some (.int 0) := rfl
    by_cases h1 : a = 0 <;> simp [f51, runF, L2.ixN, List.replicate, l_sign (k := k), hd, m6, m7, h1]
theorem l_later {k : Nat} {S : Sto} {p q d r t n : Int} (bp : Bd 3000 p) (bq : Bd 3000 q) (br : Bd 3000 r) (bt : Bd 3000 t) (bn : Bd 3000 n) : callF prg (k + 1) 55 [.tup [.int p, .int q, .int d, .int r], .tup [.int t, .int n]] S = some (.tup [.int (p * n + t * r), .int (q * n), .int d, .int (r * n)], S) := by
  rw [cf_s (g := f55) rfl]
  simp [f55, runF, L2.ixN, List.replicate, b_mul (szMul_ok bp bn), b_mul (szMul_ok bt br), b_mul (szMul_ok bq bn), b_mul (szMul_ok br bn)]
theorem l_moment_0 {k : Nat} {S : Sto} {p r : Int} (hr : 0 < r) (br : Bd 3000 r) : callF prg (k + 3) 53 [.tup [.int p, .int 0, .int 0, .int r]] S = some (fr p r, S) := by
  rw [cf_s (g := f53) rfl]
  have z : binD .Mult (.int 0) (.int 0) = some (.int 0) := rfl
  simp [f53, runF, L2.ixN, List.replicate, z, l_fraction (k := k) (a := p) hr (br.mono (by decide)), pure_fr]
theorem l_moment_d {k : Nat} {S : Sto} {p d r : Int} (hr : 0 < r) (br : Bd 3000 r) (hd : 0 < d) (bd : Bd 4000 d) : callF prg (k + 3) 53 [.tup [.int p, .int 0, .int d, .int r]] S = some (fr p r, S) := by
  rw [cf_s (g := f53) rfl]
  obtain ⟨w, hw, bw, _⟩ := l_root (k := k + 1) (S := S) hd bd
  have z : binD .Mult (.int 0) (.int w) = some (.int (0 * w)) := b_mul (szMul_ok (bd0 (k := 1)) bw)
  simp [f53, runF, L2.ixN, List.replicate, z, hd, hw, l_fraction (k := k) (a := p) hr (br.mono (by decide)), pure_fr]
theorem l_moment_s {k : Nat} {S : Sto} {p q r w : Int} (hr : 0 < r) (br : Bd 3000 r) (bq : Bd 3000 q) (hw : 0 < w) (bw : Bd 1500 w) : callF prg (k + 3) 53 [.tup [.int p, .int q, .int (w * w), .int r]] S = some (fr (p + q * w) r, S) := by
  rw [cf_s (g := f53) rfl]
  have hd := Int.mul_pos hw hw
  obtain ⟨v, hv, bv, v0, v1, v2⟩ := l_root (k := k + 1) (S := S) hd ((bw.mul bw).mono (by decide))
  have e : v = w := by
    rcases Int.lt_trichotomy v w with h | h | h
    · have := Int.mul_le_mul (show v + 1 ≤ w by omega) (show v + 1 ≤ w by omega) (by omega) (by omega)
      omega
    · exact h
    · have := Int.mul_le_mul (show w + 1 ≤ v by omega) (show w + 1 ≤ v by omega) (by omega) (by omega)
      have e2 : (w + 1) * (w + 1) = w * w + w + w + 1 := by grind
      omega
  subst e
  by_cases q0 : q = 0
  · subst q0
    have z : binD .Mult (.int 0) (.int v) = some (.int (0 * v)) := b_mul (szMul_ok (bd0 (k := 1)) bv)
    simp [f53, runF, L2.ixN, List.replicate, z, hd, hv, l_fraction (k := k) (a := p) hr (br.mono (by decide)), pure_fr]
  · simp [f53, runF, L2.ixN, List.replicate, hd, hv, q0, b_mul (szMul_ok bv bv), b_mul (szMul_ok bq bv), l_fraction (k := k) (a := p + q * v) hr (br.mono (by decide)), pure_fr]
theorem l_moment_r {k : Nat} {S : Sto} {p q d r : Int} (hr : 0 < r) (bp : Bd 1000 p) (bq : Bd 1000 q) (bd : Bd 1000 d) (br : Bd 1000 r) (q0 : q ≠ 0) (hd : 0 < d) (ns : Nsq d) :
    callF prg (k + 3) 53 [.tup [.int p, .int q, .int d, .int r]] S = some (prim (r * r) (-2 * p * r) (p * p - q * q * d) q.sign, S) := by
  rw [cf_s (g := f53) rfl]
  obtain ⟨w, hw, bw, _⟩ := l_root (k := k + 1) (S := S) hd (bd.mono (by decide))
  have hrr := Int.mul_pos hr hr
  have g0 := gcd3_pos (b := -2 * p * r) (c := p * p - q * q * d) hrr
  have g1 := gcd3_le (b := -2 * p * r) (c := p * p - q * q * d) hrr
  have bdm2 : Bd 2 (-2) := bd2.neg
  have b1 := br.mul br
  have b2 := (bdm2.mul bp).mul br
  have b3 : Bd 4000 (p * p - q * q * d) := (bp.mul bp).sub ((bq.mul bq).mul bd) (by omega) (by omega)
  have dv : ∀ x : Int, binD .FloorDiv (.int x) (.int (Int.gcd (Int.gcd (r * r) (-2 * p * r)) (p * p - q * q * d) : Int)) = some (.int (x / (Int.gcd (Int.gcd (r * r) (-2 * p * r)) (p * p - q * q * d) : Int))) := fun x => by
    rw [b_div (szDiv_ok (by omega) ((b1.le (j := (Int.gcd (Int.gcd (r * r) (-2 * p * r)) (p * p - q * q * d) : Int)) (by omega)))), Int.fdiv_eq_ediv_of_nonneg _ (by omega)]
  have c1 := l_common (k := k + 1) (S := S) (a := r * r) (b := -2 * p * r) (b2.mono (by decide))
  have c2 := l_common (k := k + 1) (S := S) (a := (Int.gcd (r * r) (-2 * p * r) : Int)) (b := p * p - q * q * d) (b3.mono (by decide))
  have m1 := b_mul (szMul_ok bdm2 bp)
  have m2 := b_mul (szMul_ok (bdm2.mul bp) br)
  have nw := ns w
  have pp := pure_prim (a := r * r) (b := -2 * p * r) (c := p * p - q * q * d) (s := q.sign)
  generalize -2 * p * r = B at *
  generalize hB : -2 * p = B0 at *
  simp [f53, runF, L2.ixN, List.replicate, hd, hw, q0, b_mul (szMul_ok bw bw), nw, b_mul (szMul_ok br br), b_mul (szMul_ok bp bp), b_mul (szMul_ok bq bq), b_mul (szMul_ok (bq.mul bq) bd), m1, m2, c1, c2, dv, l_sign (k := k + 1), prim]
theorem l_sign_two {k : Nat} {S : Sto} {a b d c e : Int} (ba : Bd 1000 a) (bb : Bd 1000 b) (bd : Bd 1000 d) (bc : Bd 1000 c) (be : Bd 1000 e) :
    callF prg (k + 3) 52 [.int a, .int b, .int d, .int c, .int e] S = some (.int (sgL a b d c e), S) := by
  rw [cf_s (g := f52) rfl]
  have up : ∀ {i : Nat} {x : Int}, Bd i x → i ≤ 5000 → Bd 5000 x := fun h e => h.mono e
  have M : ∀ {x y : Int}, Bd 5000 x → Bd 5000 y → binD .Mult (.int x) (.int y) = some (.int (x * y)) := fun h q => b_mul (szMul_ok h q)
  have bm2 : Bd 2 (-2) := bd2.neg
  have b1 := ba.mul ba
  have b2 := bb.mul bb
  have b3 := b2.mul bd
  have b4 := bc.mul bc
  have b5 := b4.mul be
  have b6 := bm2.mul bb
  have b7 := b6.mul bc
  have b8 := bd.mul be
  have b9 : Bd 4000 (a * a - b * b * d - c * c * e) := (b1.sub b3 (m := 3001) (by omega) (by omega)).sub b5 (by omega) (by omega)
  have s1 := l_sign_one (k := k) (S := S) (up ba (by omega)) (up bb (by omega)) (up bd (by omega))
  have s2 := l_sign_one (k := k) (S := S) (up ba (by omega)) (up bc (by omega)) (up be (by omega))
  have s3 := l_sign_one (k := k) (S := S) (up b9 (by omega)) (up b7 (by omega)) (up b8 (by omega))
  have sg : ∀ n : Int, callF prg (k + 2) 50 [.int n] S = some (.int n.sign, S) := fun n => l_sign (k := k + 1)
  have m1 := M (up ba (by omega)) (up ba (by omega))
  have m2 := M (up bb (by omega)) (up bb (by omega))
  have m3 := M (up b2 (by omega)) (up bd (by omega))
  have m4 := M (up bc (by omega)) (up bc (by omega))
  have m5 := M (up b4 (by omega)) (up be (by omega))
  have m6 := M (up bm2 (by omega)) (up bb (by omega))
  have m7 := M (up b6 (by omega)) (up bc (by omega))
  have m8 := M (up bd (by omega)) (up be (by omega))
  have m9 := M (up (bsign b) (by omega)) (up (bsign (b * b * d - c * c * e)) (by omega))
  have m10 := M (up (bsign a) (by omega)) (up (bsign b) (by omega))
  have m11 := M (up (bsign a) (by omega)) (up ((bsign b).mul (bsign (b * b * d - c * c * e))) (by omega))
  have bsg : ∀ x y z : Int, Bd 1 (sgn1 x y z) := fun x y z => by
    unfold sgn1
    have hm : ∀ {p q : Int}, Bd 1 p → Bd 1 q → Bd 1 (p * q) := fun {p q} hp hq => by
      unfold Bd at *
      rw [Int.natAbs_mul]
      have h1 : p.natAbs ≤ 1 := by omega
      have h2 : q.natAbs ≤ 1 := by omega
      have := Nat.mul_le_mul h1 h2
      omega
    repeat' split
    all_goals first | exact bsign _ | exact bd0 | exact hm (bsign _) (bsign _)
  have m12 := M (up (bsign a) (by omega)) (up (bsg (a * a - b * b * d - c * c * e) (-2 * b * c) (d * e)) (by omega))
  have z1 : binD .Mult (.int 0) (.int b.sign) = some (.int (0 * b.sign)) := M bd0 (up (bsign b) (by omega))
  have z2 : binD .Mult (.int 0) (.int (b.sign * (b * b * d - c * c * e).sign)) = some (.int (0 * (b.sign * (b * b * d - c * c * e).sign))) := M bd0 (up ((bsign b).mul (bsign (b * b * d - c * c * e))) (by omega))
  unfold sgL
  by_cases he : 0 < e
  · by_cases hc : c = 0
    · subst hc
      by_cases hd : 0 < d <;> simp [f52, runF, L2.ixN, List.replicate, sg, he, hd, s1]
    · have hcs : ¬ c.sign = 0 := by simpa using hc
      by_cases hd : 0 < d
      · by_cases hb : b = 0
        · subst hb
          simp [f52, runF, L2.ixN, List.replicate, sg, he, hd, hc, s2]
        · have hbs : ¬ b.sign = 0 := by simpa using hb
          by_cases hbc : b.sign = c.sign
          · by_cases hm : 0 ≤ a.sign * b.sign
            · rw [← hbc] at hcs
              by_cases ha : a = 0
              · subst ha
                simp [f52, runF, L2.ixN, List.replicate, sg, he, hd, hc, hb, ← hbc, z1]
              · simp [f52, runF, L2.ixN, List.replicate, sg, he, hd, hc, hb, ← hbc, m10, hm, ha]
            · simp [f52, runF, L2.ixN, List.replicate, sg, he, hd, hc, hb, ← hbc, m10, hm, m1, m2, m3, m4, m5, m6, m7, m8, s3, m12]
          · by_cases hm : 0 ≤ a.sign * (b.sign * (b * b * d - c * c * e).sign)
            · by_cases ha : a = 0
              · subst ha
                simp [f52, runF, L2.ixN, List.replicate, sg, he, hd, hc, hb, hbc, m2, m3, m4, m5, m9, m11, z2]
              · simp [f52, runF, L2.ixN, List.replicate, sg, he, hd, hc, hb, hbc, m2, m3, m4, m5, m9, m11, hm, ha]
            · simp [f52, runF, L2.ixN, List.replicate, sg, he, hd, hc, hb, hbc, m1, m2, m3, m4, m5, m6, m7, m8, m9, m11, hm, s3, m12]
      · simp [f52, runF, L2.ixN, List.replicate, sg, he, hd, hc, s2]
  · by_cases hd : 0 < d <;> simp [f52, runF, L2.ixN, List.replicate, sg, he, hd, s1]

theorem l_compare {k m : Nat} {S : Sto} {x y : Mo} (hx : x.ok m) (hy : y.ok m) (hm : m ≤ 400) : callF prg (k + 4) 54 [x.n, y.n] S = some (.int (cmpM x y), S) := by
  have key : ∀ x : Mo, x.n = .tup [.int x.p, .int x.q, .int (x.e 0), .int x.w] := fun x => by cases x <;> rfl
  have be0 : ∀ {x : Mo}, x.ok m → Bd (2 * m + 4) (x.e 0) := fun {x} h => by
    cases x with
    | f u v => exact bd0
    | r a b c s => exact h.bdisc
  have up : ∀ {i : Nat} {z : Int}, Bd i z → i ≤ 1000 → Bd 1000 z := fun h e => h.mono e
  have M : ∀ {z t : Int}, Bd 1000 z → Bd 1000 t → binD .Mult (.int z) (.int t) = some (.int (z * t)) := fun h q => b_mul (szMul_ok h q)
  have b1 : Bd 1000 (x.p * y.w - y.p * x.w) := ((mo_p hx).mul (mo_w hy)).sub ((mo_p hy).mul (mo_w hx)) (by omega) (by omega)
  have ss := l_sign_two (k := k) (S := S) b1 (up ((mo_q hx).mul (mo_w hy)) (by omega)) (up (be0 hx) (by omega)) (up ((mo_q hy).neg.mul (mo_w hx)) (by omega)) (up (be0 hy) (by omega))
  rw [cmpM_law hx hy] at ss
  have m1 := M (up (mo_p hx) (by omega)) (up (mo_w hy) (by omega))
  have m2 := M (up (mo_p hy) (by omega)) (up (mo_w hx) (by omega))
  have m3 := M (up (mo_q hx) (by omega)) (up (mo_w hy) (by omega))
  have m4 := M (up (mo_q hy).neg (by omega)) (up (mo_w hx) (by omega))
  simp only [Int.neg_mul] at ss m4
  rw [cf_s (g := f54) rfl]
  simp [f54, runF, L2.ixN, List.replicate, key, m1, m2, m3, m4, ss]
end Pv.K08

set_option Elab.async false
set_option linter.all false
set_option maxRecDepth 100000
set_option maxHeartbeats 4000000
namespace Pv.K08
open PySem PySem.Spec PyProof.Rows L2

/-- a pot at the place n of the store, at most c draws behind the own digits -/
def PotOk (S : Sto) (n : Nat) (c : Nat) : Prop := ∃ x y z : Int, S[n]? = some [.int x, .int y, .int z] ∧ 0 ≤ y ∧ Bd 61 y ∧ 0 ≤ z ∧ z ≤ c
theorem PotOk.mono {S : Sto} {n c e : Nat} (h : PotOk S n c) (q : c ≤ e) : PotOk S n e := by
  obtain ⟨x, y, z, h1, h2, h3, h4, h5⟩ := h
  exact ⟨x, y, z, h1, h2, h3, h4, by omega⟩
theorem deB_ref {S : Sto} {n : Nat} {ds : List D} (h : S[n]? = some ds) : deB S (.ref n) = .lst ds := by
  show (match S[n]? with | some ds => D.lst ds | none => D.ref n) = _
  rw [h]
theorem b_pow {i j : Int} (h : szPow i j = true) : binD .Pow (.int i) (.int j) = some (.int (i ^ j.toNat)) := if_pos h
theorem l_take {k : Nat} {S : Sto} {n c : Nat} {u : Int} (hu : 0 < u) (bu : Bd 60 u) (hp : PotOk S n c) (hc : c ≤ 100000) :
    ∃ v S', callF prg (k + 1) 43 [.ref n, .int u] S = some (.int v, S') ∧ 0 ≤ v ∧ v < u ∧ PotOk S' n (c + 1) ∧ S'.length = S.length := by
  obtain ⟨x, y, z, h1, hy, by', hz, hzc⟩ := hp
  have hn := (List.getElem?_eq_some_iff.mp h1).1
  have fm : ∀ (a : Int) {b : Int}, 0 < b → binD .Mod (.int a) (.int b) = some (.int (a % b)) := fun a b hb => by rw [b_mod (by omega), Int.fmod_eq_emod_of_nonneg _ (by omega)]
  have fd : ∀ (a : Int) {b : Int} {i : Nat}, 0 < b → Bd 60 b → binD .FloorDiv (.int a) (.int b) = some (.int (a / b)) := fun a b i hb bb => by rw [b_div (szDiv_ok (by omega) bb), Int.fdiv_eq_ediv_of_nonneg _ (by omega)]
  by_cases hx : 0 < x
  · refine ⟨x % u, S.set n [.int (x / u), .int y, .int z], ?_, Int.emod_nonneg _ (by omega), Int.emod_lt_of_pos _ hu, ⟨x / u, y, z, List.getElem?_set_self hn, hy, by', hz, by omega⟩, List.length_set⟩
    rw [cf_s (g := f43) rfl]
    have tk : (S.set n [.int (x / u), .int y, .int z]).take S.length = S.set n [.int (x / u), .int y, .int z] := by
      rw [List.take_of_length_le (by rw [List.length_set]; exact Nat.le_refl _)]
    simp [f43, runF, L2.ixN, List.replicate, deB_ref h1, h1, hx, fm x hu, fd x (i := 0) hu bu, tk]
  · obtain ⟨S1, hS1⟩ : ∃ S1, S1 = S.set n [.int x, .int y, .int (z + 1)] := ⟨_, rfl⟩
    have g1 : S1[n]? = some [.int x, .int y, .int (z + 1)] := by rw [hS1]; exact List.getElem?_set_self hn
    have tk : S1.take S.length = S1 := by
      rw [hS1, List.take_of_length_le (by rw [List.length_set]; exact Nat.le_refl _)]
    have bz : Bd 20 (z + 1) := by
      unfold Bd
      have : (2 : Nat) ^ 20 = 1048576 := by decide
      omega
    obtain ⟨q, hq, q0, bq⟩ : ∃ q : Int, idxD (.lst [.int 2147483647, .int 2147483629, .int 2147483587, .int 2147483579, .int 2147483563]) (.int ((z + 1) % 5)) = some (.int q) ∧ 0 < q ∧ Bd 31 q := by
      have hm : (z + 1) % 5 = 0 ∨ (z + 1) % 5 = 1 ∨ (z + 1) % 5 = 2 ∨ (z + 1) % 5 = 3 ∨ (z + 1) % 5 = 4 := by omega
      rcases hm with h | h | h | h | h <;> rw [h] <;> exact ⟨_, rfl, by decide, by unfold Bd; decide⟩
    have bc : Bd 20 100207 := by unfold Bd; decide
    have m1 := b_mul (szMul_ok bc bz)
    have m2 := b_mul (szMul_ok (bc.mul bz) bz)
    have bw : Bd 80 (y + 100207 * (z + 1) * (z + 1) + 1195) := (by'.add ((bc.mul bz).mul bz) (m := 70) (by omega) (by omega)).add (show Bd 20 1195 by unfold Bd; decide) (by omega) (by omega)
    have pw : binD .Pow (.int (y + 100207 * (z + 1) * (z + 1) + 1195)) (.int 3) = some (.int ((y + 100207 * (z + 1) * (z + 1) + 1195) ^ 3)) := b_pow (by
      have := bw.log
      unfold szPow
      simp only [Bool.and_eq_true, decide_eq_true_eq]
      exact ⟨⟨by decide, by decide⟩, by omega⟩)
    generalize (y + 100207 * (z + 1) * (z + 1) + 1195) ^ 3 = w at *
    have w0 := Int.emod_nonneg w (b := q) (by omega)
    have w1 := Int.emod_lt_of_pos w q0
    have bw2 : Bd 31 (w % q) := bq.le (by omega)
    have bt : Bd 20 10827 := by unfold Bd; decide
    have be : Bd 20 (w % q % 10827) := by
      have h1 := Int.emod_nonneg (w % q) (b := 10827) (by decide)
      have h2 := Int.emod_lt_of_pos (w % q) (b := 10827) (by decide)
      exact bt.le (by omega)
    have m3 := b_mul (szMul_ok (show Bd 20 411 by unfold Bd; decide) bz)
    have bs : Bd 60 (w % q % 10827 + 411 * (z + 1)) := be.add ((show Bd 20 411 by unfold Bd; decide).mul bz) (by omega) (by omega)
    have m4 := b_mul (szMul_ok bw2 bs)
    refine ⟨w % q * (w % q % 10827 + 411 * (z + 1)) / 255 % u, S1, ?_, Int.emod_nonneg _ (by omega), Int.emod_lt_of_pos _ hu, ⟨x, y, z + 1, g1, hy, by', by omega, by omega⟩, by rw [hS1, List.length_set]⟩
    rw [cf_s (g := f43) rfl]
    have a1 : ∀ a : Int, binD .Mod (.int a) (.int 5) = some (.int (a % 5)) := fun a => fm a (by decide)
    have a2 : ∀ a : Int, binD .Mod (.int a) (.int 10827) = some (.int (a % 10827)) := fun a => fm a (by decide)
    have a3 : ∀ a : Int, binD .FloorDiv (.int a) (.int 255) = some (.int (a / 255)) := fun a => fd a (i := 0) (by decide) (by unfold Bd; decide)
    rw [idx_l] at hq
    generalize hmm : (z + 1) % 5 = zm at *
    simp [runF, L2.ixN, List.replicate, f43, deB_ref h1, h1, hx, ← hS1, deB_ref g1, a1, hmm, hq, m1, m2, pw, fm w q0, a2, m3, m4, a3, fm _ hu, tk]
theorem tkl {S S' : Sto} (h : S'.length = S.length) : S'.take S.length = S' := by rw [← h]; exact List.take_length
theorem l_of {k : Nat} {S : Sto} {n c : Nat} {xs : List D} (hl : 0 < xs.length) (hl2 : xs.length ≤ 100000) (hx : ∀ d ∈ xs, d.pure = true) (hp : PotOk S n c) (hc : c ≤ 100000) :
    ∃ d S', callF prg (k + 2) 44 [.ref n, .lst xs] S = some (d, S') ∧ d ∈ xs ∧ PotOk S' n (c + 1) ∧ S'.length = S.length := by
  obtain ⟨v, S1, e, h0, h1, h2, h3⟩ := l_take (k := k) (u := (xs.length : Int)) (by omega) (bd_of (k := 60) 100000 (by omega)) hp hc
  obtain ⟨d, hd, ed⟩ := atI_in h0 h1
  refine ⟨d, S1, ?_, hd, h2, h3⟩
  rw [cf_s (g := f44) rfl]
  simp [f44, runF, L2.ixN, List.replicate, e, ed, hx d hd, tkl h3]
end Pv.K08

set_option Elab.async false
set_option linter.all false
set_option maxRecDepth 100000
set_option maxHeartbeats 4000000
namespace Pv.K08
open PySem PySem.Spec PyProof.Rows L2
theorem l_pot {k : Nat} {S : Sto} {ns : List Int} {p : Int} (hp0 : 0 ≤ p) (hp1 : p ≤ 100) : ∃ S', callF prg (k + 1) 42 [scr ns, .int p] S = some (.ref S.length, S') ∧ PotOk S' S.length 0 := by
  have fm : ∀ (a : Int) {b : Int}, 0 < b → binD .Mod (.int a) (.int b) = some (.int (a % b)) := fun a b hb => by rw [b_mod (by omega), Int.fmod_eq_emod_of_nonneg _ (by omega)]
  obtain ⟨cell, hcell⟩ : ∃ cell : Int, evE prg (callF prg k) (.ite (.cmp .Lt (.var 1) (.bi .len [.var 0])) (.idx (.var 0) (.var 1)) (.bin .Add (.bin .Add (.bin .Mod (.bi .int [.bi .sum [.slc (.var 0) none (some (.cst (.int 1)))]]) (.cst (.int 1000003))) (.bin .Mult (.cst (.int 1409)) (.var 1))) (.cst (.int 1023)))) [some (false, scr ns), some (false, .int p), none, none, none] S = some (.int cell, S) := by
    by_cases h : p < ns.length
    · obtain ⟨d, hd, e⟩ := atI_in (xs := ns.map D.int) hp0 (by simpa using h)
      obtain ⟨z, _, rfl⟩ := List.mem_map.mp hd
      exact ⟨z, by simp [scr, h, e]⟩
    · have hs : ∃ z, biD .sum [.lst (cutD (ns.map D.int) none (some 1))] = some (.int z) := by
        have key : ∀ l : List Int, ∃ z, biD .sum [.lst (l.map D.int)] = some (.int z) := fun l => by
          have : intsOf (l.map D.int) = some l := by
            induction l with
            | nil => rfl
            | cons a l ih => show (intsOf (l.map D.int)).map _ = _; rw [ih]; rfl
          exact ⟨l.sum, by show (intsOf (l.map D.int)).map _ = _; rw [this]; rfl⟩
        unfold cutD
        rw [← List.map_drop, ← List.map_take]
        exact key _
      obtain ⟨z, hz⟩ := hs
      have es : slcD (.lst (ns.map D.int)) none (some 1) = some (.lst (cutD (ns.map D.int) none (some 1))) := rfl
      have hmul := b_mul (szMul_ok (show Bd 20 1409 by unfold Bd; decide) (bd_of (k := 20) 100 (show p.natAbs ≤ 100 by omega)))
      exact ⟨z % 1000003 + 1409 * p + 1023, by simp [scr, h, es, hz, hmul, fm z (b := 1000003) (by decide)]⟩
  have pw1 : binD .Pow (.int 10) (.int 60) = some (.int (10 ^ 60)) := b_pow (by decide)
  have pw2 : binD .Pow (.int (10 ^ 60)) (.int 5) = some (.int ((10 ^ 60) ^ 5)) := b_pow (by decide)
  have pw3 : binD .Pow (.int 10) (.int 18) = some (.int (10 ^ 18)) := b_pow (by decide)
  have q0 : (0 : Int) < (10 ^ 60) ^ 5 := by decide
  have bq : Bd 1000 ((10 ^ 60) ^ 5 : Int) := by unfold Bd; decide
  have m0 := Int.emod_nonneg (cell.natAbs : Int) (b := (10 ^ 60) ^ 5) (by omega)
  have m1 := Int.emod_lt_of_pos (cell.natAbs : Int) q0
  have bo : Bd 1000 ((cell.natAbs : Int) % (10 ^ 60) ^ 5) := bq.le (by omega)
  obtain ⟨own, ho⟩ : ∃ own : Int, own = (cell.natAbs : Int) % (10 ^ 60) ^ 5 := ⟨_, rfl⟩
  have md := fm (cell.natAbs : Int) q0
  rw [← ho] at md bo
  generalize ((10 : Int) ^ 60) ^ 5 = Q at *
  generalize ((10 : Int) ^ 60) = Q1 at *
  generalize ((10 : Int) ^ 18) = Q2 at *
  have s0 := Int.emod_nonneg cell (b := 2305843009213693951) (by decide)
  have s1 := Int.emod_lt_of_pos cell (b := 2305843009213693951) (by decide)
  have bs : Bd 61 (cell % 2305843009213693951) := bd_of 2305843009213693951 (by omega)
  have n1 := b_mul (szMul_ok bs (show Bd 20 85605 by unfold Bd; decide))
  have bp := bd_of (k := 20) 100 (show p.natAbs ≤ 100 by omega)
  have n2 := b_mul (szMul_ok (show Bd 20 9997 by unfold Bd; decide) bp)
  have n3 := b_mul (szMul_ok ((show Bd 20 9997 by unfold Bd; decide).mul bp) bp)
  have md2 := fm cell (b := 2305843009213693951) (by decide)
  have md3 : ∀ a : Int, binD .Mod (.int a) (.int 2305843009213693921) = some (.int (a % 2305843009213693921)) := fun a => fm a (by decide)
  have t1 : binD .Mult (.int own) (.int 1) = some (.int (own * 1)) := b_mul (szMul_ok bo bd1)
  have t0 : binD .Mult (.int own) (.int 0) = some (.int (own * 0)) := b_mul (szMul_ok bo (bd0 (k := 1)))
  have y0 := Int.emod_nonneg (cell % 2305843009213693951 * 85605 + 9997 * p * p + 581) (b := 2305843009213693921) (by decide)
  have y1 := Int.emod_lt_of_pos (cell % 2305843009213693951 * 85605 + 9997 * p * p + 581) (b := 2305843009213693921) (by decide)
  refine ⟨S ++ [[.int (own * if Q2 ≤ cell.natAbs then 1 else 0), .int ((cell % 2305843009213693951 * 85605 + 9997 * p * p + 581) % 2305843009213693921), .int 0]], ?_, ⟨_, _, _, List.getElem?_concat_length, y0, bd_of 2305843009213693921 (by omega), by decide, by decide⟩⟩
  rw [cf_s (g := f42) rfl]
  have hb : f42.body = .set 2 (.ite (.cmp .Lt (.var 1) (.bi .len [.var 0])) (.idx (.var 0) (.var 1)) (.bin .Add (.bin .Add (.bin .Mod (.bi .int [.bi .sum [.slc (.var 0) none (some (.cst (.int 1)))]]) (.cst (.int 1000003))) (.bin .Mult (.cst (.int 1409)) (.var 1))) (.cst (.int 1023)))) :: f42.body.tail := rfl
  have hN : f42.N.length = 5 := rfl
  have hn : f42.np = 2 := rfl
  simp only [runF, hN, hn]
  rw [hb]
  simp only [List.length_cons, List.length_nil, List.map_cons, List.map_nil, List.replicate, List.cons_append, List.nil_append, y_c, y_set, hcell]
  by_cases hQ : Q2 ≤ cell.natAbs <;> simp [f42, pw1, pw2, pw3, md, md2, md3, t1, t0, n1, n2, n3, hQ, D.pure]
theorem l_cells {k : Nat} {S : Sto} {ns : List Int} : ∃ m : Nat, m ≤ 3 ∧ callF prg (k + 1) 46 [scr ns, .int 3] S = some (.lst (rangeL 0 m), S) := by
  obtain ⟨q, hq, h0, h3⟩ : ∃ q : Int, (if 1 < (if (ns.length : Int) < 3 then (ns.length : Int) else 3) then (if (ns.length : Int) < 3 then (ns.length : Int) else 3) else 1) = q ∧ 0 ≤ q ∧ q ≤ 3 := ⟨_, rfl, by split <;> (try split) <;> omega, by split <;> (try split) <;> omega⟩
  refine ⟨q.toNat, by omega, ?_⟩
  rw [cf_s (g := f46) rfl]
  have rg : rngD [.int q] = some (rangeL 0 q.toNat) := if_pos (by
    unfold rangeOk
    simp only [Bool.and_eq_true, decide_eq_true_eq]
    refine ⟨⟨⟨⟨?_, ?_⟩, ?_⟩, ?_⟩, ?_⟩ <;> first | decide | omega)
  have pr : ∀ (m : Nat), pures (rangeL 0 m) = true := fun m => by
    unfold rangeL
    induction (List.range m) with
    | nil => rfl
    | cons a l ih =>
      show (true && pures _) = true
      rw [Bool.true_and]
      exact ih
  simp [f46, runF, scr, List.replicate, hq, rg, pr]
end Pv.K08

set_option Elab.async false
set_option linter.all false
set_option maxRecDepth 100000
set_option maxHeartbeats 4000000
namespace Pv.K08
open PySem PySem.Spec PyProof.Rows L2
theorem shl1 {n : Nat} (hn : n ≤ 800) : binD .LShift (.int 1) (.int n) = some (.int (2 ^ n)) := by
  have h : szShl 1 (n : Int) = true := by
    unfold szShl
    simp only [Bool.and_eq_true, decide_eq_true_eq]
    exact ⟨⟨by omega, by omega⟩, by decide⟩
  rw [b_shl h, Int.one_mul]
  simp
theorem bd_pow {n : Nat} : Bd (n + 1) ((2 : Int) ^ n) := by
  unfold Bd
  rw [Int.natAbs_pow]
  exact Nat.pow_lt_pow_right (by decide) (by omega)
theorem pow_pos' {n : Nat} : (0 : Int) < 2 ^ n := Int.pow_pos (by decide)
/-- a whole number over N beside a moment, the law's way -/
theorem l_compare_k {k m : Nat} {S : Sto} {x : Mo} {K N : Int} (hx : x.ok m) (hm : m ≤ 150) (bK : Bd 500 K) (bN : Bd 450 N) (hN : 0 < N) :
    callF prg (k + 4) 54 [.tup [.int K, .int 0, .int 0, .int N], x.n] S = some (.int (sq1 (K * x.w - x.p * N) (-x.q * N) (x.e 1)), S) := by
  have key : ∀ x : Mo, x.n = .tup [.int x.p, .int x.q, .int (x.e 0), .int x.w] := fun x => by cases x <;> rfl
  have be0 : Bd (2 * m + 4) (x.e 0) := by
    cases x with
    | f u v => exact bd0
    | r a b c s => exact hx.bdisc
  have up : ∀ {i : Nat} {z : Int}, Bd i z → i ≤ 1000 → Bd 1000 z := fun h e => h.mono e
  have M : ∀ {z t : Int}, Bd 1000 z → Bd 1000 t → binD .Mult (.int z) (.int t) = some (.int (z * t)) := fun h q => b_mul (szMul_ok h q)
  have b1 : Bd 1000 (K * x.w - x.p * N) := (bK.mul (mo_w hx)).sub ((mo_p hx).mul bN) (by omega) (by omega)
  have ss := l_sign_two (k := k) (S := S) (b := 0) (d := 0) b1 bd0 bd0 (up ((mo_q hx).neg.mul bN) (by omega)) (up be0 (by omega))
  have el : sgL (K * x.w - x.p * N) 0 0 (-x.q * N) (x.e 0) = sq1 (K * x.w - x.p * N) (-x.q * N) (x.e 1) := by
    cases x with
    | f u v =>
      show sgL _ 0 0 (-0 * N) 0 = sq1 _ (-0 * N) 1
      rw [Int.neg_zero, Int.zero_mul, sgL_ff (x := 0) (y := 0), sq1_0]
    | r a b c s => exact sgL_fr hx.pos (Int.mul_ne_zero (by show -s ≠ 0; rcases hx.s1 with g | g <;> omega) (by omega))
  rw [el] at ss
  have m1 := M (up bK (by omega)) (up (mo_w hx) (by omega))
  have m2 := M (up (mo_p hx) (by omega)) (up bN (by omega))
  have m3 : binD .Mult (.int 0) (.int x.w) = some (.int (0 * x.w)) := M bd0 (up (mo_w hx) (by omega))
  have m4 := M (up (mo_q hx).neg (by omega)) (up bN (by omega))
  simp only [Int.neg_mul] at ss m4
  rw [cf_s (g := f54) rfl]
  simp [f54, runF, L2.ixN, List.replicate, key, m1, m2, m3, m4, ss]
  rw [Int.neg_mul]
theorem l_root_0 {k : Nat} {S : Sto} : callF prg (k + 1) 49 [.int 0] S = some (.int 0, S) := by
  rw [cf_s (g := f49) rfl]
  have d2 : binD .FloorDiv (.int 0) (.int 2) = some (.int 0) := rfl
  have d3 : binD .FloorDiv (.int 2) (.int 2) = some (.int 1) := rfl
  have s1 : binD .LShift (.int 1) (.int 1) = some (.int 2) := rfl
  have m1 : binD .Mult (.int 1) (.int 1) = some (.int 1) := rfl
  have hb : ((Builtin.Int.intBits 0 : Nat) : Int) = 0 := rfl
  have hm : most = (most - 2) + 1 + 1 := by
    have h := most_eq
    have : 2 ≤ most := by
      rw [h]
      exact Nat.le_trans (by decide : 2 ≤ 2 ^ 1) (Nat.pow_le_pow_right (by decide) (by decide))
    omega
  have e : whl (cW prg (callF prg k) (.cmp .Gt (.bin .Sub (.var 2) (.var 1)) (.cst (.int 1)))) (bW prg (callF prg k) [.set 3 (.bin .FloorDiv (.bin .Add (.var 1) (.var 2)) (.cst (.int 2))), .unp (.tp [.nm 1, .nm 2]) (.ite (.cmp .LtE (.bin .Mult (.var 3) (.var 3)) (.var 0)) (.tup [.var 3, .var 2]) (.tup [.var 1, .var 3]))]) most
      [some (false, .int 0), some (false, .int 0), some (false, .int 2), none] S = some (.nx [some (false, .int 0), some (false, .int 0), some (false, .int 1), some (false, .int 1)], S) := by
    rw [hm]
    simp [whl, d3, m1]
  simp [f49, runF, L2.ixN, List.replicate, hb, d2, s1, e]
/-- over the floor is what is greater -/
theorem over_floor {m : Nat} {x : Mo} {N h K : Int} (hx : x.ok m) (hN : 0 < N) (h0 : 0 ≤ h) (h1 : h * h ≤ x.e 1 * N * N) (h2 : x.e 1 * N * N < (h + 1) * (h + 1)) : 0 < sq1 (K * x.w - x.p * N) (-x.q * N) (x.e 1) ↔ floM N h x < K := by
  have f := flo_iff (k := K) hx hN h0 h1 h2
  have e1 : K * x.w - x.p * N = -(x.p * N - K * x.w) := by omega
  have e2 : -x.q * N = -(x.q * N) := Int.neg_mul _ _
  rw [e1, e2, ← sq1_lt]
  constructor
  · intro g
    apply Classical.byContradiction
    intro q
    exact f.mp (by omega) g
  · intro g
    apply Classical.byContradiction
    intro q
    have := f.mpr q
    omega
theorem h_uniq {h g X : Int} (h0 : 0 ≤ h) (g0 : 0 ≤ g) (h1 : h * h ≤ X) (h2 : X < (h + 1) * (h + 1)) (g1 : g * g ≤ X) (g2 : X < (g + 1) * (g + 1)) : h = g := by
  have a := fun q => sq_le (x := h + 1) (y := g) (by omega) q
  have b := fun q => sq_le (x := g + 1) (y := h) (by omega) q
  rcases Int.lt_trichotomy h g with q | q | q
  · have := a (by omega); omega
  · exact q
  · have := b (by omega); omega
theorem y_ins {P : Prg} {cf : Nat → List D → Sto → Option (D × Sto)} {i : Nat} {a b : E} {r : Rho} {S : Sto} {ds : List D} {t : Int} {d : D} (ha : evE P cf a r S = some (.int t, S)) (hb : evE P cf b r S = some (d, S)) (hr : r[i]? = some (some (true, .lst ds))) (hk : ds.length < 100000 ∧ 0 ≤ t ∧ t ≤ ds.length) :
    exS P cf (.ins i a b) r S = some (.nx (r.set i (some (true, .lst (ds.take t.toNat ++ d :: ds.drop t.toNat)))), S) := by
  rw [exS, ha]
  show (evE P cf b r S).bind _ = _
  rw [hb]
  simp only [Option.bind_some, hr]
  exact if_pos hk
def body57 : List C := match f57.body with
  | _ :: .for_ _ _ b :: _ => b
  | _ => []
theorem dv_half {lo hi md : Nat} (h : md = (lo + hi) / 2) : binD .FloorDiv (.int ((lo : Int) + (hi : Int))) (.int 2) = some (.int (md : Int)) := by
  rw [b_div (by decide), Int.fdiv_eq_ediv_of_nonneg _ (by decide)]
  congr 2
  omega
theorem pures_map {V : Mo → D} (h : ∀ x, (V x).pure = true) : ∀ xs : List Mo, pures (xs.map V) = true
  | [] => rfl
  | x :: xs => by
    show ((V x).pure && pures (xs.map V)) = true
    rw [h, pures_map h xs]
    rfl
theorem mn_pure (x : Mo) : x.n.pure = true := by cases x <;> rfl
theorem s_is_moment {k m : Nat} {S : Sto} {x : Mo} (hx : x.ok m) (hm : m ≤ 1500) : callF prg (k + 3) 16 [x.d] S = some (.bl true, S) := by
  cases x with
  | f u v =>
    rw [cf_s (g := f16) rfl]
    have e := s_is_fraction_t (k := k) (S := S) hx hm
    simp [f16, runF, L2.ixN, List.replicate, e, Mo.d]
  | r a b c s => exact s_is_moment_r hx hm
theorem compL_map {f : D → Sto → Option (Option D × Sto)} {V W : Mo → D} {S : Sto} : ∀ xs : List Mo, (∀ x ∈ xs, f (V x) S = some (some (W x), S)) → compL f (xs.map V) S = some (xs.map W, S)
  | [], _ => rfl
  | x :: xs, h => compL_cons (h x List.mem_cons_self) (compL_map xs fun y hy => h y (List.mem_cons_of_mem _ hy))
theorem bools_map : ∀ xs : List Mo, boolsOf (xs.map fun _ => D.bl true) = some (xs.map fun _ => true)
  | [] => rfl
  | x :: xs => by simp [bools_map xs]
end Pv.K08

set_option Elab.async false
set_option linter.all false
set_option maxRecDepth 100000
set_option maxHeartbeats 4000000
namespace Pv.K08
open PySem PySem.Spec PyProof.Rows L2
theorem low_pure (c : Cu) : (lowD c).pure = true := by
  show (c.1.1.d.pure && (true && true)) = true
  rw [show c.1.1.d.pure = true by cases c.1.1 <;> rfl]
  rfl
theorem hi_pure (c : Cu) : (hiD c).pure = true := by
  show (c.1.1.d.pure && (true && true)) = true
  rw [show c.1.1.d.pure = true by cases c.1.1 <;> rfl]
  rfl
theorem mo_pure (x : Mo) : x.d.pure = true := by cases x <;> rfl
theorem mo_deB {S : Sto} (x : Mo) : deB S x.d = x.d := by cases x <;> rfl
theorem mo_wk (x : Mo) : wk x.d = x.d := by cases x <;> rfl
theorem s_low_edges {k : Nat} {S : Sto} {a b : Cu} : callF prg (k + 5) 23 [lowD a, lowD b] S = some (.bl (decide (¬ ltC b a)), S) := by
  obtain ⟨x, i⟩ := a
  obtain ⟨y, j⟩ := b
  rw [cf_s (g := f23) rfl]
  have e := s_compared_moments (k := k) (S := S) x.2 y.2 (by omega)
  have h := ltC_by' (x := x) (y := y) (a := i) (b := j)
  generalize cmpM x.1 y.1 = c at *
  have eD : (¬ ltC (y, j) (x, i)) ↔ (c < 0 ∨ (c = 0 ∧ (i = false ∨ j = true))) := by
    rw [h]
    cases i <;> cases j <;> simp <;> omega
  simp only [eD]
  by_cases h1 : c < 0
  · simp [f23, runF, L2.ixN, List.replicate, lowD, e, h1]
  · by_cases h2 : c = 0
    · subst h2
      cases i <;> cases j <;> simp [f23, runF, L2.ixN, List.replicate, lowD, e]
    · simp [f23, runF, L2.ixN, List.replicate, lowD, e, h1, h2]
theorem mxE (a b : Cu) : mx ltC a b = if ltC b a then a else b := by
  unfold mx
  rcases linC.tot a b with h | h | h
  · rw [if_pos h, if_neg (linC.as h)]
  · subst h
    rw [if_neg (linC.ir a)]
  · rw [if_neg (linC.as h), if_pos h]
theorem s_greater_low {k : Nat} {S : Sto} {a b : Cu} : callF prg (k + 6) 24 [lowD a, lowD b] S = some (lowD (mx ltC a b), S) := by
  rw [cf_s (g := f24) rfl, mxE]
  by_cases h : ltC b a
  · simp [f24, runF, L2.ixN, List.replicate, s_low_edges (k := k), h, low_pure]
  · simp [f24, runF, L2.ixN, List.replicate, s_low_edges (k := k), h, low_pure]
theorem s_lesser_high {k : Nat} {S : Sto} {a b : Cu} : callF prg (k + 5) 25 [hiD a, hiD b] S = some (hiD (mn ltC a b), S) := by
  obtain ⟨x, i⟩ := a
  obtain ⟨y, j⟩ := b
  rw [cf_s (g := f25) rfl]
  have e := s_compared_moments (k := k) (S := S) x.2 y.2 (by omega)
  have h := ltC_by' (x := x) (y := y) (a := i) (b := j)
  rcases Int.lt_trichotomy (cmpM x.1 y.1) 0 with q | q | q
  · have hn : ¬ ltC (y, j) (x, i) := fun z => by have := h.mp z; omega
    have h0 : ¬ cmpM x.1 y.1 = 0 := by omega
    unfold mn
    rw [if_neg hn]
    simp [f25, runF, L2.ixN, List.replicate, hiD, e, q, h0, mo_pure, D.pure, pures]
  · have hxy := om_zero.mp q
    subst hxy
    rw [cmpM_self] at e h
    unfold mn
    simp only [h]
    cases i <;> cases j <;> simp [f25, runF, L2.ixN, List.replicate, hiD, e, mo_pure, D.pure, pures]
  · have hn : ltC (y, j) (x, i) := h.mpr (.inl q)
    have h0 : ¬ cmpM x.1 y.1 = 0 := by omega
    have h1 : ¬ cmpM x.1 y.1 < 0 := by omega
    unfold mn
    rw [if_pos hn]
    simp [f25, runF, L2.ixN, List.replicate, hiD, e, h0, h1, mo_pure, D.pure, pures]
theorem s_greater_high {k : Nat} {S : Sto} {a b : Cu} : callF prg (k + 5) 26 [hiD a, hiD b] S = some (hiD (mx ltC a b), S) := by
  obtain ⟨x, i⟩ := a
  obtain ⟨y, j⟩ := b
  rw [cf_s (g := f26) rfl]
  have e := s_compared_moments (k := k) (S := S) x.2 y.2 (by omega)
  have h := ltC_by (x := x) (y := y) (a := i) (b := j)
  rcases Int.lt_trichotomy (cmpM x.1 y.1) 0 with q | q | q
  · have hn : ltC (x, i) (y, j) := h.mpr (.inl q)
    have h0 : ¬ cmpM x.1 y.1 = 0 := by omega
    have h1 : ¬ 0 < cmpM x.1 y.1 := by omega
    unfold mx
    rw [if_pos hn]
    simp [f26, runF, L2.ixN, List.replicate, hiD, e, h0, h1, mo_pure, D.pure, pures]
  · have hxy := om_zero.mp q
    subst hxy
    rw [cmpM_self] at e h
    unfold mx
    simp only [h]
    cases i <;> cases j <;> simp [f26, runF, L2.ixN, List.replicate, hiD, e, mo_pure, D.pure, pures]
  · have hn : ¬ ltC (x, i) (y, j) := fun z => by have := h.mp z; omega
    have h0 : ¬ cmpM x.1 y.1 = 0 := by omega
    unfold mx
    rw [if_neg hn]
    simp [f26, runF, L2.ixN, List.replicate, hiD, e, h0, q, mo_pure, D.pure, pures]
theorem s_made {k : Nat} {S : Sto} {a b : Cu} : callF prg (k + 5) 27 [lowD a, hiD b] S = some (.lst ((mk1 ltC a b).map stD), S) := by
  obtain ⟨x, i⟩ := a
  obtain ⟨y, j⟩ := b
  rw [cf_s (g := f27) rfl]
  have e := s_compared_moments (k := k) (S := S) x.2 y.2 (by omega)
  have h := ltC_by (x := x) (y := y) (a := i) (b := j)
  rcases Int.lt_trichotomy (cmpM x.1 y.1) 0 with q | q | q
  · have hn : ltC (x, i) (y, j) := h.mpr (.inl q)
    have h0 : ¬ cmpM x.1 y.1 = 0 := by omega
    have h1 : ¬ 0 < cmpM x.1 y.1 := by omega
    unfold mk1
    rw [if_pos hn]
    simp [f27, runF, L2.ixN, List.replicate, lowD, hiD, stD, e, h0, h1, mo_pure, D.pure, pures]
  · have hxy := om_zero.mp q
    subst hxy
    rw [cmpM_self] at e h
    unfold mk1
    simp only [h]
    cases i <;> cases j <;> simp [f27, runF, L2.ixN, List.replicate, lowD, hiD, stD, e, mo_pure, D.pure, pures]
  · have hn : ¬ ltC (x, i) (y, j) := fun z => by have := h.mp z; omega
    unfold mk1
    rw [if_neg hn]
    simp [f27, runF, L2.ixN, List.replicate, lowD, hiD, e, q, D.pure, pures]
theorem s_are_apart {k : Nat} {S : Sto} {a b : Cu} : callF prg (k + 5) 28 [hiD a, lowD b] S = some (.bl (decide (ltC a b)), S) := by
  obtain ⟨x, i⟩ := a
  obtain ⟨y, j⟩ := b
  rw [cf_s (g := f28) rfl]
  have e := s_compared_moments (k := k) (S := S) x.2 y.2 (by omega)
  have h := ltC_by (x := x) (y := y) (a := i) (b := j)
  simp only [h]
  generalize cmpM x.1 y.1 = c at *
  by_cases h1 : c < 0
  · simp [f28, runF, L2.ixN, List.replicate, lowD, hiD, e, h1]
  · by_cases h2 : c = 0
    · subst h2
      cases i <;> cases j <;> simp [f28, runF, L2.ixN, List.replicate, lowD, hiD, e]
    · simp [f28, runF, L2.ixN, List.replicate, lowD, hiD, e, h1, h2]
/-! what any value is -/
theorem ne_nil {ds : List D} (h : okPy (.lst ds) = true) : cmpD .NotEq (.lst ds) (.lst []) = some (!ds.isEmpty) := by
  show (if okPy (.lst ds) && okPy (.lst []) then some (!eqD (.lst ds) (.lst [])) else none) = _
  rw [h, show okPy (.lst []) = true from rfl]
  cases ds <;> rfl
theorem eq_nil {ds : List D} (h : okPy (.lst ds) = true) : cmpD .Eq (.lst ds) (.lst []) = some ds.isEmpty := by
  show (if okPy (.lst ds) && okPy (.lst []) then some (eqD (.lst ds) (.lst [])) else none) = _
  rw [h, show okPy (.lst []) = true from rfl]
  cases ds <;> rfl
theorem net_nil {ds : List D} (h : okPy (.tup ds) = true) : cmpD .NotEq (.tup ds) (.tup []) = some (!ds.isEmpty) := by
  show (if okPy (.tup ds) && okPy (.tup []) then some (!eqD (.tup ds) (.tup [])) else none) = _
  rw [h, show okPy (.tup []) = true from rfl]
  cases ds <;> rfl
theorem compL_mem {f : D → Sto → Option (Option D × Sto)} {W : D → D} {S : Sto} : ∀ ds : List D, (∀ d ∈ ds, f d S = some (some (W d), S)) → compL f ds S = some (ds.map W, S)
  | [], _ => rfl
  | x :: xs, h => compL_cons (h x List.mem_cons_self) (compL_mem xs fun y hy => h y (List.mem_cons_of_mem _ hy))
theorem bools_const : ∀ xs : List D, boolsOf (xs.map fun _ => D.bl true) = some (xs.map fun _ => true)
  | [] => rfl
  | x :: xs => by simp [bools_const xs]
theorem all_tt : ∀ xs : List D, (xs.all fun _ => true) = true
  | [] => rfl
  | x :: xs => all_tt xs
theorem s_is_stretch {k : Nat} {S : Sto} {s : Cu × Cu} (h : ltC s.1 s.2) : callF prg (k + 6) 29 [stD s] S = some (.bl true, S) := by
  rw [cf_s (g := f29) rfl]
  have t := s_is_tuple (k := k + 4) (S := S) (xs := [s.1.1.1.d, .bl (!s.1.2), s.2.1.1.d, .bl s.2.2]) (a := 4) (b := 4)
  simp at t
  have m1 := s_is_moment (k := k + 2) (S := S) s.1.1.2 (by omega)
  have m2 := s_is_moment (k := k + 2) (S := S) s.2.1.2 (by omega)
  have md := s_made (k := k) (S := S) (a := s.1) (b := s.2)
  have e1 : mk1 ltC s.1 s.2 = [s] := if_pos h
  rw [e1] at md
  have md' : callF prg (k + 5) 27 [.tup [s.1.1.1.d, .bl (!s.1.2)], .tup [s.2.1.1.d, .bl s.2.2]] S = some (.lst [stD s], S) := md
  have ne := ne_nil (ds := [stD s]) (pd_ok (pd_stl [s]) (by omega))
  have i1 : L2.atI [s.1.1.1.d, .bl (!s.1.2), s.2.1.1.d, .bl s.2.2] (-1) = some (.bl s.2.2) := rfl
  have hb : ∀ b : Bool, biD .isBool [.bl b] = some (.bl true) := fun b => rfl
  show runF prg _ f29 [.tup [s.1.1.1.d, .bl (!s.1.2), s.2.1.1.d, .bl s.2.2]] S = _
  simp [f29, runF, L2.ixN, List.replicate, t, i1, m1, m2, md', ne, hb]
theorem zip_can : ∀ (L : List (Cu × Cu)), Can ltC L → ∀ d ∈ zipL (L.map stD) ((L.drop 1).map stD), ∃ s t : Cu × Cu, d = .tup [stD s, stD t] ∧ ltC s.2 t.1
  | [], _, d, h => absurd h List.not_mem_nil
  | [s], _, d, h => absurd h List.not_mem_nil
  | s :: t :: l, hC, d, h => by
    have h' : d ∈ D.tup [stD s, stD t] :: zipL ((t :: l).map stD) (((t :: l).drop 1).map stD) := h
    obtain ⟨_, h2, h3⟩ := can_cons hC
    rcases List.mem_cons.mp h' with rfl | h'
    · exact ⟨s, t, rfl, h2 t List.mem_cons_self⟩
    · exact zip_can (t :: l) h3 d h'
theorem zip_len : ∀ xs ys : List D, (zipL xs ys).length ≤ xs.length
  | [], _ => Nat.le_refl _
  | _ :: _, [] => Nat.zero_le _
  | x :: xs, y :: ys => Nat.succ_le_succ (zip_len xs ys)
theorem s_check_stretches {k : Nat} {S : Sto} {L : List (Cu × Cu)} (h : Can ltC L) (hl : L.length < 1000) : callF prg (k + 8) 31 [.tup (L.map stD)] S = some (.non, S) := by
  have e : callF prg (k + 7) 30 [.tup (L.map stD)] S = some (.bl true, S) := by
    rw [cf_s (g := f30) rfl]
    have c1 : compL (cmpB prg (callF prg (k + 6)) [1] (.nm 1) [] (.call 29 [.var 1]) [some (false, .tup (L.map stD)), none, none]) (L.map stD) S = some ((L.map stD).map fun _ => D.bl true, S) :=
      compL_mem _ fun d hd => by
        obtain ⟨s, hs, rfl⟩ := List.mem_map.mp hd
        simp [runF, L2.ixN, List.replicate, wipeR, s_is_stretch (k := k) (h.1 s hs)]
    have sl : slcD (.tup (L.map stD)) (some 1) none = some (.tup ((L.drop 1).map stD)) := by
      have := cut_from (xs := L.map stD) (k := 1)
      rw [← List.map_drop] at this
      show some (D.tup (cutD (L.map stD) (some 1) none)) = _
      rw [← this]
      rfl
    have c2 : compL (cmpB prg (callF prg (k + 6)) [1, 2] (.tp [.nm 1, .nm 2]) [] (.call 28 [.slc (.var 1) (some (.cst (.int 2))) none, .slc (.var 2) none (some (.cst (.int 2)))]) [some (false, .tup (L.map stD)), none, none]) (zipL (L.map stD) ((L.drop 1).map stD)) S = some ((zipL (L.map stD) ((L.drop 1).map stD)).map fun _ => D.bl true, S) :=
      compL_mem _ fun d hd => by
        obtain ⟨s, t, rfl, lt⟩ := zip_can L h d hd
        simp [runF, L2.ixN, List.replicate, wipeR, st_deB, st_wk, st_lo, st_hi, s_are_apart (k := k + 1), lt]
    have l1 : (L.map stD).length < 100000 := by rw [List.length_map]; omega
    have l2 : (zipL (L.map stD) ((L.drop 1).map stD)).length < 100000 := Nat.lt_of_le_of_lt (zip_len _ _) l1
    generalize (L.drop 1).map stD = Y at *
    generalize L.map stD = X at *
    simp only [f30, runF]
    simp [c1, c2, l1, l2, bools_const, all_tt, sl]
  rw [cf_s (g := f31) rfl]
  simp [f31, runF, L2.ixN, List.replicate, e]
end Pv.K08

set_option Elab.async false
set_option linter.all false
set_option maxRecDepth 100000
set_option maxHeartbeats 4000000
namespace Pv.K08
open PySem PySem.Spec PyProof.Rows L2
section
variable {P : Prg} {cf : Nat → List D → Sto → Option (D × Sto)} {r : Rho} {S S1 S2 : Sto}
theorem y_par2 {i j : Nat} {a b : Bool} {e f : E} {d1 d2 : D} (h1 : evE P cf e r S = some (d1, S1)) (h2 : evE P cf f r S1 = some (d2, S2)) (h : (okOwn a d1 && okOwn b d2 && decide (i < r.length ∧ j < r.length ∧ i ≠ j)) = true) :
    exS P cf (.par2 i a e j b f) r S = some (.nx ((r.set i (some (a, d1))).set j (some (b, d2))), S2) := by
  rw [exS, h1]
  show (evE P cf f r S1).bind _ = _
  rw [h2]
  exact if_pos h
theorem y_ext {i : Nat} {e : E} {ds xs : List D} (h : evE P cf e r S = some (.lst xs, S1)) (hr : r[i]? = some (some (true, .lst ds))) (hl : ds.length + xs.length < 100000) : exS P cf (.ext i e) r S = some (.nx (r.set i (some (true, .lst (ds ++ xs)))), S1) := by
  rw [exS, h]
  simp only [Option.bind_some, hr]
  exact if_pos hl
theorem y_puto {i : Nat} {k e : E} {d : D} {t : Int} {ds : List D} {j : Nat} (h : evE P cf e r S = some (d, S1)) (h2 : evE P cf k r S1 = some (.int t, S2)) (hr : r[i]? = some (some (true, .lst ds))) (hj : L2.ixN ds.length t = some j) : exS P cf (.puto i k e) r S = some (.nx (r.set i (some (true, .lst (ds.set j d)))), S2) := by
  rw [exS, h]
  show (evE P cf k r S1).bind _ = _
  rw [h2]
  simp only [Option.bind_some, hr, hj, Option.map_some]
theorem y_insr {i n : Nat} {a b : E} {d : D} {t : Int} {ds : List D} (h : evE P cf a r S = some (.int t, S1)) (h2 : evE P cf b r S1 = some (d, S2)) (hr : r[i]? = some (some (false, .ref n))) (hn : S2[n]? = some ds) (hk : ds.length < 100000 ∧ 0 ≤ t ∧ t ≤ ds.length ∧ d.pure = true) :
    exS P cf (.insr i a b) r S = some (.nx r, S2.set n (ds.take t.toNat ++ d :: ds.drop t.toNat)) := by
  rw [exS, h]
  show (evE P cf b r S1).bind _ = _
  rw [h2]
  simp only [Option.bind_some, hr, hn]
  exact if_pos hk
theorem y_lnd {i f : Nat} {es : List E} {ds xs ys : List D} {d : D} (h : evEs P cf es r S = some (ds, S1)) (hr : r[i]? = some (some (true, .lst xs))) (hp : pures xs = true) (hc : cf f (.ref S1.length :: ds) (S1 ++ [xs]) = some (d, S1 ++ [ys])) :
    exS P cf (.lnd i f es) r S = some (.nx (r.set i (some (true, .lst ys))), S1) := by
  rw [exS, h]
  simp only [Option.bind_some, hr, hp, if_true, hc]
  simp
end
theorem low_items {S : Sto} (c : Cu) : itemsD (wk (deB S (lowD c))) = some [c.1.1.d, .bl (!c.2)] := rfl
theorem hi_items {S : Sto} (c : Cu) : itemsD (wk (deB S (hiD c))) = some [c.1.1.d, .bl c.2] := rfl
theorem low_deB {S : Sto} (c : Cu) : deB S (lowD c) = lowD c := rfl
theorem hi_deB {S : Sto} (c : Cu) : deB S (hiD c) = hiD c := rfl
theorem put_loop {k n : Nat} {S : Sto} {F : List (Cu × Cu)} {s : Cu × Cu} (hS : S[n]? = some (F.map stD)) : ∀ (j : Nat), j ≤ F.length → (∀ i y, j ≤ i → F[i]? = some y → ltC s.1 y.1) → ∀ m, j < m → ∃ r, r ≤ F.length ∧ (∀ z, r = z + 1 → ∃ y, F[z]? = some y ∧ ¬ ltC s.1 y.1) ∧ (∀ i y, r ≤ i → F[i]? = some y → ltC s.1 y.1) ∧
    whl (cW prg (callF prg (k + 5)) (.and (.cmp .Gt (.var 2) (.cst (.int 0))) (.not (.call 23 [.slc (.idx (.var 0) (.bin .Sub (.var 2) (.cst (.int 1)))) none (some (.cst (.int 2))), .slc (.var 1) none (some (.cst (.int 2)))])))) (bW prg (callF prg (k + 5)) [.aug 2 .Sub (.cst (.int 1))]) m
      [some (false, .ref n), some (false, stD s), some (false, .int (j : Int))] S = some (.nx [some (false, .ref n), some (false, stD s), some (false, .int (r : Int))], S)
  | 0, hj, hi, m, hm => by
    refine ⟨0, hj, fun z hz => by omega, hi, ?_⟩
    obtain ⟨m', rfl⟩ : ∃ m', m = m' + 1 := ⟨m - 1, by omega⟩
    rw [whl]
    simp [runF, L2.ixN, List.replicate]
  | z + 1, hj, hi, m, hm => by
    obtain ⟨m', rfl⟩ : ∃ m', m = m' + 1 := ⟨m - 1, by omega⟩
    obtain ⟨y, hy⟩ : ∃ y, F[z]? = some y := ⟨F[z]'(by omega), List.getElem?_eq_getElem (by omega)⟩
    have ix : L2.atI (F.map stD) (z : Int) = some (stD y) := atI_get (by simp [hy])
    have g0 : (0 : Int) < (z : Int) + 1 := by omega
    have g1 : (z : Int) + 1 - 1 = z := by omega
    have le := s_low_edges (k := k) (S := S) (a := y.1) (b := s.1)
    by_cases q : ltC s.1 y.1
    · obtain ⟨r, r1, r2, r3, e⟩ := put_loop (k := k) hS z (by omega) (fun i y' h1 h2 => by
        by_cases w : i = z
        · subst w
          rw [hy] at h2
          injection h2 with h2
          rw [← h2]
          exact q
        · exact hi i y' (by omega) h2) m' (by omega)
      refine ⟨r, r1, r2, r3, ?_⟩
      rw [whl]
      simp [runF, L2.ixN, List.replicate, deB_ref hS, ix, g0, g1, st_deB, st_wk, st_lo, le, q]
      exact e
    · refine ⟨z + 1, hj, fun w hw => ⟨y, by rw [show w = z by omega]; exact hy, q⟩, hi, ?_⟩
      rw [whl]
      simp [runF, L2.ixN, List.replicate, deB_ref hS, ix, g0, g1, st_deB, st_wk, st_lo, le, q]
theorem s_put_in {F : List (Cu × Cu)} {s : Cu × Cu} (hF : Lined ltC F) (hl : F.length < 1000) : ∃ F' : List (Cu × Cu), Lined ltC F' ∧ (∀ t, t ∈ F' ↔ t = s ∨ t ∈ F) ∧ F'.length = F.length + 1 ∧
    ∀ (k n : Nat) (S : Sto), S[n]? = some (F.map stD) → callF prg (k + 6) 33 [.ref n, stD s] S = some (.non, S.set n (F'.map stD)) := by
  have big : F.length < most := by
    have : 1000 < most := lt_most (show Bd 20 (1000 : Int) by unfold Bd; decide) (by decide)
    omega
  -- the place is the same in each store
  have key : ∃ r, r ≤ F.length ∧ (∀ z, r = z + 1 → ∃ y, F[z]? = some y ∧ ¬ ltC s.1 y.1) ∧ (∀ i y, r ≤ i → F[i]? = some y → ltC s.1 y.1) := by
    obtain ⟨r, r1, r2, r3, _⟩ := put_loop (k := 0) (n := 0) (S := [F.map stD]) (F := F) (s := s) rfl F.length (Nat.le_refl _) (fun i y h1 h2 => by
      have := (List.getElem?_eq_some_iff.mp h2).1
      omega) most big
    exact ⟨r, r1, r2, r3⟩
  obtain ⟨r, r1, r2, r3⟩ := key
  refine ⟨F.take r ++ s :: F.drop r, lined_ins linC F r hF r1 r2 r3, fun t => mem_ins, by simp; omega, fun k n S hS => ?_⟩
  obtain ⟨r', a1, a2, a3, e⟩ := put_loop (k := k) (s := s) hS F.length (Nat.le_refl _) (fun i y h1 h2 => by
    have := (List.getElem?_eq_some_iff.mp h2).1
    omega) most big
  have hr : r' = r := by
    rcases Nat.lt_trichotomy r' r with h | h | h
    · obtain ⟨y, hy, q⟩ := r2 (r - 1) (by omega)
      exact absurd (a3 (r - 1) y (by omega) hy) q
    · exact h
    · obtain ⟨y, hy, q⟩ := a2 (r' - 1) (by omega)
      exact absurd (r3 (r' - 1) y (by omega) hy) q
  subst hr
  have hn := (List.getElem?_eq_some_iff.mp hS).1
  have ins := y_insr (P := prg) (cf := callF prg (k + 5)) (i := 0) (a := .var 2) (b := .var 1) (r := [some (false, .ref n), some (false, stD s), some (false, .int (r' : Int))]) (S := S) (S1 := S) (S2 := S) (ds := F.map stD) (t := r') (d := stD s) (by simp [runF, L2.ixN, List.replicate]) (by simp [runF, L2.ixN, List.replicate]) rfl hS ⟨by simp; omega, by omega, by simp; omega, st_pure s⟩
  have em : (F.map stD).take (r' : Int).toNat ++ stD s :: (F.map stD).drop (r' : Int).toNat = (F.take r' ++ s :: F.drop r').map stD := by simp
  rw [em] at ins
  have tk : (S.set n ((F.take r' ++ s :: F.drop r').map stD)).take S.length = S.set n ((F.take r' ++ s :: F.drop r').map stD) := List.take_of_length_le (by rw [List.length_set]; exact Nat.le_refl _)
  rw [cf_s (g := f33) rfl]
  generalize (F.take r' ++ s :: F.drop r').map stD = Z at *
  simp [f33, runF, L2.ixN, List.replicate, deB_ref hS, e, ins, tk]
theorem line_up : ∀ (xs F : List (Cu × Cu)), Lined ltC F → F.length + xs.length < 1000 → ∃ G : List (Cu × Cu), Lined ltC G ∧ (∀ t, t ∈ G ↔ t ∈ F ∨ t ∈ xs) ∧ G.length = F.length + xs.length ∧
    ∀ (k : Nat) (a s1 b : Slot) (S : Sto), ∃ t1 : Slot, forL (.nm 1) (bW prg (callF prg (k + 6)) [.lnd 2 33 [.var 1]]) (xs.map stD) [a, s1, some (true, .lst (F.map stD)), b] S = some (.nx [a, t1, some (true, .lst (G.map stD)), b], S)
  | [], F, hF, _ => ⟨F, hF, fun t => by simp, by simp, fun k a s1 b S => ⟨s1, rfl⟩⟩
  | x :: xs, F, hF, hl => by
    have hl' : F.length + (xs.length + 1) < 1000 := hl
    obtain ⟨F', a1, a2, a3, a4⟩ := s_put_in (s := x) hF (by omega)
    obtain ⟨G, g1, g2, g3, g4⟩ := line_up xs F' a1 (by omega)
    refine ⟨G, g1, fun t => ?_, by rw [g3, a3]; show _ = F.length + (xs.length + 1); omega, fun k a s1 b S => ?_⟩
    · rw [g2, a2, List.mem_cons]
      constructor
      · rintro ((h | h) | h)
        · exact .inr (.inl h)
        · exact .inl h
        · exact .inr (.inr h)
      · rintro (h | h | h)
        · exact .inl (.inr h)
        · exact .inl (.inl h)
        · exact .inr h
    · obtain ⟨t1, e⟩ := g4 k a (some (false, stD x)) b S
      refine ⟨t1, ?_⟩
      rw [List.map_cons, forL_c]
      have hs : (S ++ [F.map stD])[S.length]? = some (F.map stD) := by simp
      have pc := a4 k S.length _ hs
      have st : (S ++ [F.map stD]).set S.length (F'.map stD) = S ++ [F'.map stD] := by simp
      rw [st] at pc
      have ln := y_lnd (P := prg) (cf := callF prg (k + 6)) (i := 2) (f := 33) (es := [.var 1]) (r := [a, some (false, stD x), some (true, .lst (F.map stD)), b]) (S := S) (S1 := S) (ds := [stD x]) (xs := F.map stD) (ys := F'.map stD) (d := .non) (by simp) rfl (sts_pure F) pc
      simp [ln, e]
def body34 : List C := match f34.body with
  | _ :: _ :: .frz _ (.for_ _ _ b) :: _ => b
  | _ => []
theorem merge_loop : ∀ (xs F : List (Cu × Cu)), Can ltC F → Lined ltC xs → (∀ s ∈ xs, ltC s.1 s.2) → (∀ s ∈ xs, ∀ t ∈ F, ¬ ltC s.1 t.1) → F.length + xs.length < 1000 → ∃ G : List (Cu × Cu), Can ltC G ∧ (∀ c, MemS ltC G c ↔ MemS ltC F c ∨ MemS ltC xs c) ∧ (∀ c, EndS G c → EndS F c ∨ EndS xs c) ∧ G.length ≤ F.length + xs.length ∧
    ∀ (k : Nat) (a s1 b : Slot) (S : Sto), ∃ t1 : Slot, forL (.nm 1) (bW prg (callF prg (k + 6)) body34) (xs.map stD) [a, s1, b, some (true, .lst (F.map stD))] S = some (.nx [a, t1, b, some (true, .lst (G.map stD))], S)
  | [], F, hF, _, _, _, _ => ⟨F, hF, fun c => ⟨.inl, fun h => h.elim id fun z => absurd z memS_nil⟩, fun c h => .inl h, by simp, fun k a s1 b S => ⟨s1, rfl⟩⟩
  | x :: xs, F, hF, hL, hx, hb, hl => by
    have hl' : F.length + (xs.length + 1) < 1000 := hl
    have x0 := hx x List.mem_cons_self
    have xb := hb x List.mem_cons_self
    have hL' := List.pairwise_cons.mp hL
    have step : ∃ F' : List (Cu × Cu), Mrg ltC F x F' ∧ F'.length ≤ F.length + 1 ∧ ∀ (k : Nat) (a b : Slot) (S : Sto), exB prg (callF prg (k + 6)) body34 [a, some (false, stD x), b, some (true, .lst (F.map stD))] S = some (.nx [a, some (false, stD x), b, some (true, .lst (F'.map stD))], S) := by
      by_cases q : F = []
      · subst q
        refine ⟨[x], .inl ⟨rfl, rfl⟩, by simp, fun k a b S => ?_⟩
        have en := eq_nil (ds := []) rfl
        simp at en
        simp [body34, f34, runF, L2.ixN, List.replicate, en]
      · obtain ⟨H, u, rfl⟩ : ∃ H u, F = H ++ [u] := ⟨F.dropLast, F.getLast q, (List.dropLast_concat_getLast q).symm⟩
        have lh : (H ++ [u]).length = H.length + 1 := by simp
        have en := eq_nil (ds := (H ++ [u]).map stD) (pd_ok (pd_stl (H ++ [u])) (by omega))
        have ie : ((H ++ [u]).map stD).isEmpty = false := by simp
        rw [ie] at en
        have em : (H ++ [u]).map stD = H.map stD ++ [stD u] := by simp
        have la : L2.atI ((H ++ [u]).map stD) (-1) = some (stD u) := by rw [em]; exact atI_last
        have lx : L2.ixN ((H ++ [u]).map stD).length (-1) = some H.length := by
          rw [em, ixN_last, List.length_map]
        by_cases w : ltC u.2 x.1
        · refine ⟨H ++ [u] ++ [x], .inr ⟨H, u, rfl, .inl ⟨w, rfl⟩⟩, by simp, fun k a b S => ?_⟩
          have ap := s_are_apart (k := k + 1) (S := S) (a := u.2) (b := x.1)
          have e2 : (H ++ [u]).map stD ++ [stD x] = (H ++ [u] ++ [x]).map stD := by simp
          have ln : ((H ++ [u]).map stD).length < 100000 := by rw [List.length_map]; omega
          rw [← e2]
          generalize (H ++ [u]).map stD = Z at *
          simp [body34, f34, runF, L2.ixN, List.replicate, en, la, st_deB, st_wk, st_lo, st_hi, ap, w, ln]
        · refine ⟨H ++ [(u.1, mx ltC u.2 x.2)], .inr ⟨H, u, rfl, .inr ⟨w, rfl⟩⟩, by simp, fun k a b S => ?_⟩
          have ap := s_are_apart (k := k + 1) (S := S) (a := u.2) (b := x.1)
          have gh := s_greater_high (k := k + 1) (S := S) (a := u.2) (b := x.2)
          have e2 : ((H ++ [u]).map stD).set H.length (stD (u.1, mx ltC u.2 x.2)) = (H ++ [(u.1, mx ltC u.2 x.2)]).map stD := by
            rw [em]
            have : H.length = (H.map stD).length := by simp
            rw [this, List.set_append_right _ _ (Nat.le_refl _)]
            simp
          rw [← e2]
          generalize (H ++ [u]).map stD = Z at *
          have pt := y_puto (P := prg) (cf := callF prg (k + 6)) (i := 3) (k := .neg (.cst (.int 1))) (e := .tup [.star (.slc (.idx (.bor 3) (.neg (.cst (.int 1)))) none (some (.cst (.int 2)))), .star (.call 26 [.slc (.idx (.bor 3) (.neg (.cst (.int 1)))) (some (.cst (.int 2))) none, .slc (.var 1) (some (.cst (.int 2))) none])])
            (r := [a, some (false, stD x), b, some (true, .lst Z)]) (S := S) (S1 := S) (S2 := S) (d := stD (u.1, mx ltC u.2 x.2)) (t := -1) (ds := Z) (j := H.length)
            (by
              have z : stD (u.1, mx ltC u.2 x.2) = .tup [u.1.1.1.d, .bl (!u.1.2), (mx ltC u.2 x.2).1.1.d, .bl (mx ltC u.2 x.2).2] := rfl
              rw [z]
              simp [la, st_deB, st_wk, st_lo, st_hi, gh, low_items, hi_items]) (by simp) rfl lx
          simp [body34, f34, runF, L2.ixN, List.replicate, en, la, st_deB, st_wk, st_lo, st_hi, ap, w, pt]
    obtain ⟨F', m1, m2, m3⟩ := step
    obtain ⟨o1, o2, o3, o4⟩ := mrg_ok linC m1 hF x0 xb
    obtain ⟨G, g1, g2, g5, g3, g4⟩ := merge_loop xs F' o1 hL'.2 (fun s hs => hx s (List.mem_cons_of_mem _ hs)) (fun s hs t ht => linC.le_le (o3 t ht) (hL'.1 s hs)) (by omega)
    refine ⟨G, g1, fun c => ?_, fun c hc => ?_, by show G.length ≤ F.length + (xs.length + 1); omega, fun k a s1 b S => ?_⟩
    · rw [g2, o2, memS_cons]
      constructor
      · rintro ((h | h) | h)
        · exact .inl h
        · exact .inr (.inl h)
        · exact .inr (.inr h)
      · rintro (h | h | h)
        · exact .inl (.inl h)
        · exact .inl (.inr h)
        · exact .inr h
    · rcases g5 c hc with h | ⟨t, ht, h⟩
      · rcases o4 c h with h | h
        · exact .inl h
        · exact .inr ⟨x, List.mem_cons_self, h⟩
      · exact .inr ⟨t, List.mem_cons_of_mem _ ht, h⟩
    · obtain ⟨t1, e⟩ := g4 k a (some (false, stD x)) b S
      refine ⟨t1, ?_⟩
      rw [List.map_cons, forL_c]
      simp [m3, e]
theorem s_joined_of {xs : List (Cu × Cu)} (hx : ∀ s ∈ xs, ltC s.1 s.2) (hl : xs.length < 1000) : ∃ G : List (Cu × Cu), Can ltC G ∧ (∀ c, MemS ltC G c ↔ MemS ltC xs c) ∧ (∀ c, EndS G c → EndS xs c) ∧ G.length ≤ xs.length ∧
    ∀ (k : Nat) (S : Sto), callF prg (k + 7) 34 [.lst (xs.map stD)] S = some (.tup (G.map stD), S) := by
  obtain ⟨Lx, l1, l2, l3, l4⟩ := line_up xs [] List.Pairwise.nil (by simp; omega)
  have l2' : ∀ t, t ∈ Lx ↔ t ∈ xs := fun t => by rw [l2]; simp
  have ms : ∀ c, MemS ltC Lx c ↔ MemS ltC xs c := fun c => ⟨fun ⟨t, ht, h⟩ => ⟨t, (l2' t).mp ht, h⟩, fun ⟨t, ht, h⟩ => ⟨t, (l2' t).mpr ht, h⟩⟩
  obtain ⟨G, g1, g2, g5, g3, g4⟩ := merge_loop Lx [] ⟨fun s h => absurd h List.not_mem_nil, List.Pairwise.nil⟩ l1 (fun s hs => hx s ((l2' s).mp hs)) (fun s hs t ht => absurd ht List.not_mem_nil) (by rw [l3]; simp; omega)
  refine ⟨G, g1, fun c => ?_, fun c hc => ?_, by rw [l3] at g3; simpa using g3, fun k S => ?_⟩
  · rw [g2, ms]
    exact ⟨fun h => h.elim (fun z => absurd z memS_nil) id, .inr⟩
  · rcases g5 c hc with ⟨t, ht, _⟩ | ⟨t, ht, h⟩
    · exact absurd ht List.not_mem_nil
    · exact ⟨t, (l2' t).mp ht, h⟩
  · obtain ⟨t1, e1⟩ := l4 k (some (false, .lst (xs.map stD))) none (some (true, .lst [])) S
    obtain ⟨t2, e2⟩ := g4 k (some (false, .lst (xs.map stD))) t1 (some (false, .lst (Lx.map stD))) S
    simp only [List.map_nil] at e1 e2
    rw [cf_s (g := f34) rfl]
    have hb : f34.body = [.par2 2 true (.lst []) 3 true (.lst []), .for_ (.nm 1) (.var 0) [.lnd 2 33 [.var 1]], .frz [2] (.for_ (.nm 1) (.var 2) body34), .ret (.bi .tuple [.bor 3])] := rfl
    have hN : f34.N.length = 4 := rfl
    have hn : f34.np = 1 := rfl
    have pr : (D.tup (G.map stD)).pure = true := sts_pure G
    have p2 := y_par2 (P := prg) (cf := callF prg (k + 6)) (i := 2) (j := 3) (a := true) (b := true) (e := .lst []) (f := .lst []) (r := [some (false, .lst (xs.map stD)), none, none, none]) (S := S) (S1 := S) (S2 := S) (d1 := .lst []) (d2 := .lst []) (by simp) (by simp) rfl
    generalize G.map stD = Z at *
    simp only [runF, hb, hN, hn]
    simp [runF, L2.ixN, List.replicate, List.replicate, p2, e1, frzR, e2, pr]
def inb35 : List C := match f35.body with
  | _ :: .for_ _ _ [.for_ _ _ b] :: _ => b
  | _ => []
theorem both_in {h : Cu × Cu} : ∀ (ts acc : List (Cu × Cu)), acc.length + ts.length < 100000 → ∀ (k : Nat) (S : Sto) (a b s4 : Slot), ∃ t4 : Slot, forL (.nm 4) (bW prg (callF prg (k + 6)) inb35) (ts.map stD) [a, b, some (true, .lst (acc.map stD)), some (false, stD h), s4] S =
    some (.nx [a, b, some (true, .lst ((acc ++ ts.flatMap fun t => mk1 ltC (mx ltC h.1 t.1) (mn ltC h.2 t.2)).map stD)), some (false, stD h), t4], S)
  | [], acc, _, k, S, a, b, s4 => ⟨s4, by simp⟩
  | t :: ts, acc, hl, k, S, a, b, s4 => by
    have hl' : acc.length + (ts.length + 1) < 100000 := hl
    have l1 : (mk1 ltC (mx ltC h.1 t.1) (mn ltC h.2 t.2)).length ≤ 1 := by unfold mk1; split <;> simp
    obtain ⟨t4, e⟩ := both_in ts (acc ++ mk1 ltC (mx ltC h.1 t.1) (mn ltC h.2 t.2)) (by rw [List.length_append]; omega) k S a b (some (false, stD t))
    refine ⟨t4, ?_⟩
    have gl := s_greater_low (k := k) (S := S) (a := h.1) (b := t.1)
    have lh := s_lesser_high (k := k + 1) (S := S) (a := h.2) (b := t.2)
    have md := s_made (k := k + 1) (S := S) (a := mx ltC h.1 t.1) (b := mn ltC h.2 t.2)
    have ex := y_ext (P := prg) (cf := callF prg (k + 6)) (i := 2) (e := .call 27 [.call 24 [.slc (.var 3) none (some (.cst (.int 2))), .slc (.var 4) none (some (.cst (.int 2)))], .call 25 [.slc (.var 3) (some (.cst (.int 2))) none, .slc (.var 4) (some (.cst (.int 2))) none]]) (r := [a, b, some (true, .lst (acc.map stD)), some (false, stD h), some (false, stD t)]) (S := S) (S1 := S) (ds := acc.map stD) (xs := (mk1 ltC (mx ltC h.1 t.1) (mn ltC h.2 t.2)).map stD)
      (by simp [st_deB, st_wk, st_lo, st_hi, gl, lh, md]) rfl (by rw [List.length_map, List.length_map]; omega)
    rw [← List.map_append] at ex
    have eB : exB prg (callF prg (k + 6)) inb35 [a, b, some (true, .lst (acc.map stD)), some (false, stD h), some (false, stD t)] S = some (.nx [a, b, some (true, .lst ((acc ++ mk1 ltC (mx ltC h.1 t.1) (mn ltC h.2 t.2)).map stD)), some (false, stD h), some (false, stD t)], S) := by
      simp [inb35, f35, ex]
    rw [List.map_cons, forL_c, List.flatMap_cons, ← List.append_assoc]
    generalize acc ++ mk1 ltC (mx ltC h.1 t.1) (mn ltC h.2 t.2) = V at *
    simp only [asg_nm, List.length_cons, List.length_nil, Nat.reduceAdd, Nat.reduceLT, if_true, Option.bind_some, List.set, kF1_s, bW_s, eB, kF2_n]
    exact e
def outb35 : List C := match f35.body with
  | _ :: .for_ _ _ b :: _ => b
  | _ => []
theorem flat_len {h : Cu × Cu} : ∀ ts : List (Cu × Cu), (ts.flatMap fun t => mk1 ltC (mx ltC h.1 t.1) (mn ltC h.2 t.2)).length ≤ ts.length
  | [] => Nat.le_refl _
  | t :: ts => by
    rw [List.flatMap_cons, List.length_append]
    have l1 : (mk1 ltC (mx ltC h.1 t.1) (mn ltC h.2 t.2)).length ≤ 1 := by unfold mk1; split <;> simp
    have := flat_len (h := h) ts
    show _ ≤ ts.length + 1
    omega
theorem both_out {ts : List (Cu × Cu)} (ht : ts.length ≤ 100) : ∀ (hs acc : List (Cu × Cu)), acc.length + hs.length * 100 < 90000 → ∀ (k : Nat) (S : Sto) (a s3 s4 : Slot), ∃ t3 t4 : Slot, forL (.nm 3) (bW prg (callF prg (k + 6)) outb35) (hs.map stD) [a, some (false, .tup (ts.map stD)), some (true, .lst (acc.map stD)), s3, s4] S =
    some (.nx [a, some (false, .tup (ts.map stD)), some (true, .lst ((acc ++ bothL ltC hs ts).map stD)), t3, t4], S)
  | [], acc, _, k, S, a, s3, s4 => ⟨s3, s4, by simp [bothL]⟩
  | h :: hs, acc, hl, k, S, a, s3, s4 => by
    have hl' : acc.length + (hs.length + 1) * 100 < 90000 := hl
    have fl := flat_len (h := h) ts
    obtain ⟨t4, e⟩ := both_in (h := h) ts acc (by omega) k S a (some (false, .tup (ts.map stD))) s4
    obtain ⟨u3, u4, e'⟩ := both_out ht hs (acc ++ ts.flatMap fun t => mk1 ltC (mx ltC h.1 t.1) (mn ltC h.2 t.2)) (by rw [List.length_append]; omega) k S a (some (false, stD h)) t4
    refine ⟨u3, u4, ?_⟩
    have hob : outb35 = [.for_ (.nm 4) (.var 1) inb35] := rfl
    have eb : bothL ltC (h :: hs) ts = (ts.flatMap fun t => mk1 ltC (mx ltC h.1 t.1) (mn ltC h.2 t.2)) ++ bothL ltC hs ts := List.flatMap_cons
    rw [List.map_cons, forL_c, eb, ← List.append_assoc]
    generalize (ts.flatMap fun t => mk1 ltC (mx ltC h.1 t.1) (mn ltC h.2 t.2)) = Z at *
    generalize bothL ltC hs ts = W at *
    generalize (acc ++ Z).map stD = V at *
    generalize (acc ++ Z ++ W).map stD = V2 at *
    generalize acc.map stD = V3 at *
    have eB : exB prg (callF prg (k + 6)) outb35 [a, some (false, .tup (ts.map stD)), some (true, .lst V3), some (false, stD h), s4] S = some (.nx [a, some (false, .tup (ts.map stD)), some (true, .lst V), some (false, stD h), t4], S) := by
      rw [hob]
      simp [e]
    simp [eB, e']
theorem s_both_of {k : Nat} {S : Sto} {hs ts : List (Cu × Cu)} (hh : hs.length ≤ 100) (ht : ts.length ≤ 100) : callF prg (k + 7) 35 [.tup (hs.map stD), .tup (ts.map stD)] S = some (.tup ((bothL ltC hs ts).map stD), S) := by
  obtain ⟨t3, t4, e⟩ := both_out ht hs [] (by simp; omega) k S (some (false, .tup (hs.map stD))) none none
  simp only [List.map_nil, List.nil_append] at e
  rw [cf_s (g := f35) rfl]
  have hb : f35.body = [.own 2 (.lst []), .for_ (.nm 3) (.var 0) outb35, .ret (.bi .tuple [.bor 2])] := rfl
  have hN : f35.N.length = 5 := rfl
  have hn : f35.np = 2 := rfl
  have pr : (D.tup ((bothL ltC hs ts).map stD)).pure = true := sts_pure _
  generalize (bothL ltC hs ts).map stD = Z at *
  simp only [runF, hb, hN, hn]
  simp [runF, L2.ixN, List.replicate, List.replicate, e, pr]
end Pv.K08

set_option Elab.async false
set_option linter.all false
set_option maxRecDepth 100000
set_option maxHeartbeats 4000000
namespace Pv.K08
open PySem PySem.Spec PyProof.Rows L2
def inb36 : List C := match f36.body with
  | _ :: .for_ _ _ [_, .for_ _ _ b, _] :: _ => b
  | _ => []
theorem less_in {h : Cu × Cu} : ∀ (ts : List (Cu × Cu)) (low : Cu), ∃ (Q : List (Cu × Cu)) (low' : Cu), lessP ltC low h.2 ts = Q ++ mk1 ltC low' h.2 ∧ Q.length ≤ ts.length ∧ ∀ (acc : List (Cu × Cu)), acc.length + ts.length < 100000 → ∀ (k : Nat) (S : Sto) (a b s5 : Slot), ∃ t5 : Slot,
    forL (.nm 5) (bW prg (callF prg (k + 6)) inb36) (ts.map stD) [a, b, some (true, .lst (acc.map stD)), some (false, stD h), some (false, lowD low), s5] S =
    some (.nx [a, b, some (true, .lst ((acc ++ Q).map stD)), some (false, stD h), some (false, lowD low'), t5], S)
  | [], low => ⟨[], low, rfl, Nat.le_refl _, fun acc _ k S a b s5 => ⟨s5, by simp⟩⟩
  | t :: ts, low => by
    obtain ⟨Q, low', e1, l1, e2⟩ := less_in (h := h) ts (mx ltC low t.2)
    have lm : (mk1 ltC low (mn ltC h.2 t.1)).length ≤ 1 := by unfold mk1; split <;> simp
    refine ⟨mk1 ltC low (mn ltC h.2 t.1) ++ Q, low', ?_, by rw [List.length_append]; show _ ≤ ts.length + 1; omega, fun acc hl k S a b s5 => ?_⟩
    · show mk1 ltC low (mn ltC h.2 t.1) ++ lessP ltC (mx ltC low t.2) h.2 ts = _
      rw [e1, List.append_assoc]
    · have hl' : acc.length + (ts.length + 1) < 100000 := hl
      obtain ⟨t5, e⟩ := e2 (acc ++ mk1 ltC low (mn ltC h.2 t.1)) (by rw [List.length_append]; omega) k S a b (some (false, stD t))
      refine ⟨t5, ?_⟩
      have lh : callF prg (k + 6) 25 [hiD h.2, .tup [t.1.1.1.d, .bl t.1.2]] S = some (hiD (mn ltC h.2 t.1), S) := s_lesser_high (k := k + 1) (S := S) (a := h.2) (b := t.1)
      have gl : callF prg (k + 6) 24 [lowD low, .tup [t.2.1.1.d, .bl (!t.2.2)]] S = some (lowD (mx ltC low t.2), S) := s_greater_low (k := k) (S := S) (a := low) (b := t.2)
      have md := s_made (k := k + 1) (S := S) (a := low) (b := mn ltC h.2 t.1)
      have ex := y_ext (P := prg) (cf := callF prg (k + 6)) (i := 2) (e := .call 27 [.var 4, .call 25 [.slc (.var 3) (some (.cst (.int 2))) none, .tup [.idx (.var 5) (.cst (.int 0)), .not (.idx (.var 5) (.cst (.int 1)))]]]) (r := [a, b, some (true, .lst (acc.map stD)), some (false, stD h), some (false, lowD low), some (false, stD t)]) (S := S) (S1 := S) (ds := acc.map stD) (xs := (mk1 ltC low (mn ltC h.2 t.1)).map stD)
        (by simp [st_deB, st_wk, st_lo, st_hi, st_0, st_1, lh, md]) rfl (by rw [List.length_map, List.length_map]; omega)
      rw [← List.map_append] at ex
      have eB : exB prg (callF prg (k + 6)) inb36 [a, b, some (true, .lst (acc.map stD)), some (false, stD h), some (false, lowD low), some (false, stD t)] S = some (.nx [a, b, some (true, .lst ((acc ++ mk1 ltC low (mn ltC h.2 t.1)).map stD)), some (false, stD h), some (false, lowD (mx ltC low t.2)), some (false, stD t)], S) := by
        generalize (acc ++ mk1 ltC low (mn ltC h.2 t.1)).map stD = V at *
        simp [inb36, f36, ex, st_deB, st_wk, st_2, st_m, gl]
      rw [List.map_cons, forL_c, ← List.append_assoc]
      generalize acc ++ mk1 ltC low (mn ltC h.2 t.1) = V at *
      simp only [asg_nm, List.length_cons, List.length_nil, Nat.reduceAdd, Nat.reduceLT, if_true, Option.bind_some, List.set, kF1_s, bW_s, eB, kF2_n]
      exact e
def outb36 : List C := match f36.body with
  | _ :: .for_ _ _ b :: _ => b
  | _ => []
theorem less_out {ts : List (Cu × Cu)} (ht : ts.length ≤ 100) : ∀ (hs acc : List (Cu × Cu)), acc.length + hs.length * 101 < 90000 → ∀ (k : Nat) (S : Sto) (a s3 s4 s5 : Slot), ∃ t3 t4 t5 : Slot, forL (.nm 3) (bW prg (callF prg (k + 6)) outb36) (hs.map stD) [a, some (false, .tup (ts.map stD)), some (true, .lst (acc.map stD)), s3, s4, s5] S =
    some (.nx [a, some (false, .tup (ts.map stD)), some (true, .lst ((acc ++ lessL ltC hs ts).map stD)), t3, t4, t5], S)
  | [], acc, _, k, S, a, s3, s4, s5 => ⟨s3, s4, s5, by simp [lessL]⟩
  | h :: hs, acc, hl, k, S, a, s3, s4, s5 => by
    have hl' : acc.length + (hs.length + 1) * 101 < 90000 := hl
    obtain ⟨Q, low', q1, q2, q3⟩ := less_in (h := h) ts h.1
    have lm : (mk1 ltC low' h.2).length ≤ 1 := by unfold mk1; split <;> simp
    obtain ⟨t5, e⟩ := q3 acc (by omega) k S a (some (false, .tup (ts.map stD))) s5
    have ll : (lessP ltC h.1 h.2 ts).length ≤ 101 := by rw [q1, List.length_append]; omega
    obtain ⟨u3, u4, u5, e'⟩ := less_out ht hs (acc ++ lessP ltC h.1 h.2 ts) (by rw [List.length_append]; omega) k S a (some (false, stD h)) (some (false, lowD low')) t5
    refine ⟨u3, u4, u5, ?_⟩
    have hob : outb36 = [.set 4 (.slc (.var 3) none (some (.cst (.int 2)))), .for_ (.nm 5) (.var 1) inb36, .ext 2 (.call 27 [.var 4, .slc (.var 3) (some (.cst (.int 2))) none])] := rfl
    have eb : lessL ltC (h :: hs) ts = lessP ltC h.1 h.2 ts ++ lessL ltC hs ts := List.flatMap_cons
    have md := s_made (k := k + 1) (S := S) (a := low') (b := h.2)
    have ex := y_ext (P := prg) (cf := callF prg (k + 6)) (i := 2) (e := .call 27 [.var 4, .slc (.var 3) (some (.cst (.int 2))) none]) (r := [a, some (false, .tup (ts.map stD)), some (true, .lst ((acc ++ Q).map stD)), some (false, stD h), some (false, lowD low'), t5]) (S := S) (S1 := S) (ds := (acc ++ Q).map stD) (xs := (mk1 ltC low' h.2).map stD)
      (by simp [st_deB, st_wk, st_hi, md]) rfl (by rw [List.length_map, List.length_map, List.length_append]; omega)
    rw [← List.map_append, List.append_assoc, ← q1] at ex
    have eB : exB prg (callF prg (k + 6)) outb36 [a, some (false, .tup (ts.map stD)), some (true, .lst (acc.map stD)), some (false, stD h), s4, s5] S = some (.nx [a, some (false, .tup (ts.map stD)), some (true, .lst ((acc ++ lessP ltC h.1 h.2 ts).map stD)), some (false, stD h), some (false, lowD low'), t5], S) := by
      rw [hob]
      generalize (acc ++ lessP ltC h.1 h.2 ts).map stD = V at *
      generalize (acc ++ Q).map stD = V2 at *
      generalize acc.map stD = V3 at *
      simp [st_deB, st_wk, st_lo, e, ex]
    rw [List.map_cons, forL_c, eb, ← List.append_assoc]
    generalize (acc ++ lessP ltC h.1 h.2 ts) = V at *
    generalize lessL ltC hs ts = W at *
    simp [eB]
    simpa using e'
theorem s_less_of {k : Nat} {S : Sto} {hs ts : List (Cu × Cu)} (hh : hs.length ≤ 100) (ht : ts.length ≤ 100) : callF prg (k + 7) 36 [.tup (hs.map stD), .tup (ts.map stD)] S = some (.tup ((lessL ltC hs ts).map stD), S) := by
  obtain ⟨t3, t4, t5, e⟩ := less_out ht hs [] (by simp; omega) k S (some (false, .tup (hs.map stD))) none none none
  simp only [List.map_nil, List.nil_append] at e
  rw [cf_s (g := f36) rfl]
  have hb : f36.body = [.own 2 (.lst []), .for_ (.nm 3) (.var 0) outb36, .ret (.bi .tuple [.bor 2])] := rfl
  have hN : f36.N.length = 6 := rfl
  have hn : f36.np = 2 := rfl
  have pr : (D.tup ((lessL ltC hs ts).map stD)).pure = true := sts_pure _
  generalize (lessL ltC hs ts).map stD = Z at *
  simp only [runF, hb, hN, hn]
  simp [runF, L2.ixN, List.replicate, List.replicate, e, pr]
/-! public -/
theorem no_between {x : OM} {c : Cu} (h1 : ¬ ltC c (x, false)) (h2 : ltC c (x, true)) : c = (x, false) := by
  obtain ⟨y, j⟩ := c
  rw [ltC_by] at h1 h2
  have e : cmpM y.1 x.1 = 0 := by
    rcases h2 with h | ⟨h, _⟩
    · exact absurd (.inl h) h1
    · exact h
  have ey := om_zero.mp e
  subst ey
  rcases h2 with h | ⟨_, h, _⟩
  · rw [cmpM_self] at h
    omega
  · rw [h]
theorem has_iff {L : List (Cu × Cu)} {x : OM} (h : Can ltC L) : (!(bothL ltC L [((x, false), (x, true))]).isEmpty) = decide (MemS ltC L (x, false)) := by
  have pt : ltC (x, false) (x, true) := .inr ⟨rfl, rfl, rfl⟩
  by_cases q : MemS ltC L (x, false)
  · rw [decide_eq_true q]
    obtain ⟨s, hs, _⟩ := (both_mem linC (one := L) (other := [((x, false), (x, true))]) (c := (x, false))).mpr ⟨q, ⟨_, List.mem_singleton.mpr rfl, linC.ir _, pt⟩⟩
    cases e : bothL ltC L [((x, false), (x, true))] with
    | nil => rw [e] at hs; cases hs
    | cons a b => rfl
  · rw [decide_eq_false q]
    cases e : bothL ltC L [((x, false), (x, true))] with
    | nil => rfl
    | cons a b =>
      exfalso
      obtain ⟨t, ht, u, hu, ea, lt⟩ := mem_both.mp (show a ∈ bothL ltC L [((x, false), (x, true))] by rw [e]; exact List.mem_cons_self)
      obtain rfl := List.mem_singleton.mp hu
      have lt2 := (lt_mn linC).mp lt
      have le := (le_mx linC (a := t.1) (b := (x, false)) (c := mx ltC t.1 (x, false))).mp (linC.ir _)
      have ex := no_between le.2 lt2.2
      rw [ex] at le lt2
      exact q ⟨t, ht, le.1, lt2.1⟩
theorem s_joined {A B : List (Cu × Cu)} (ha : Can ltC A) (hb : Can ltC B) (la : A.length ≤ 100) (lb : B.length ≤ 100) : ∃ G : List (Cu × Cu), Can ltC G ∧ (∀ c, MemS ltC G c ↔ MemS ltC A c ∨ MemS ltC B c) ∧ (∀ c, EndS G c → EndS A c ∨ EndS B c) ∧ G.length ≤ 200 ∧ ∀ (k : Nat) (S : Sto), callF prg (k + 9) 38 [.tup (A.map stD), .tup (B.map stD)] S = some (.tup (G.map stD), S) := by
  obtain ⟨G, g1, g2, g3, g4, g5⟩ := s_joined_of (xs := A ++ B) (fun s hs => by
    rcases List.mem_append.mp hs with h | h
    · exact ha.1 s h
    · exact hb.1 s h) (by rw [List.length_append]; omega)
  refine ⟨G, g1, fun c => by rw [g2, memS_app], fun c hc => ?_, by rw [List.length_append] at g4; omega, fun k S => ?_⟩
  · obtain ⟨s, hs, h⟩ := g3 c hc
    rcases List.mem_append.mp hs with q | q
    · exact .inl ⟨s, q, h⟩
    · exact .inr ⟨s, q, h⟩
  · have jo := g5 (k + 1) S
    rw [List.map_append] at jo
    have pr : (D.tup (G.map stD)).pure = true := sts_pure _
    have c1 := s_check_stretches (k := k) (S := S) ha (by omega)
    have c2 := s_check_stretches (k := k) (S := S) hb (by omega)
    have lab : (A.map stD).length + (B.map stD).length ≤ 100000 := by rw [List.length_map, List.length_map]; omega
    rw [cf_s (g := f38) rfl]
    generalize G.map stD = Z at *
    generalize A.map stD = X at *
    generalize B.map stD = Y at *
    simp [f38, runF, L2.ixN, List.replicate, c1, c2, jo, pr, lab]
theorem s_less' {k : Nat} {S : Sto} {A B : List (Cu × Cu)} (ha : Can ltC A) (hb : Can ltC B) (la : A.length ≤ 100) (lb : B.length ≤ 100) : callF prg (k + 9) 39 [.tup (A.map stD), .tup (B.map stD)] S = some (.tup ((lessL ltC A B).map stD), S) := by
  have jo := s_less_of (k := k + 1) (S := S) la lb
  have pr : (D.tup ((lessL ltC A B).map stD)).pure = true := sts_pure _
  have c1 := s_check_stretches (k := k) (S := S) ha (by omega)
  have c2 := s_check_stretches (k := k) (S := S) hb (by omega)
  rw [cf_s (g := f39) rfl]
  generalize (lessL ltC A B).map stD = Z at *
  generalize A.map stD = X at *
  generalize B.map stD = Y at *
  simp [f39, runF, L2.ixN, List.replicate, c1, c2, jo, pr]
end Pv.K08

set_option Elab.async false
set_option linter.all false
set_option maxRecDepth 100000
set_option maxHeartbeats 4000000
namespace Pv.K08
open PySem PySem.Spec PyProof.Rows L2
theorem l_cmp {k m1 m2 : Nat} {S : Sto} {x y : Nu} (hx : x.Ok m1) (hy : y.Ok m2) (h1 : m1 ≤ 400 := by decide) (h2 : m2 ≤ 400 := by decide) : callF prg (k + 4) 54 [x.n, y.n] S = some (.int (cmpM x.mo y.mo), S) := by
  have up : ∀ {i : Nat} {z : Int}, Bd i z → i ≤ 1000 → Bd 1000 z := fun h e => h.mono e
  have M : ∀ {z t : Int}, Bd 1000 z → Bd 1000 t → binD .Mult (.int z) (.int t) = some (.int (z * t)) := fun h q => b_mul (szMul_ok h q)
  have b1 : Bd 1000 (x.p * y.r - y.p * x.r) := (hx.bp.mul hy.br).sub (hy.bp.mul hx.br) (by omega) (by omega)
  have ss := l_sign_two (k := k) (S := S) b1 (up (hx.bq.mul hy.br) (by omega)) (up hx.bd (by omega)) (up (hy.bq.neg.mul hx.br) (by omega)) (up hy.bd (by omega))
  rw [nu_cmp hx hy] at ss
  have m1 := M (up hx.bp (by omega)) (up hy.br (by omega))
  have m2 := M (up hy.bp (by omega)) (up hx.br (by omega))
  have m3 := M (up hx.bq (by omega)) (up hy.br (by omega))
  have m4 := M (up hy.bq.neg (by omega)) (up hx.br (by omega))
  simp only [Int.neg_mul] at ss m4
  rw [cf_s (g := f54) rfl]
  simp [f54, runF, L2.ixN, List.replicate, Nu.n, m1, m2, m3, m4, ss]
theorem l_moment_nu {k : Nat} {S : Sto} {n : Nu} (h : n.Ok 300) : callF prg (k + 3) 53 [n.n] S = some (n.mo.d, S) := by
  obtain ⟨p, q, d, r⟩ := n
  rcases h.qd with ⟨h0, h1⟩ | ⟨h1, h2, h3⟩
  · have h0' : q = 0 := h0
    have h1' : d = 0 := h1
    subst h0' h1'
    exact l_moment_0 (k := k) (S := S) (p := p) (r := r) h.r0 (h.br.mono (by decide))
  · have q0 : q ≠ 0 := h1
    have e := l_moment_r (k := k) (S := S) (p := p) (q := q) (d := d) (r := r) h.r0 (h.bp.mono (by decide)) (h.bq.mono (by decide)) (h.bd.mono (by decide)) (h.br.mono (by decide)) q0 h2 h3
    show callF prg (k + 3) 53 [.tup [.int p, .int q, .int d, .int r]] S = some ((Nu.mo ⟨p, q, d, r⟩).d, S)
    rw [e]
    unfold Nu.mo
    rw [if_neg q0]
    rfl
def nuF (K : Int) (B : Nat) : Nu := ⟨K, 0, 0, 2 ^ B⟩
theorem nuF_ok {K : Int} {B : Nat} (bK : Bd 290 K) (hB : B ≤ 240) : (nuF K B).Ok 300 := ⟨pp0, bK.mono (by decide), bdp.mono (by omega), bd0, bd0, (by show Bd (2 * 300) (0 * 0 * 0); exact bd0), .inl ⟨rfl, rfl⟩⟩
theorem nuF_mo {K : Int} {B : Nat} : (nuF K B).mo = Mo.fr K (2 ^ B) := if_pos rfl
theorem nuF_mok {K : Int} {B : Nat} (bK : Bd 290 K) (hB : B ≤ 240) : (nuF K B).mo.ok 400 := by
  rw [nuF_mo]
  exact (Mo.fr_ok pp0 (bK.mono (by decide)) (bdp.mono (by omega))).1
theorem frK {m : Nat} {x : Mo} {K : Int} {B : Nat} (hx : x.ok m) : cmpM (Mo.fr K (2 ^ B)) x = sq1 (K * x.w - x.p * 2 ^ B) (-x.q * 2 ^ B) (x.e 1) := by
  have N0 := pp0 (n := B)
  have g0 := gcd_pos (a := K) N0
  obtain ⟨u, hu⟩ := Int.gcd_dvd_left K (2 ^ B)
  obtain ⟨v, hv⟩ := Int.gcd_dvd_right K (2 ^ B)
  unfold Mo.fr
  rw [cmp_f hx]
  have eu : K / (Int.gcd K (2 ^ B) : Int) = u := Int.ediv_eq_of_eq_mul_right (by omega) hu
  have ev : 2 ^ B / (Int.gcd K (2 ^ B) : Int) = v := Int.ediv_eq_of_eq_mul_right (by omega) hv
  rw [eu, ev, ← sq1_scale (k := (Int.gcd K (2 ^ B) : Int)) g0]
  have e1 : (Int.gcd K (2 ^ B) : Int) * (u * x.w - x.p * v) = K * x.w - x.p * 2 ^ B := by
    have a1 : (Int.gcd K (2 ^ B) : Int) * (u * x.w - x.p * v) = (Int.gcd K (2 ^ B) : Int) * u * x.w - x.p * ((Int.gcd K (2 ^ B) : Int) * v) := by grind
    rw [a1, ← hu, ← hv]
  have e2 : (Int.gcd K (2 ^ B) : Int) * (-x.q * v) = -x.q * 2 ^ B := by
    have a1 : (Int.gcd K (2 ^ B) : Int) * (-x.q * v) = -x.q * ((Int.gcd K (2 ^ B) : Int) * v) := by grind
    rw [a1, ← hv]
  rw [e1, e2]
theorem frK_flo {m : Nat} {x : Mo} {K : Int} {B : Nat} (hx : x.ok m) : 0 < cmpM (Mo.fr K (2 ^ B)) x ↔ flo x B < K := by
  have e0 := Mo.e_pos hx
  have N0 := pp0 (n := B)
  obtain ⟨h0, h1, h2⟩ := hh_spec (X := x.e 1 * 2 ^ B * 2 ^ B) (Int.le_of_lt (Int.mul_pos (Int.mul_pos e0 N0) N0))
  rw [frK hx]
  exact over_floor hx N0 h0 h1 h2
/-- a fraction beside an own number -/
theorem nuK {m : Nat} {n : Nu} {K : Int} {B : Nat} (hn : n.Ok m) (bK : Bd 290 K) (hB : B ≤ 240) : cmpM (Mo.fr K (2 ^ B)) n.mo = sq1 (K * n.r - n.p * 2 ^ B) (-n.q * 2 ^ B) n.e := by
  have c := nu_cmp (nuF_ok bK hB) hn
  rw [nuF_mo] at c
  rw [← c]
  show sgL (K * n.r - n.p * 2 ^ B) (0 * n.r) 0 (-n.q * 2 ^ B) n.d = _
  rw [sgL_gen hn.r0 pp0 (.inl ⟨rfl, rfl⟩) (qd2 hn), if_pos rfl, Int.zero_mul]
  unfold Nu.e
  rcases hn.qd with ⟨h, _⟩ | ⟨h1, h2, _⟩
  · rw [if_pos h, h, Int.neg_zero, Int.zero_mul, sg_ff, sq1_0]
  · rw [if_neg h1]
    exact sg_fr h2
/-- the law's floor of a number's parts is near the floor -/
theorem own_floor {n : Nu} {B : Nat} {h : Int} (hn : n.Ok 8) (hB : B ≤ 240) (h0 : 0 ≤ h) (hq : n.q ≠ 0 → h * h ≤ n.q * n.q * n.d * 2 ^ B * 2 ^ B ∧ n.q * n.q * n.d * 2 ^ B * 2 ^ B < (h + 1) * (h + 1)) (bT : Bd 280 ((n.p * 2 ^ B + n.q.sign * h) / n.r)) :
    (n.p * 2 ^ B + n.q.sign * h) / n.r ≤ flo n.mo B + 1 ∧ flo n.mo B + 1 ≤ (n.p * 2 ^ B + n.q.sign * h) / n.r + 2 := by
  have r0 := hn.r0
  have N0 := pp0 (n := B)
  have hx := (nu_rel hn).1
  obtain ⟨T, hT⟩ : ∃ T, T = (n.p * 2 ^ B + n.q.sign * h) / n.r := ⟨_, rfl⟩
  rw [← hT] at bT ⊢
  have t1 : T * n.r ≤ n.p * 2 ^ B + n.q.sign * h := by rw [hT]; exact (le_div r0).mp (Int.le_refl _)
  have t2 : n.p * 2 ^ B + n.q.sign * h < (T + 1) * n.r := by
    apply Classical.byContradiction
    intro g
    have := (le_div r0).mpr (show (T + 1) * n.r ≤ n.p * 2 ^ B + n.q.sign * h by omega)
    rw [← hT] at this
    omega
  have bd1' : Bd 290 (T - 1) := (bT.sub bd1 (m := 281) (by omega) (by omega)).mono (by omega)
  have bd2' : Bd 290 (T + 2) := (bT.add bd2 (m := 281) (by omega) (by omega)).mono (by omega)
  have f1 := frK_flo (K := T - 1) (B := B) hx
  have f2 := frK_flo (K := T + 2) (B := B) hx
  rw [nuK hn bd1' hB] at f1
  rw [nuK hn bd2' hB] at f2
  have c1 : (T - 1) * n.r - n.p * 2 ^ B ≤ n.q.sign * h - n.r := by
    have : (T - 1) * n.r = T * n.r - n.r := by grind
    omega
  have c2 : n.q.sign * h + n.r < (T + 2) * n.r - n.p * 2 ^ B := by
    have : (T + 2) * n.r = (T + 1) * n.r + n.r := by grind
    omega
  obtain ⟨C1, hC1⟩ : ∃ C, C = (T - 1) * n.r - n.p * 2 ^ B := ⟨_, rfl⟩
  obtain ⟨C2, hC2⟩ : ∃ C, C = (T + 2) * n.r - n.p * 2 ^ B := ⟨_, rfl⟩
  rw [← hC1] at f1 c1
  rw [← hC2] at f2 c2
  have key : ¬ 0 < sq1 C1 (-n.q * 2 ^ B) n.e ∧ 0 < sq1 C2 (-n.q * 2 ^ B) n.e := by
    unfold Nu.e
    rcases hn.qd with ⟨q0, _⟩ | ⟨q0, d0, _⟩
    · rw [if_pos q0, q0, Int.neg_zero, Int.zero_mul, sq1_0, sq1_0]
      rw [q0, Int.sign_zero, Int.zero_mul] at c1 c2
      constructor
      · intro g
        rw [Int.sign_eq_neg_one_of_neg (show C1 < 0 by omega)] at g
        omega
      · rw [Int.sign_eq_one_of_pos (show 0 < C2 by omega)]
        decide
    · obtain ⟨a1, a2⟩ := hq q0
      rw [if_neg q0, sq1_gt d0, sq1_gt d0]
      have nn2 : n.q * n.q * n.d * 2 ^ B * 2 ^ B = -n.q * (2 : Int) ^ B * (-n.q * 2 ^ B) * n.d := by grind
      rw [nn2] at a1 a2
      have sA : 0 < n.q → -n.q * (2 : Int) ^ B < 0 := fun z => Int.mul_neg_of_neg_of_pos (by omega) N0
      have sB : n.q < 0 → 0 < -n.q * (2 : Int) ^ B := fun z => Int.mul_pos (by omega) N0
      generalize hA : -n.q * (2 : Int) ^ B = A at *
      generalize hY : A * A * n.d = Y at *
      rcases sign_cases n.q with ⟨z1, z2⟩ | ⟨z1, _⟩ | ⟨z1, z2⟩
      · have sb := sB z1
        rw [z2, Int.neg_mul, Int.one_mul] at c1 c2
        constructor
        · rintro (⟨g1, g2⟩ | ⟨g1, g2⟩ | ⟨g1, g2, g3⟩ | ⟨g1, g2, g3⟩)
          · omega
          · omega
          · omega
          · have := sq_le (x := h + 1) (y := -C1) (by omega) (by omega)
            rw [Int.neg_mul_neg] at this
            omega
        · by_cases z : 0 ≤ C2
          · exact .inr (.inl ⟨z, by omega⟩)
          · refine .inr (.inr (.inr ⟨by omega, by omega, ?_⟩))
            have := sq_le (x := -C2) (y := h - 1) (by omega) (by omega)
            rw [Int.neg_mul_neg] at this
            have e3 : (h - 1) * (h - 1) = h * h - 2 * h + 1 := by grind
            omega
      · exact absurd z1 q0
      · have sa := sA z1
        rw [z2, Int.one_mul] at c1 c2
        constructor
        · rintro (⟨g1, g2⟩ | ⟨g1, g2⟩ | ⟨g1, g2, g3⟩ | ⟨g1, g2, g3⟩)
          · omega
          · omega
          · have := sq_le (x := C1) (y := h) (by omega) (by omega)
            omega
          · omega
        · refine .inr (.inr (.inl ⟨by omega, by omega, ?_⟩))
          have := sq_le (x := h + 1) (y := C2) (by omega) (by omega)
          omega
  constructor
  · have : ¬ flo n.mo B < T - 1 := fun g => key.1 (f1.mpr g)
    omega
  · have := f2.mp key.2
    omega
theorem big_bd {x y : Mo} (hx : x.ok 24) (hy : y.ok 24) : (2 * (((x.q * y.w) * (x.q * y.w) * x.e 1 + (-y.q * x.w) * (-y.q * x.w) * y.e 1 - (x.p * y.w - y.p * x.w) * (x.p * y.w - y.p * x.w)).natAbs : Int) + 1) * ((2 * (x.p * y.w - y.p * x.w).natAbs + 1) * (x.w * y.w)) < 2 ^ 217 := by
  have c1 : Bd 51 (x.p * y.w - y.p * x.w) := ((mo_p hx).mul (mo_w hy)).sub ((mo_p hy).mul (mo_w hx)) (by omega) (by omega)
  have a1 := (mo_q hx).mul (mo_w hy)
  have a2 := (mo_q hy).neg.mul (mo_w hx)
  have A : Bd 108 ((x.q * y.w) * (x.q * y.w) * x.e 1 + (-y.q * x.w) * (-y.q * x.w) * y.e 1 - (x.p * y.w - y.p * x.w) * (x.p * y.w - y.p * x.w)) :=
    (((a1.mul a1).mul (mo_e hx)).add ((a2.mul a2).mul (mo_e hy)) (m := 107) (by omega) (by omega)).sub (c1.mul c1) (by omega) (by omega)
  have ab : ∀ {k : Nat} {z : Int}, Bd k z → Bd (k + 3) (2 * (z.natAbs : Int) + 1) := fun {k z} h => by
    have h1 : Bd k (z.natAbs : Int) := h.le (by simp)
    exact (bd2.mul h1).add bd1 (by omega) (by omega)
  have B := (ab A).mul ((ab c1).mul ((mo_w hx).mul (mo_w hy)))
  have B' := B.mono (by omega : 108 + 3 + (51 + 3 + (24 + 2 + (24 + 2))) ≤ 217)
  unfold Bd at B'
  generalize ((2 * (((x.q * y.w) * (x.q * y.w) * x.e 1 + (-y.q * x.w) * (-y.q * x.w) * y.e 1 - (x.p * y.w - y.p * x.w) * (x.p * y.w - y.p * x.w)).natAbs : Int) + 1) * ((2 * (x.p * y.w - y.p * x.w).natAbs + 1) * (x.w * y.w))) = Z at *
  have e3 : ((2 ^ 217 : Nat) : Int) = (2 : Int) ^ 217 := by simp
  rw [← e3]
  generalize (2 : Nat) ^ 217 = W at *
  omega
theorem shlN {p : Int} {B : Nat} (bp : Bd 300 p) (hB : B ≤ 240) : binD .LShift (.int p) (.int B) = some (.int (p * 2 ^ B)) := by
  have h : szShl p (B : Int) = true := by
    have := bp.log
    unfold szShl
    simp only [Bool.and_eq_true, decide_eq_true_eq]
    exact ⟨⟨by omega, by omega⟩, by omega⟩
  rw [b_shl h]
  simp
theorem shlNN {z : Int} {B : Nat} (bz : Bd 300 z) (hB : B ≤ 240) : binD .LShift (.int z) (.int (2 * (B : Int))) = some (.int (z * 2 ^ B * 2 ^ B)) := by
  have h : szShl z (2 * B : Int) = true := by
    have := bz.log
    unfold szShl
    simp only [Bool.and_eq_true, decide_eq_true_eq]
    exact ⟨⟨by omega, by omega⟩, by omega⟩
  rw [b_shl h]
  have e : ((2 * B : Int)).toNat = B + B := by omega
  rw [e, Int.pow_add, Int.mul_assoc]
/-- the expression of _law_amid for the floor -/
theorem own_whole {n : Nu} {B : Nat} (hn : n.Ok 8) (hB : B ≤ 240) : ∃ W : Int, Bd 270 W ∧ W / n.r ≤ flo n.mo B + 1 ∧ flo n.mo B + 1 ≤ W / n.r + 2 ∧ ∀ (k : Nat) (S : Sto) (s0 s1 s3 s4 s5 s9 : Slot),
    evE prg (callF prg (k + 1)) (.bin .Add (.bin .LShift (.var 6) (.var 2)) (.bin .Mult (.call 50 [.var 7]) (.call 49 [.bin .LShift (.bin .Mult (.bin .Mult (.var 7) (.var 7)) (.var 8)) (.bin .Mult (.cst (.int 2)) (.var 2))])))
      [s0, s1, some (false, .int (B : Int)), s3, s4, s5, some (false, .int n.p), some (false, .int n.q), some (false, .int n.d), s9] S = some (.int W, S) := by
  have r0 := hn.r0
  have N0 := pp0 (n := B)
  have bN := bdp (n := B)
  have m2 : binD .Mult (.int 2) (.int (B : Int)) = some (.int (2 * (B : Int))) := b_mul (szMul_ok bd2 (bd_of (k := 20) 1000 (by omega)))
  have shp := shlN (hn.bp.mono (by decide : 8 ≤ 300)) hB
  have dv : ∀ {W : Int}, Bd 270 W → Bd 280 (W / n.r) := fun {W} h => (h.mono (by decide)).le (Int.natAbs_ediv_le_natAbs _ _)
  rcases hn.qd with ⟨q0, d0⟩ | ⟨q0, d0, _⟩
  · have bW : Bd 270 (n.p * 2 ^ B + n.q.sign * 0) := by
      rw [Int.mul_zero, Int.add_zero]
      exact (hn.bp.mul bN).mono (by omega)
    obtain ⟨a, b⟩ := own_floor (h := 0) hn hB (by omega) (fun g => absurd q0 g) (dv bW)
    refine ⟨n.p * 2 ^ B + n.q.sign * 0, bW, a, b, fun k S s0 s1 s3 s4 s5 s9 => ?_⟩
    have sg := l_sign (k := k) (S := S) (n := 0)
    have z0 : binD .Mult (.int 0) (.int 0) = some (.int 0) := rfl
    have sz := shlNN (z := 0) (B := B) bd0 hB
    simp only [Int.zero_mul] at sz
    rw [q0, d0]
    simp [shp, z0, m2, sz, l_root_0 (k := k), sg]
  · have qq0 : 0 < n.q * n.q := by
      rcases Int.lt_or_gt_of_ne q0 with h | h
      · exact Int.mul_pos_of_neg_of_neg h h
      · exact Int.mul_pos h h
    have X0 := Int.mul_pos (Int.mul_pos (Int.mul_pos qq0 d0) N0) N0
    have bX : Bd 520 (n.q * n.q * n.d * 2 ^ B * 2 ^ B) := ((hn.bqd.mul bN).mul bN).mono (by omega)
    have bh : Bd 260 (hh (n.q * n.q * n.d * 2 ^ B * 2 ^ B)) := by
      obtain ⟨h0, h1, _⟩ := hh_spec (Int.le_of_lt X0)
      exact hh_bd h0 h1 (bX.mono (by decide))
    obtain ⟨h0, h1, h2⟩ := hh_spec (Int.le_of_lt X0)
    have bW : Bd 270 (n.p * 2 ^ B + n.q.sign * hh (n.q * n.q * n.d * 2 ^ B * 2 ^ B)) := ((hn.bp.mul bN).mono (by omega : 8 + (B + 1) ≤ 269)).add (((bsign n.q).mul bh).mono (by decide : 1 + 260 ≤ 269)) (by omega) (by omega)
    obtain ⟨a, b⟩ := own_floor hn hB h0 (fun _ => ⟨h1, h2⟩) (dv bW)
    refine ⟨_, bW, a, b, fun k S s0 s1 s3 s4 s5 s9 => ?_⟩
    obtain ⟨h, eh, _, g0, g1, g2⟩ := l_root (k := k) (S := S) X0 (bX.mono (by decide))
    have eqh := root_uniq g0 h0 g1 g2 h1 h2
    rw [eqh] at eh
    have sg := l_sign (k := k) (S := S) (n := n.q)
    have mqq := b_mul (szMul_ok hn.bq hn.bq)
    have m1d := b_mul (szMul_ok (hn.bq.mul hn.bq) hn.bd)
    have sD := shlNN (z := n.q * n.q * n.d) (B := B) (hn.bqd.mono (by decide)) hB
    have msh := b_mul (szMul_ok (bsign n.q) bh)
    generalize n.q * n.q * n.d * 2 ^ B * 2 ^ B = X at *
    generalize hh X = hX at *
    simp [shp, mqq, m1d, m2, sD, eh, sg, msh]
def body56 : List C := match f56.body with
  | [_, .whl _ b] => b
  | _ => []
def inb56 : List C := match f56.body with
  | [_, .whl _ [_, _, _, .for_ _ _ b, _]] => b
  | _ => []
theorem rng3 : rngD [.int 3] = some [.int 0, .int 1, .int 2] := rfl
theorem nu_pure (n : Nu) : n.n.pure = true := rfl
theorem amid_step (a b : NS) {t : Nat} (ht : 1 + 3 * t ≤ 240) : ∃ T : Int, (∀ i : Int, 0 ≤ i → i ≤ 2 → (nuF (T + i) (1 + 3 * t)).Ok 300 ∧ (nuF (T + i) (1 + 3 * t)).mo.ok 400) ∧ T ≤ flo a.1.mo (1 + 3 * t) + 1 ∧ flo a.1.mo (1 + 3 * t) + 1 ≤ T + 2 ∧
    ∃ W : Int, ∀ (k : Nat) (S : Sto) (s3 s4 s5 s6 s7 s8 s9 : Slot), exB prg (callF prg (k + 4)) body56 [some (false, a.1.n), some (false, b.1.n), some (false, .int ((1 + 3 * t : Nat) : Int)), s3, s4, s5, s6, s7, s8, s9] S =
      some (if cmpM a.1.mo (nuF (T + 0) (1 + 3 * t)).mo < 0 ∧ cmpM (nuF (T + 0) (1 + 3 * t)).mo b.1.mo < 0 then .rt (nuF (T + 0) (1 + 3 * t)).n else
        if cmpM a.1.mo (nuF (T + 1) (1 + 3 * t)).mo < 0 ∧ cmpM (nuF (T + 1) (1 + 3 * t)).mo b.1.mo < 0 then .rt (nuF (T + 1) (1 + 3 * t)).n else
        if cmpM a.1.mo (nuF (T + 2) (1 + 3 * t)).mo < 0 ∧ cmpM (nuF (T + 2) (1 + 3 * t)).mo b.1.mo < 0 then .rt (nuF (T + 2) (1 + 3 * t)).n else
        .nx [some (false, a.1.n), some (false, b.1.n), some (false, .int ((1 + 3 * (t + 1) : Nat) : Int)), some (false, .int W), some (false, (nuF (T + 2) (1 + 3 * t)).n), some (false, .int 2), some (false, .int a.1.p), some (false, .int a.1.q), some (false, .int a.1.d), some (false, .int a.1.r)], S) := by
  obtain ⟨B, hB⟩ : ∃ B, B = 1 + 3 * t := ⟨_, rfl⟩
  have eB3 : ((1 + 3 * (t + 1) : Nat) : Int) = (B : Int) + 3 := by omega
  rw [eB3, ← hB]
  rw [← hB] at ht
  obtain ⟨W, bW, w1, w2, ew⟩ := own_whole a.2 ht
  have r0 := a.2.r0
  have bT : Bd 280 (W / a.1.r) := (bW.mono (by decide)).le (Int.natAbs_ediv_le_natAbs _ _)
  have bTi : ∀ i : Int, 0 ≤ i → i ≤ 2 → Bd 290 (W / a.1.r + i) := fun i h1 h2 => (bT.add (bd_of (k := 2) 2 (by omega)) (m := 281) (by omega) (by omega)).mono (by omega)
  have a8 : a.1.Ok 300 := a.2.mono (by decide)
  have b8 : b.1.Ok 300 := b.2.mono (by decide)
  have dv : binD .FloorDiv (.int W) (.int a.1.r) = some (.int (W / a.1.r)) := by rw [b_div (szDiv_ok (by omega) (a.2.br.mono (by decide : 8 ≤ 8000))), Int.fdiv_eq_ediv_of_nonneg _ (by omega)]
  have sh1 := shl1 (n := B) (by omega)
  refine ⟨W / a.1.r, fun i h1 h2 => ⟨nuF_ok (bTi i h1 h2) ht, nuF_mok (bTi i h1 h2) ht⟩, w1, w2, W, fun k S s3 s4 s5 s6 s7 s8 s9 => ?_⟩
  generalize W / a.1.r = T at *
  have hb : body56 = [.unp (.tp [.nm 6, .nm 7, .nm 8, .nm 9]) (.var 0), .set 3 (.bin .Add (.bin .LShift (.var 6) (.var 2)) (.bin .Mult (.call 50 [.var 7]) (.call 49 [.bin .LShift (.bin .Mult (.bin .Mult (.var 7) (.var 7)) (.var 8)) (.bin .Mult (.cst (.int 2)) (.var 2))]))),
    .set 4 (.tup [.bin .Add (.bin .FloorDiv (.var 3) (.var 9)) (.cst (.int 1)), .cst (.int 0), .cst (.int 0), .bin .LShift (.cst (.int 1)) (.var 2)]), .for_ (.nm 5) (.rng [.cst (.int 3)]) inb56, .set 2 (.bin .Add (.var 2) (.cst (.int 3)))] := rfl
  have turn : ∀ (i : Int) (s4 : Slot), 0 ≤ i → i ≤ 2 → exB prg (callF prg (k + 4)) inb56 [some (false, a.1.n), some (false, b.1.n), some (false, .int (B : Int)), some (false, .int W), s4, some (false, .int i), some (false, .int a.1.p), some (false, .int a.1.q), some (false, .int a.1.d), some (false, .int a.1.r)] S =
      some (if cmpM a.1.mo (nuF (T + i) B).mo < 0 ∧ cmpM (nuF (T + i) B).mo b.1.mo < 0 then .rt (nuF (T + i) B).n else .nx [some (false, a.1.n), some (false, b.1.n), some (false, .int (B : Int)), some (false, .int W), some (false, (nuF (T + i) B).n), some (false, .int i), some (false, .int a.1.p), some (false, .int a.1.q), some (false, .int a.1.d), some (false, .int a.1.r)], S) := fun i s4 h1 h2 => by
    have c1 := l_cmp (k := k) (S := S) a8 (nuF_ok (bTi i h1 h2) ht)
    have c2 := l_cmp (k := k) (S := S) (nuF_ok (bTi i h1 h2) ht) b8
    have en : (nuF (T + i) B).n = .tup [.int (T + i), .int 0, .int 0, .int (2 ^ B)] := rfl
    rw [en] at c1 c2 ⊢
    by_cases q1 : cmpM a.1.mo (nuF (T + i) B).mo < 0
    · by_cases q2 : cmpM (nuF (T + i) B).mo b.1.mo < 0
      · simp [inb56, f56, runF, L2.ixN, List.replicate, dv, sh1, c1, c2, q1, q2]
      · simp [inb56, f56, runF, L2.ixN, List.replicate, dv, sh1, c1, c2, q1, q2]
    · simp [inb56, f56, runF, L2.ixN, List.replicate, dv, sh1, c1, c2, q1]
  have w := ew (k + 3) S (some (false, a.1.n)) (some (false, b.1.n)) s3 s4 s5 (some (false, .int a.1.r))
  have un : asg (.tp [.nm 6, .nm 7, .nm 8, .nm 9]) a.1.n [some (false, a.1.n), some (false, b.1.n), some (false, .int (B : Int)), s3, s4, s5, s6, s7, s8, s9] = some [some (false, a.1.n), some (false, b.1.n), some (false, .int (B : Int)), s3, s4, s5, some (false, .int a.1.p), some (false, .int a.1.q), some (false, .int a.1.d), some (false, .int a.1.r)] := by
    simp [Nu.n]
  have t0 := turn 0 (some (false, .tup [.int (T + 1), .int 0, .int 0, .int (2 ^ B)])) (by omega) (by omega)
  have t1 := turn 1 (some (false, (nuF (T + 0) B).n)) (by omega) (by omega)
  have t2 := turn 2 (some (false, (nuF (T + 1) B).n)) (by omega) (by omega)
  obtain ⟨Z, hZ⟩ : ∃ Z : E, Z = .bin .Add (.bin .LShift (.var 6) (.var 2)) (.bin .Mult (.call 50 [.var 7]) (.call 49 [.bin .LShift (.bin .Mult (.bin .Mult (.var 7) (.var 7)) (.var 8)) (.bin .Mult (.cst (.int 2)) (.var 2))])) := ⟨_, rfl⟩
  rw [← hZ] at hb w
  rw [hb]
  generalize hI : inb56 = I at *
  generalize hF0 : nuF (T + 0) B = F0 at *
  generalize hF1 : nuF (T + 1) B = F1 at *
  generalize hF2 : nuF (T + 2) B = F2 at *
  by_cases q0 : cmpM a.1.mo F0.mo < 0 ∧ cmpM F0.mo b.1.mo < 0
  · rw [if_pos q0] at t0 ⊢
    simp [un, w, dv, sh1, rng3, forL_c, t0]
  · rw [if_neg q0] at t0 ⊢
    by_cases q1 : cmpM a.1.mo F1.mo < 0 ∧ cmpM F1.mo b.1.mo < 0
    · rw [if_pos q1] at t1 ⊢
      simp [un, w, dv, sh1, rng3, forL_c, t0, t1]
    · rw [if_neg q1] at t1 ⊢
      by_cases q2 : cmpM a.1.mo F2.mo < 0 ∧ cmpM F2.mo b.1.mo < 0
      · rw [if_pos q2] at t2 ⊢
        simp [un, w, dv, sh1, rng3, forL_c, t0, t1, t2]
      · rw [if_neg q2] at t2 ⊢
        simp [un, w, dv, sh1, rng3, forL_c, t0, t1, t2]
theorem amid_loop {a b : NS} (lt : cmpM a.1.mo b.1.mo < 0) : ∀ (g t : Nat), t + g = 72 → ∃ f : Nu, f.Ok 300 ∧ f.mo.ok 400 ∧ cmpM a.1.mo f.mo < 0 ∧ cmpM f.mo b.1.mo < 0 ∧
    ∀ (k m : Nat) (S : Sto) (s3 s4 s5 s6 s7 s8 s9 : Slot), g < m → whl (cW prg (callF prg (k + 4)) (.cst (.bl true))) (bW prg (callF prg (k + 4)) body56) m [some (false, a.1.n), some (false, b.1.n), some (false, .int ((1 + 3 * t : Nat) : Int)), s3, s4, s5, s6, s7, s8, s9] S = some (.rt f.n, S) := by
  intro g
  induction g with
  | zero =>
    intro t ht
    have ht' : t = 72 := by omega
    subst ht'
    obtain ⟨T, h1, h2, h3, W, e⟩ := amid_step a b (t := 72) (by decide)
    have hx : a.1.mo.ok 24 := (om_small a).mono (by decide)
    have hy : b.1.mo.ok 24 := (om_small b).mono (by decide)
    have g1 : cmpM a.1.mo (Mo.fr (flo a.1.mo (1 + 3 * 72) + 1) (2 ^ (1 + 3 * 72))) < 0 := by
      have := (frK_flo (K := flo a.1.mo (1 + 3 * 72) + 1) (B := 1 + 3 * 72) hx).mpr (by omega)
      rw [cmpM_neg] at this
      omega
    have g2 : cmpM (Mo.fr (flo a.1.mo (1 + 3 * 72) + 1) (2 ^ (1 + 3 * 72))) b.1.mo < 0 := by
      rw [frK hy]
      exact apart_lo hx hy lt (j := 1 + 3 * 72) (big_bd hx hy)
    have fin : ∃ i : Int, 0 ≤ i ∧ i ≤ 2 ∧ T + i = flo a.1.mo (1 + 3 * 72) + 1 := ⟨flo a.1.mo (1 + 3 * 72) + 1 - T, by omega, by omega, by omega⟩
    have done : ∀ i : Int, 0 ≤ i → i ≤ 2 → T + i = flo a.1.mo (1 + 3 * 72) + 1 → cmpM a.1.mo (nuF (T + i) (1 + 3 * 72)).mo < 0 ∧ cmpM (nuF (T + i) (1 + 3 * 72)).mo b.1.mo < 0 := fun i _ _ ei => by
      rw [nuF_mo, ei]
      exact ⟨g1, g2⟩
    have ret : ∀ (f : Nu), (∀ (k : Nat) (S : Sto) (s3 s4 s5 s6 s7 s8 s9 : Slot), exB prg (callF prg (k + 4)) body56 [some (false, a.1.n), some (false, b.1.n), some (false, .int ((1 + 3 * 72 : Nat) : Int)), s3, s4, s5, s6, s7, s8, s9] S = some (.rt f.n, S)) →
        ∀ (k m : Nat) (S : Sto) (s3 s4 s5 s6 s7 s8 s9 : Slot), 0 < m → whl (cW prg (callF prg (k + 4)) (.cst (.bl true))) (bW prg (callF prg (k + 4)) body56) m [some (false, a.1.n), some (false, b.1.n), some (false, .int ((1 + 3 * 72 : Nat) : Int)), s3, s4, s5, s6, s7, s8, s9] S = some (.rt f.n, S) := fun f he k m S s3 s4 s5 s6 s7 s8 s9 hm => by
      obtain ⟨m', rfl⟩ : ∃ m', m = m' + 1 := ⟨m - 1, by omega⟩
      have := he k S s3 s4 s5 s6 s7 s8 s9
      rw [whl]
      generalize ((1 + 3 * 72 : Nat) : Int) = tt at *
      generalize body56 = Z at *
      simp [this]
    by_cases q0 : cmpM a.1.mo (nuF (T + 0) (1 + 3 * 72)).mo < 0 ∧ cmpM (nuF (T + 0) (1 + 3 * 72)).mo b.1.mo < 0
    · exact ⟨_, (h1 0 (by omega) (by omega)).1, (h1 0 (by omega) (by omega)).2, q0.1, q0.2, ret _ fun k S s3 s4 s5 s6 s7 s8 s9 => by rw [e, if_pos q0]⟩
    · by_cases q1 : cmpM a.1.mo (nuF (T + 1) (1 + 3 * 72)).mo < 0 ∧ cmpM (nuF (T + 1) (1 + 3 * 72)).mo b.1.mo < 0
      · exact ⟨_, (h1 1 (by omega) (by omega)).1, (h1 1 (by omega) (by omega)).2, q1.1, q1.2, ret _ fun k S s3 s4 s5 s6 s7 s8 s9 => by rw [e, if_neg q0, if_pos q1]⟩
      · by_cases q2 : cmpM a.1.mo (nuF (T + 2) (1 + 3 * 72)).mo < 0 ∧ cmpM (nuF (T + 2) (1 + 3 * 72)).mo b.1.mo < 0
        · exact ⟨_, (h1 2 (by omega) (by omega)).1, (h1 2 (by omega) (by omega)).2, q2.1, q2.2, ret _ fun k S s3 s4 s5 s6 s7 s8 s9 => by rw [e, if_neg q0, if_neg q1, if_pos q2]⟩
        · exfalso
          obtain ⟨i, i0, i2, ei⟩ := fin
          have hi : i = 0 ∨ i = 1 ∨ i = 2 := by omega
          have d := done i i0 i2 ei
          rcases hi with rfl | rfl | rfl
          · exact q0 d
          · exact q1 d
          · exact q2 d
  | succ g ih =>
    intro t ht
    obtain ⟨T, h1, h2, h3, W, e⟩ := amid_step a b (t := t) (by omega)
    have ret : ∀ (f : Nu), (∀ (k : Nat) (S : Sto) (s3 s4 s5 s6 s7 s8 s9 : Slot), exB prg (callF prg (k + 4)) body56 [some (false, a.1.n), some (false, b.1.n), some (false, .int ((1 + 3 * t : Nat) : Int)), s3, s4, s5, s6, s7, s8, s9] S = some (.rt f.n, S)) →
        ∀ (k m : Nat) (S : Sto) (s3 s4 s5 s6 s7 s8 s9 : Slot), g + 1 < m → whl (cW prg (callF prg (k + 4)) (.cst (.bl true))) (bW prg (callF prg (k + 4)) body56) m [some (false, a.1.n), some (false, b.1.n), some (false, .int ((1 + 3 * t : Nat) : Int)), s3, s4, s5, s6, s7, s8, s9] S = some (.rt f.n, S) := fun f he k m S s3 s4 s5 s6 s7 s8 s9 hm => by
      obtain ⟨m', rfl⟩ : ∃ m', m = m' + 1 := ⟨m - 1, by omega⟩
      have := he k S s3 s4 s5 s6 s7 s8 s9
      rw [whl]
      generalize ((1 + 3 * t : Nat) : Int) = tt at *
      generalize body56 = Z at *
      simp [this]
    by_cases q0 : cmpM a.1.mo (nuF (T + 0) (1 + 3 * t)).mo < 0 ∧ cmpM (nuF (T + 0) (1 + 3 * t)).mo b.1.mo < 0
    · exact ⟨_, (h1 0 (by omega) (by omega)).1, (h1 0 (by omega) (by omega)).2, q0.1, q0.2, ret _ fun k S s3 s4 s5 s6 s7 s8 s9 => by rw [e, if_pos q0]⟩
    · by_cases q1 : cmpM a.1.mo (nuF (T + 1) (1 + 3 * t)).mo < 0 ∧ cmpM (nuF (T + 1) (1 + 3 * t)).mo b.1.mo < 0
      · exact ⟨_, (h1 1 (by omega) (by omega)).1, (h1 1 (by omega) (by omega)).2, q1.1, q1.2, ret _ fun k S s3 s4 s5 s6 s7 s8 s9 => by rw [e, if_neg q0, if_pos q1]⟩
      · by_cases q2 : cmpM a.1.mo (nuF (T + 2) (1 + 3 * t)).mo < 0 ∧ cmpM (nuF (T + 2) (1 + 3 * t)).mo b.1.mo < 0
        · exact ⟨_, (h1 2 (by omega) (by omega)).1, (h1 2 (by omega) (by omega)).2, q2.1, q2.2, ret _ fun k S s3 s4 s5 s6 s7 s8 s9 => by rw [e, if_neg q0, if_neg q1, if_pos q2]⟩
        · obtain ⟨f, f1, f2, f3, f4, f5⟩ := ih (t + 1) (by omega)
          refine ⟨f, f1, f2, f3, f4, fun k m S s3 s4 s5 s6 s7 s8 s9 hm => ?_⟩
          obtain ⟨m', rfl⟩ : ∃ m', m = m' + 1 := ⟨m - 1, by omega⟩
          have e' := e k S s3 s4 s5 s6 s7 s8 s9
          rw [if_neg q0, if_neg q1, if_neg q2] at e'
          have n' := f5 k m' S (some (false, .int W)) (some (false, (nuF (T + 2) (1 + 3 * t)).n)) (some (false, .int 2)) (some (false, .int a.1.p)) (some (false, .int a.1.q)) (some (false, .int a.1.d)) (some (false, .int a.1.r)) (by omega)
          rw [whl]
          generalize ((1 + 3 * t : Nat) : Int) = tt at *
          generalize ((1 + 3 * (t + 1) : Nat) : Int) = tt2 at *
          generalize body56 = Z at *
          simp [e', n']
theorem l_amid {a b : NS} (lt : cmpM a.1.mo b.1.mo < 0) : ∃ f : Nu, f.Ok 300 ∧ f.mo.ok 400 ∧ cmpM a.1.mo f.mo < 0 ∧ cmpM f.mo b.1.mo < 0 ∧ ∀ (k : Nat) (S : Sto), callF prg (k + 5) 56 [a.1.n, b.1.n] S = some (f.n, S) := by
  obtain ⟨f, f1, f2, f3, f4, f5⟩ := amid_loop lt 72 0 rfl
  refine ⟨f, f1, f2, f3, f4, fun k S => ?_⟩
  have big : 72 < most := lt_most (show Bd 20 (72 : Int) by unfold Bd; decide) (by decide)
  have w : whl (cW prg (callF prg (k + 4)) (.cst (.bl true))) (bW prg (callF prg (k + 4)) body56) most [some (false, a.1.n), some (false, b.1.n), some (false, .int 1), none, none, none, none, none, none, none] S = some (.rt f.n, S) := f5 k most S none none none none none none none big
  rw [cf_s (g := f56) rfl]
  have hb : f56.body = [.set 2 (.cst (.int 1)), .whl (.cst (.bl true)) body56] := rfl
  have hN : f56.N.length = 10 := rfl
  have hn : f56.np = 2 := rfl
  simp only [runF, hb, hN, hn]
  simp [runF, L2.ixN, List.replicate, List.replicate, w, nu_pure]
end Pv.K08

set_option Elab.async false
set_option linter.all false
set_option maxRecDepth 100000
set_option maxHeartbeats 4000000
namespace Pv.K08
open PySem PySem.Spec PyProof.Rows L2
theorem ns300 (a : NS) : a.1.Ok 300 := a.2.mono (by decide)
theorem l_is_in0 {k m : Nat} {S : Sto} {s : LS} {n : Nu} (hn : n.Ok m) (hm : m ≤ 400 := by decide) : callF prg (k + 5) 59 [lsD s, n.n] S =
    some (.bl (decide (cmpM s.1.1.1.mo n.mo < 0 ∨ (cmpM s.1.1.1.mo n.mo = 0 ∧ s.1.2 = false)) && decide (cmpM n.mo s.2.1.1.mo < 0 ∨ (cmpM n.mo s.2.1.1.mo = 0 ∧ s.2.2 = true))), S) := by
  obtain ⟨⟨lo, a⟩, ⟨hi, b⟩⟩ := s
  have c1 := l_cmp (k := k) (S := S) (ns300 lo) hn (by decide) hm
  have c2 := l_cmp (k := k) (S := S) hn (ns300 hi) hm
  have un : asg (.tp [.nm 2, .nm 3, .nm 4, .nm 5]) (lsD ((lo, a), (hi, b))) [some (false, lsD ((lo, a), (hi, b))), some (false, n.n), none, none, none, none, none, none] = some [some (false, lsD ((lo, a), (hi, b))), some (false, n.n), some (false, lo.1.n), some (false, .bl (!a)), some (false, hi.1.n), some (false, .bl b), none, none] := by
    show asg (.tp [.nm 2, .nm 3, .nm 4, .nm 5]) (.tup [lo.1.n, .bl (!a), hi.1.n, .bl b]) _ = _
    simp
  rw [cf_s (g := f59) rfl]
  show runF prg _ _ _ _ = some (.bl (decide (cmpM lo.1.mo n.mo < 0 ∨ (cmpM lo.1.mo n.mo = 0 ∧ a = false)) && decide (cmpM n.mo hi.1.mo < 0 ∨ (cmpM n.mo hi.1.mo = 0 ∧ b = true))), S)
  generalize cmpM lo.1.mo n.mo = u at *
  generalize cmpM n.mo hi.1.mo = v at *
  generalize lsD ((lo, a), (hi, b)) = sd at *
  rcases Int.lt_trichotomy u 0 with h1 | h1 | h1
  · rcases Int.lt_trichotomy v 0 with h2 | h2 | h2
    · simp [f59, runF, L2.ixN, List.replicate, un, c1, c2, h1, h2]
    · subst h2
      cases b <;> simp [f59, runF, L2.ixN, List.replicate, un, c1, c2, h1]
    · have n1 : ¬ v < 0 := by omega
      have n2 : ¬ v = 0 := by omega
      simp [f59, runF, L2.ixN, List.replicate, un, c1, c2, h1, n1, n2]
  · subst h1
    rcases Int.lt_trichotomy v 0 with h2 | h2 | h2
    · cases a <;> simp [f59, runF, L2.ixN, List.replicate, un, c1, c2, h2]
    · subst h2
      cases a <;> cases b <;> simp [f59, runF, L2.ixN, List.replicate, un, c1, c2]
    · have n1 : ¬ v < 0 := by omega
      have n2 : ¬ v = 0 := by omega
      cases a <;> simp [f59, runF, L2.ixN, List.replicate, un, c1, c2, n1, n2]
  · have n1 : ¬ u < 0 := by omega
    have n2 : ¬ u = 0 := by omega
    simp [f59, runF, L2.ixN, List.replicate, un, c1, c2, n1, n2]
theorem l_is_in {k : Nat} {S : Sto} {s : LS} {n : Nu} {x : OM} (hn : n.Ok 300) (hx : n.mo = x.1) : callF prg (k + 5) 59 [lsD s, n.n] S = some (.bl (decide (¬ ltC (x, false) (lsC s).1) && decide (ltC (x, false) (lsC s).2)), S) := by
  rw [l_is_in0 hn]
  obtain ⟨⟨lo, a⟩, ⟨hi, b⟩⟩ := s
  have e1 : (¬ ltC (x, false) (om lo, a)) ↔ (cmpM lo.1.mo x.1 < 0 ∨ (cmpM lo.1.mo x.1 = 0 ∧ a = false)) := by
    rw [ltC_by' (x := om lo) (y := x)]
    show ¬ (0 < cmpM lo.1.mo x.1 ∨ (cmpM lo.1.mo x.1 = 0 ∧ false = false ∧ a = true)) ↔ _
    cases a <;> simp <;> omega
  have e2 : ltC (x, false) (om hi, b) ↔ (cmpM x.1 hi.1.mo < 0 ∨ (cmpM x.1 hi.1.mo = 0 ∧ b = true)) := by
    rw [ltC_by (x := x) (y := om hi)]
    show (cmpM x.1 hi.1.mo < 0 ∨ (cmpM x.1 hi.1.mo = 0 ∧ false = false ∧ b = true)) ↔ _
    simp
  have g : (decide (¬ ltC (x, false) (lsC ((lo, a), (hi, b))).1) && decide (ltC (x, false) (lsC ((lo, a), (hi, b))).2)) = (decide (cmpM lo.1.mo x.1 < 0 ∨ (cmpM lo.1.mo x.1 = 0 ∧ a = false)) && decide (cmpM x.1 hi.1.mo < 0 ∨ (cmpM x.1 hi.1.mo = 0 ∧ b = true))) := by
    show (decide (¬ ltC (x, false) (om lo, a)) && decide (ltC (x, false) (om hi, b))) = _
    simp only [e1, e2]
  rw [g, hx]
theorem compL_G {α : Type} {f : D → Sto → Option (Option D × Sto)} {V W : α → D} {S : Sto} : ∀ xs : List α, (∀ x ∈ xs, f (V x) S = some (some (W x), S)) → compL f (xs.map V) S = some (xs.map W, S)
  | [], _ => rfl
  | x :: xs, h => compL_cons (h x List.mem_cons_self) (compL_G xs fun y hy => h y (List.mem_cons_of_mem _ hy))
theorem bools_G {α : Type} {p : α → Bool} : ∀ xs : List α, boolsOf (xs.map fun x => D.bl (p x)) = some (xs.map p)
  | [] => rfl
  | x :: xs => by simp [bools_G xs]
theorem l_has {k : Nat} {S : Sto} {L : List LS} {n : Nu} {x : OM} (hn : n.Ok 300) (hx : n.mo = x.1) (hl : L.length < 1000) : callF prg (k + 6) 60 [.lst (L.map lsD), n.n] S = some (.bl (decide (MemS ltC (L.map lsC) (x, false))), S) := by
  have c : compL (cmpB prg (callF prg (k + 5)) [2] (.nm 2) [] (.call 59 [.var 2, .var 1]) [some (false, .lst (L.map lsD)), some (false, n.n), none]) (L.map lsD) S = some (L.map fun s => D.bl (decide (¬ ltC (x, false) (lsC s).1) && decide (ltC (x, false) (lsC s).2)), S) :=
    compL_G L fun s hs => by simp [wipeR, l_is_in (k := k) (S := S) (s := s) hn hx]
  have bo := bools_G (p := fun s : LS => decide (¬ ltC (x, false) (lsC s).1) && decide (ltC (x, false) (lsC s).2)) L
  have an : (L.map fun s : LS => decide (¬ ltC (x, false) (lsC s).1) && decide (ltC (x, false) (lsC s).2)).any id = decide (MemS ltC (L.map lsC) (x, false)) := by
    rw [Bool.eq_iff_iff, decide_eq_true_iff, ← memB_iff]
    unfold memB
    simp
  have ln : (L.map lsD).length < 100000 := by rw [List.length_map]; omega
  generalize (L.map fun s : LS => decide (¬ ltC (x, false) (lsC s).1) && decide (ltC (x, false) (lsC s).2)) = Y at *
  generalize (L.map fun s : LS => D.bl (decide (¬ ltC (x, false) (lsC s).1) && decide (ltC (x, false) (lsC s).2))) = Z at *
  generalize L.map lsD = X at *
  rw [cf_s (g := f60) rfl]
  simp [f60, runF, L2.ixN, List.replicate, c, ln, bo, an]
def nsD (n : NS) : D := n.1.n
def ptD (p : NS × Bool × Bool) : D := .tup [p.1.1.n, .bl p.2.1, .bl p.2.2]
def begD : Option (NS × Bool) → D
  | none => .non
  | some l => .tup [l.1.1.n, .bl (!l.2)]
def body61 : List C := match f61.body with
  | _ :: .for_ _ _ b :: _ => b
  | _ => []
theorem ls_pure (s : LS) : (lsD s).pure = true := rfl
theorem lss_pure : ∀ L : List LS, pures (L.map lsD) = true
  | [] => rfl
  | s :: L => by
    show ((lsD s).pure && pures (L.map lsD)) = true
    rw [ls_pure, lss_pure L]
    rfl
theorem b_addt {xs ys : List D} (h : xs.length + ys.length ≤ 100000) : binD .Add (.tup xs) (.tup ys) = some (.tup (xs ++ ys)) := if_pos h
theorem b_addl {xs ys : List D} (h : xs.length + ys.length ≤ 100000) : binD .Add (.lst xs) (.lst ys) = some (.lst (xs ++ ys)) := if_pos h
theorem c_is (x : D) : cmpD .Is x .non = some (isNon x) := by cases x <;> rfl
theorem c_isn (x : D) : cmpD .IsNot x .non = some (!isNon x) := by cases x <;> rfl
theorem isNon_t {xs : List D} : isNon (.tup xs) = false := rfl
theorem put_turn {p : NS × Bool × Bool} (o : Option (NS × Bool)) : ∃ (E : List LS) (o' : Option (NS × Bool)), (∀ r, rle o (((p.1, false), p.2.1) :: ((p.1, true), p.2.2) :: r) = E ++ rle o' r) ∧ E.length ≤ 2 ∧
    ∀ (acc : List LS), acc.length < 90000 → ∀ (k : Nat) (S : Sto) (a : Slot), exB prg (callF prg k) body61 [a, some (true, .lst (acc.map lsD)), some (false, begD o), some (false, p.1.1.n), some (false, .bl p.2.1), some (false, .bl p.2.2)] S =
      some (.nx [a, some (true, .lst ((acc ++ E).map lsD)), some (false, begD o'), some (false, p.1.1.n), some (false, .bl p.2.1), some (false, .bl p.2.2)], S) := by
  obtain ⟨n, s, b⟩ := p
  cases o with
  | none =>
    cases s
    · cases b
      · exact ⟨[], none, fun r => rfl, by simp, fun acc _ k S a => by simp [body61, f61, runF, L2.ixN, List.replicate, begD, c_is, c_isn, isNon_t]⟩
      · exact ⟨[], some (n, true), fun r => rfl, by simp, fun acc _ k S a => by simp [body61, f61, runF, L2.ixN, List.replicate, begD, c_is, c_isn, isNon_t]⟩
    · cases b
      · refine ⟨[((n, false), (n, true))], none, fun r => rfl, by simp, fun acc hl k S a => ?_⟩
        have ln : (acc.map lsD).length < 100000 := by rw [List.length_map]; omega
        have ad : binD .Add (.tup [n.1.n, .bl true]) (.tup [n.1.n, .bl true]) = some (lsD ((n, false), (n, true))) := rfl
        rw [List.map_append]
        generalize acc.map lsD = Z at *
        simp [body61, f61, runF, L2.ixN, List.replicate, begD, c_is, c_isn, isNon_t, ad, ln]
      · exact ⟨[], some (n, false), fun r => rfl, by simp, fun acc _ k S a => by simp [body61, f61, runF, L2.ixN, List.replicate, begD, c_is, c_isn, isNon_t]⟩
  | some l =>
    obtain ⟨l, lb⟩ := l
    cases s
    · have ad : binD .Add (.tup [l.1.n, .bl (!lb)]) (.tup [n.1.n, .bl false]) = some (lsD ((l, lb), (n, false))) := rfl
      cases b
      · refine ⟨[((l, lb), (n, false))], none, fun r => rfl, by simp, fun acc hl k S a => ?_⟩
        have ln : (acc.map lsD).length < 100000 := by rw [List.length_map]; omega
        rw [List.map_append]
        generalize acc.map lsD = Z at *
        simp [body61, f61, runF, L2.ixN, List.replicate, begD, c_is, c_isn, isNon_t, ad, ln]
      · refine ⟨[((l, lb), (n, false))], some (n, true), fun r => rfl, by simp, fun acc hl k S a => ?_⟩
        have ln : (acc.map lsD).length < 100000 := by rw [List.length_map]; omega
        rw [List.map_append]
        generalize acc.map lsD = Z at *
        simp [body61, f61, runF, L2.ixN, List.replicate, begD, c_is, c_isn, isNon_t, ad, ln]
    · cases b
      · refine ⟨[((l, lb), (n, true))], none, fun r => rfl, by simp, fun acc hl k S a => ?_⟩
        have ln : (acc.map lsD).length < 100000 := by rw [List.length_map]; omega
        have ad : binD .Add (.tup [l.1.n, .bl (!lb)]) (.tup [n.1.n, .bl true]) = some (lsD ((l, lb), (n, true))) := rfl
        rw [List.map_append]
        generalize acc.map lsD = Z at *
        simp [body61, f61, runF, L2.ixN, List.replicate, begD, c_is, c_isn, isNon_t, ad, ln]
      · exact ⟨[], some (l, lb), fun r => rfl, by simp, fun acc _ k S a => by simp [body61, f61, runF, L2.ixN, List.replicate, begD, c_is, c_isn, isNon_t]⟩
theorem put_all : ∀ (ps : List (NS × Bool × Bool)) (acc : List LS) (o : Option (NS × Bool)), acc.length + 2 * ps.length < 80000 → ∀ (k : Nat) (S : Sto) (a s3 s4 s5 : Slot), ∃ (o' : Slot) (t3 t4 t5 : Slot),
    forL (.tp [.nm 3, .nm 4, .nm 5]) (bW prg (callF prg k) body61) (ps.map ptD) [a, some (true, .lst (acc.map lsD)), some (false, begD o), s3, s4, s5] S = some (.nx [a, some (true, .lst ((acc ++ rle o (ptsC ps)).map lsD)), o', t3, t4, t5], S)
  | [], acc, o, _, k, S, a, s3, s4, s5 => ⟨some (false, begD o), s3, s4, s5, by
      have : rle o (ptsC []) = [] := by cases o <;> rfl
      rw [this, List.append_nil]
      rfl⟩
  | p :: ps, acc, o, hl, k, S, a, s3, s4, s5 => by
    have hl' : acc.length + 2 * (ps.length + 1) < 80000 := hl
    obtain ⟨E, o', e1, e2, e3⟩ := put_turn (p := p) o
    obtain ⟨o2, t3, t4, t5, e⟩ := put_all ps (acc ++ E) o' (by rw [List.length_append]; omega) k S a (some (false, p.1.1.n)) (some (false, .bl p.2.1)) (some (false, .bl p.2.2))
    refine ⟨o2, t3, t4, t5, ?_⟩
    have eB := e3 acc (by omega) k S a
    rw [ptsC_cons, e1, ← List.append_assoc, List.map_cons, forL_c]
    generalize (acc ++ E ++ rle o' (ptsC ps)).map lsD = V at *
    generalize (acc ++ E).map lsD = V2 at *
    generalize acc.map lsD = V3 at *
    have as : asg (.tp [.nm 3, .nm 4, .nm 5]) (ptD p) [a, some (true, .lst V3), some (false, begD o), s3, s4, s5] = some [a, some (true, .lst V3), some (false, begD o), some (false, p.1.1.n), some (false, .bl p.2.1), some (false, .bl p.2.2)] := by
      show asg (.tp [.nm 3, .nm 4, .nm 5]) (.tup [p.1.1.n, .bl p.2.1, .bl p.2.2]) _ = _
      simp
    rw [as]
    simp [eB, e]
theorem l_put {k : Nat} {S : Sto} {ps : List (NS × Bool × Bool)} (hl : ps.length < 1000) : callF prg (k + 1) 61 [.lst (ps.map ptD)] S = some (.lst ((rle none (ptsC ps)).map lsD), S) := by
  obtain ⟨o', t3, t4, t5, e⟩ := put_all ps [] none (by simp; omega) k S (some (false, .lst (ps.map ptD))) none none none
  have e' : forL (.tp [.nm 3, .nm 4, .nm 5]) (bW prg (callF prg k) body61) (ps.map ptD) [some (false, .lst (ps.map ptD)), some (true, .lst []), some (false, .non), none, none, none] S = some (.nx [some (false, .lst (ps.map ptD)), some (true, .lst ((rle none (ptsC ps)).map lsD)), o', t3, t4, t5], S) := e
  rw [cf_s (g := f61) rfl]
  have hb : f61.body = [.par2 1 true (.lst []) 2 false (.cst .non), .for_ (.tp [.nm 3, .nm 4, .nm 5]) (.var 0) body61, .frz [1] (.ret (.var 1))] := rfl
  have hN : f61.N.length = 6 := rfl
  have hn : f61.np = 1 := rfl
  have pr : (D.lst ((rle none (ptsC ps)).map lsD)).pure = true := lss_pure _
  have p2 := y_par2 (P := prg) (cf := callF prg k) (i := 1) (j := 2) (a := true) (b := false) (e := .lst []) (f := .cst .non) (r := [some (false, .lst (ps.map ptD)), none, none, none, none, none]) (S := S) (S1 := S) (S2 := S) (d1 := .lst []) (d2 := .non) (by simp) (by simp) rfl
  generalize (rle none (ptsC ps)).map lsD = Z at *
  generalize ps.map ptD = Y at *
  simp only [runF, hb, hN, hn]
  simp [runF, L2.ixN, List.replicate, List.replicate, p2, e', frzR, pr]
end Pv.K08

set_option Elab.async false
set_option linter.all false
set_option maxRecDepth 100000
set_option maxHeartbeats 4000000
namespace Pv.K08
open PySem PySem.Spec PyProof.Rows L2
def moN (n : NS) : Mo := n.1.mo
theorem ns_pure (n : NS) : (nsD n).pure = true := rfl
theorem nss_pure : ∀ L : List NS, pures (L.map nsD) = true
  | [] => rfl
  | s :: L => by
    show ((nsD s).pure && pures (L.map nsD)) = true
    rw [ns_pure, nss_pure L]
    rfl
theorem pd_ns (n : NS) : PdOk 1 5000 (nsD n) := by
  refine (pd_tup (k := 0) (w := 1002) (ds := [.int n.1.p, .int n.1.q, .int n.1.d, .int n.1.r]) fun d hd => ?_).mono (by omega) (by simp)
  simp only [List.mem_cons, List.not_mem_nil, or_false] at hd
  rcases hd with rfl | rfl | rfl | rfl
  · exact pd_int (n.2.bp.mono (by decide))
  · exact pd_int (n.2.bq.mono (by decide))
  · exact pd_int (n.2.bd.mono (by decide))
  · exact pd_int (n.2.br.mono (by decide))
theorem ok_nss (L : List NS) : okPy (.lst (L.map nsD)) = true := pd_ok (pd_lst (k := 1) (w := 5000) fun d hd => by
  obtain ⟨n, _, rfl⟩ := List.mem_map.mp hd
  exact pd_ns n) (by omega)
theorem map_get {α β : Type} {f : α → β} {F : List α} {i : Nat} {y : β} (h : (F.map f)[i]? = some y) : ∃ n, F[i]? = some n ∧ f n = y := by
  rw [List.getElem?_map] at h
  exact Option.map_eq_some_iff.mp h
theorem sortN_turn {F : List NS} {x : NS} (hA : Asc (F.map moN)) (hl : F.length ≤ 500) : ∃ F' : List NS, Asc (F'.map moN) ∧ F'.length ≤ F.length + 1 ∧ (∀ y ∈ F', y ∈ F ∨ y = x) ∧ (∀ y ∈ F, y ∈ F') ∧ (∃ y ∈ F', om y = om x) ∧
    ∀ (k : Nat) (a s3 s4 s5 : Slot) (S : Sto), ∃ t3 t4 t5 : Slot, exB prg (callF prg (k + 5)) body57 [a, some (true, .lst (F.map nsD)), some (false, nsD x), s3, s4, s5] S = some (.nx [a, some (true, .lst (F'.map nsD)), some (false, nsD x), t3, t4, t5], S) := by
  obtain ⟨r, r1, r2, r3, r4, r5⟩ := srch (F.map moN) (moN x) F.length 0 F.length (by omega) (by omega) (by simp)
  have big : F.length < most := by
    have : 500 < most := lt_most (show Bd 20 (500 : Int) by unfold Bd; decide) (by decide)
    omega
  have sL : ∀ (k : Nat) (a s5 : Slot) (S : Sto), ∃ t5 : Slot, whl (cW prg (callF prg (k + 5)) (.cmp .Lt (.var 3) (.var 4))) (bW prg (callF prg (k + 5)) [.set 5 (.bin .FloorDiv (.bin .Add (.var 3) (.var 4)) (.cst (.int 2))), .ite (.cmp .Lt (.call 54 [.idx (.bor 1) (.var 5), .var 2]) (.cst (.int 0))) [.set 3 (.bin .Add (.var 5) (.cst (.int 1)))] [.set 4 (.var 5)]]) most
      [a, some (true, .lst (F.map nsD)), some (false, nsD x), some (false, .int 0), some (false, .int (F.length : Int)), s5] S = some (.nx [a, some (true, .lst (F.map nsD)), some (false, nsD x), some (false, .int (r : Int)), some (false, .int (r : Int)), t5], S) := fun k a s5 S => by
    obtain ⟨t5, e⟩ := r5 _ (bW prg (callF prg (k + 5)) [.set 5 (.bin .FloorDiv (.bin .Add (.var 3) (.var 4)) (.cst (.int 2))), .ite (.cmp .Lt (.call 54 [.idx (.bor 1) (.var 5), .var 2]) (.cst (.int 0))) [.set 3 (.bin .Add (.var 5) (.cst (.int 1)))] [.set 4 (.var 5)]])
      (fun lo hi t => [a, some (true, .lst (F.map nsD)), some (false, nsD x), some (false, .int (lo : Int)), some (false, .int (hi : Int)), t]) S
      (show ∀ lo hi t, cW prg (callF prg (k + 5)) (.cmp .Lt (.var 3) (.var 4)) _ S = _ from fun lo hi t => by simp [runF, L2.ixN, List.replicate])
      (fun lo hi t y h1 h2 h3 => by
        obtain ⟨md, hmd⟩ : ∃ md, md = (lo + hi) / 2 := ⟨_, rfl⟩
        have dv := dv_half hmd
        rw [← hmd] at h3 ⊢
        obtain ⟨n, hn, rfl⟩ := map_get h3
        have ix : L2.atI (F.map nsD) (md : Int) = some (nsD n) := atI_get (by simp [hn])
        have se : callF prg (k + 5) 54 [nsD n, nsD x] S = some (.int (cmpM (moN n) (moN x)), S) := l_cmp (k := k + 1) (S := S) (ns300 n) (ns300 x)
        refine ⟨some (false, .int (md : Int)), ?_⟩
        by_cases q : cmpM (moN n) (moN x) < 0 <;> simp [runF, L2.ixN, List.replicate, dv, ix, se, q]) most s5 big
    exact ⟨t5, e⟩
  have hr : r ≤ F.length := r2
  by_cases q : ∃ n, F[r]? = some n ∧ cmpM (moN n) (moN x) = 0
  · obtain ⟨n, hn, h0⟩ := q
    refine ⟨F, hA, by omega, fun y hy => .inl hy, fun y hy => hy, ⟨n, List.mem_of_getElem? hn, om_zero.mp h0⟩, fun k a s3 s4 s5 S => ?_⟩
    obtain ⟨t5, e⟩ := sL k a s5 S
    refine ⟨some (false, .int (r : Int)), some (false, .int (r : Int)), t5, ?_⟩
    have lt : r < F.length := (List.getElem?_eq_some_iff.mp hn).1
    have ne : ¬ r = F.length := by omega
    have ix : L2.atI (F.map nsD) (r : Int) = some (nsD n) := atI_get (by simp [hn])
    have se : callF prg (k + 5) 54 [nsD n, nsD x] S = some (.int (cmpM (moN n) (moN x)), S) := l_cmp (k := k + 1) (S := S) (ns300 n) (ns300 x)
    rw [h0] at se
    simp [body57, f57, runF, L2.ixN, List.replicate, e, ix, se, Int.ofNat_inj, ne]
  · refine ⟨F.take r ++ x :: F.drop r, ?_, by simp; omega, fun y hy => ?_, fun y hy => ?_, ⟨x, by simp, rfl⟩, fun k a s3 s4 s5 S => ?_⟩
    · rw [List.map_append, List.map_cons, List.map_take, List.map_drop]
      refine asc_ins (F.map moN) r hA (by simpa using hr) ?_ ?_
      · intro z y hz hy
        obtain ⟨y', hy', lt⟩ := r3 z hz (by omega)
        rw [hy] at hy'
        injection hy' with hy'
        rw [hy']
        exact lt
      · intro y hy
        obtain ⟨n, hn, rfl⟩ := map_get hy
        have lt : r < F.length := (List.getElem?_eq_some_iff.mp hn).1
        obtain ⟨y', hy', nl⟩ := r4 lt
        rw [hy] at hy'
        injection hy' with hy'
        subst hy'
        have n0 : cmpM (moN n) (moN x) ≠ 0 := fun z => q ⟨n, hn, z⟩
        rw [cmpM_neg]
        omega
    · rcases List.mem_append.mp hy with h | h
      · exact .inl (List.mem_of_mem_take h)
      · rcases List.mem_cons.mp h with h | h
        · exact .inr h
        · exact .inl (List.mem_of_mem_drop h)
    · rw [← List.take_append_drop r F] at hy
      rcases List.mem_append.mp hy with h | h
      · exact List.mem_append.mpr (.inl h)
      · exact List.mem_append.mpr (.inr (List.mem_cons_of_mem _ h))
    · obtain ⟨t5, e⟩ := sL k a s5 S
      refine ⟨some (false, .int (r : Int)), some (false, .int (r : Int)), t5, ?_⟩
      have ins := y_ins (P := prg) (cf := callF prg (k + 5)) (i := 1) (a := .var 3) (b := .var 2) (r := [a, some (true, .lst (F.map nsD)), some (false, nsD x), some (false, .int (r : Int)), some (false, .int (r : Int)), t5]) (S := S) (ds := F.map nsD) (t := r) (d := nsD x) (by simp [runF, L2.ixN, List.replicate]) (by simp [runF, L2.ixN, List.replicate]) rfl (by simp; omega)
      have em : (F.map nsD).take (r : Int).toNat ++ nsD x :: (F.map nsD).drop (r : Int).toNat = (F.take r ++ x :: F.drop r).map nsD := by simp
      rw [em] at ins
      by_cases ne : r = F.length
      · generalize (F.take r ++ x :: F.drop r).map nsD = Z at *
        rw [ne] at ins e
        simp at ins
        simp [body57, f57, runF, L2.ixN, List.replicate, e, ins, Int.ofNat_inj, ne]
      · obtain ⟨n, hn⟩ : ∃ n, F[r]? = some n := ⟨F[r]'(by omega), List.getElem?_eq_getElem (by omega)⟩
        have ix : L2.atI (F.map nsD) (r : Int) = some (nsD n) := atI_get (by simp [hn])
        have se : callF prg (k + 5) 54 [nsD n, nsD x] S = some (.int (cmpM (moN n) (moN x)), S) := l_cmp (k := k + 1) (S := S) (ns300 n) (ns300 x)
        have n0 : cmpM (moN n) (moN x) ≠ 0 := fun z => q ⟨n, hn, z⟩
        generalize (F.take r ++ x :: F.drop r).map nsD = Z at *
        simp at ins
        simp [body57, f57, runF, L2.ixN, List.replicate, e, ins, Int.ofNat_inj, ne, ix, se, n0]
theorem sortsN : ∀ (xs F : List NS), Asc (F.map moN) → F.length + xs.length ≤ 500 → ∃ G : List NS, Asc (G.map moN) ∧ G.length ≤ F.length + xs.length ∧ (∀ y ∈ G, y ∈ F ∨ y ∈ xs) ∧ (∀ y, y ∈ F ∨ y ∈ xs → ∃ g ∈ G, om g = om y) ∧
    ∀ (k : Nat) (a s2 s3 s4 s5 : Slot) (S : Sto), ∃ t2 t3 t4 t5 : Slot, forL (.nm 2) (bW prg (callF prg (k + 5)) body57) (xs.map nsD) [a, some (true, .lst (F.map nsD)), s2, s3, s4, s5] S = some (.nx [a, some (true, .lst (G.map nsD)), t2, t3, t4, t5], S)
  | [], F, hA, _ => ⟨F, hA, by simp, fun y hy => .inl hy, fun y hy => ⟨y, hy.resolve_right List.not_mem_nil, rfl⟩, fun k a s2 s3 s4 s5 S => ⟨s2, s3, s4, s5, rfl⟩⟩
  | x :: xs, F, hA, hl => by
    have hl' : F.length + (xs.length + 1) ≤ 500 := hl
    obtain ⟨F', f1, f2, f3, f4, f5, f6⟩ := sortN_turn (x := x) hA (by omega)
    obtain ⟨G, g1, g2, g3, g4, g5⟩ := sortsN xs F' f1 (by omega)
    refine ⟨G, g1, by show G.length ≤ F.length + (xs.length + 1); omega, fun y hy => ?_, fun y hy => ?_, fun k a s2 s3 s4 s5 S => ?_⟩
    · rcases g3 y hy with h | h
      · rcases f3 y h with h | rfl
        · exact .inl h
        · exact .inr List.mem_cons_self
      · exact .inr (List.mem_cons_of_mem _ h)
    · rcases hy with h | h
      · exact g4 y (.inl (f4 y h))
      · rcases List.mem_cons.mp h with rfl | h
        · obtain ⟨z, hz, ez⟩ := f5
          obtain ⟨g, hg, eg⟩ := g4 z (.inl hz)
          exact ⟨g, hg, eg.trans ez⟩
        · exact g4 y (.inr h)
    · obtain ⟨t3, t4, t5, e⟩ := f6 k a s3 s4 s5 S
      obtain ⟨u2, u3, u4, u5, e'⟩ := g5 k a (some (false, nsD x)) t3 t4 t5 S
      refine ⟨u2, u3, u4, u5, ?_⟩
      rw [List.map_cons, forL_c]
      generalize body57 = Z at *
      simp [e, e']
theorem l_sortedN {xs : List NS} (hl : xs.length ≤ 500) : ∃ G : List NS, Up G ∧ G.length ≤ xs.length ∧ (∀ y ∈ G, y ∈ xs) ∧ (∀ y ∈ xs, ∃ g ∈ G, om g = om y) ∧ ∀ (k : Nat) (S : Sto), callF prg (k + 6) 57 [.lst (xs.map nsD)] S = some (.lst (G.map nsD), S) := by
  obtain ⟨G, g1, g2, g3, g4, g5⟩ := sortsN xs [] True.intro (by simpa using hl)
  refine ⟨G, up_of g1, by simpa using g2, fun y hy => (g3 y hy).resolve_left List.not_mem_nil, fun y hy => g4 y (.inr hy), fun k S => ?_⟩
  obtain ⟨t2, t3, t4, t5, e⟩ := g5 k (some (false, .lst (xs.map nsD))) none none none none S
  rw [cf_s (g := f57) rfl]
  have hb : f57.body = [.own 1 (.lst []), .for_ (.nm 2) (.var 0) body57, .frz [1] (.ret (.var 1))] := rfl
  have hN : f57.N.length = 6 := rfl
  have hn : f57.np = 1 := rfl
  have pr : (D.lst (G.map nsD)).pure = true := nss_pure G
  simp only [List.map_nil] at e
  generalize G.map nsD = Z at *
  generalize xs.map nsD = Y at *
  generalize body57 = W at *
  simp only [runF, hb, hN, hn]
  simp [runF, L2.ixN, List.replicate, List.replicate, e, pr, frzR]
def body62 : List C := match f62.body with
  | _ :: .for_ _ _ b :: _ => b
  | _ => []
/-- a def that tells of a number whether something is so -/
def RuleOk (k jr : Nat) (stuff : D) (ρ : OM → Bool) : Prop := ∀ (n : Nu) (x : OM) (S : Sto), n.Ok 300 → n.mo = x.1 → callF prg (k + 7) jr [stuff, n.n] S = some (.bl (ρ x), S)
theorem rule_loop {k jr : Nat} {stuff : D} {ρ : OM → Bool} (hR : RuleOk k jr stuff ρ) {G : List NS} (hG : G.length < 1000) : ∀ (suf pre : List NS), G = pre ++ suf → Up suf → ∃ ps : List (NS × Bool × Bool), PtsOk ρ suf ps ∧ ∀ (acc : List (NS × Bool × Bool)) (S : Sto) (a s5 s6 s7 : Slot), acc.length + suf.length < 5000 → ∃ t5 t6 t7 : Slot,
    forL (.tp [.nm 5, .nm 6]) (bW prg (callF prg (k + 7)) body62) (enuL pre.length (suf.map nsD)) [a, some (false, .fn jr), some (false, stuff), some (false, .lst (G.map nsD)), some (true, .lst (acc.map ptD)), s5, s6, s7] S =
      some (.nx [a, some (false, .fn jr), some (false, stuff), some (false, .lst (G.map nsD)), some (true, .lst ((acc ++ ps).map ptD)), t5, t6, t7], S)
  | [], pre, _, _ => ⟨[], rfl, fun acc S a s5 s6 s7 _ => ⟨s5, s6, s7, by simp [enuL]⟩⟩
  | [g], pre, eG, _ => by
    refine ⟨[(g, ρ (om g), false)], rfl, fun acc S a s5 s6 s7 hl => ⟨some (false, .int (pre.length : Int)), some (false, nsD g), some (false, .bl false), ?_⟩⟩
    have ln : (G.map nsD).length = pre.length + 1 := by rw [eG]; simp
    have nl : ¬ ((pre.length : Int) + 1 < ((G.map nsD).length : Int)) := by omega
    have r1 : callF prg (k + 7) jr [stuff, nsD g] S = some (.bl (ρ (om g)), S) := hR g.1 (om g) S (ns300 g) rfl
    have la : (acc.map ptD).length < 100000 := by rw [List.length_map]; omega
    have en : enuL pre.length ([g].map nsD) = [.tup [.int (pre.length : Int), nsD g]] := rfl
    have pp : D.tup [nsD g, .bl (ρ (om g)), .bl false] = ptD (g, ρ (om g), false) := rfl
    rw [List.map_append, en, forL_c]
    generalize acc.map ptD = Z at *
    generalize hX : G.map nsD = X at *
    simp [body62, f62, runF, L2.ixN, List.replicate, nl, r1, la, pp]
  | g :: g' :: l, pre, eG, hU => by
    have hU' := List.pairwise_cons.mp hU
    have lt : cmpM g.1.mo g'.1.mo < 0 := hU'.1 g' List.mem_cons_self
    obtain ⟨f, f1, f2, f3, f4, f5⟩ := l_amid lt
    obtain ⟨ps, p1, p2⟩ := rule_loop hR hG (g' :: l) (pre ++ [g]) (by rw [eG]; simp) hU'.2
    refine ⟨(g, ρ (om g), ρ ⟨f.mo, f2⟩) :: ps, ⟨⟨f.mo, f2⟩, ps, f3, f4, rfl, p1⟩, fun acc S a s5 s6 s7 hl => ?_⟩
    have hl' : acc.length + (l.length + 1 + 1) < 5000 := hl
    obtain ⟨t5, t6, t7, e⟩ := p2 (acc ++ [(g, ρ (om g), ρ ⟨f.mo, f2⟩)]) S a (some (false, .int (pre.length : Int))) (some (false, nsD g)) (some (false, .bl (ρ ⟨f.mo, f2⟩))) (by rw [List.length_append]; show acc.length + 1 + (l.length + 1) < 5000; omega)
    refine ⟨t5, t6, t7, ?_⟩
    have ln : (G.map nsD).length = pre.length + 1 + 1 + l.length := by rw [eG]; simp; omega
    have nl : ((pre.length : Int) + 1 < ((G.map nsD).length : Int)) := by omega
    have r1 : callF prg (k + 7) jr [stuff, nsD g] S = some (.bl (ρ (om g)), S) := hR g.1 (om g) S (ns300 g) rfl
    have r2 := hR f ⟨f.mo, f2⟩ S f1 rfl
    have am : callF prg (k + 7) 56 [nsD g, nsD g'] S = some (f.n, S) := f5 (k + 2) S
    have ix : L2.atI (G.map nsD) ((pre.length : Int) + 1) = some (nsD g') := by
      have := atI_get (xs := G.map nsD) (i := pre.length + 1) (d := nsD g') (by
        rw [List.getElem?_map, eG, List.getElem?_append_right (by omega)]
        have : pre.length + 1 - pre.length = 1 := by omega
        rw [this]
        rfl)
      have ec : ((pre.length + 1 : Nat) : Int) = (pre.length : Int) + 1 := by omega
      rw [ec] at this
      exact this
    have la : (acc.map ptD).length < 100000 := by rw [List.length_map]; omega
    have en : enuL pre.length ((g :: g' :: l).map nsD) = .tup [.int (pre.length : Int), nsD g] :: enuL (pre.length + 1) ((g' :: l).map nsD) := rfl
    have lp : (pre ++ [g]).length = pre.length + 1 := by simp
    have pp : D.tup [nsD g, .bl (ρ (om g)), .bl (ρ ⟨f.mo, f2⟩)] = ptD (g, ρ (om g), ρ ⟨f.mo, f2⟩) := rfl
    have em : (acc ++ [(g, ρ (om g), ρ ⟨f.mo, f2⟩)]).map ptD = acc.map ptD ++ [ptD (g, ρ (om g), ρ ⟨f.mo, f2⟩)] := by simp
    have ec2 : acc ++ (g, ρ (om g), ρ ⟨f.mo, f2⟩) :: ps = acc ++ [(g, ρ (om g), ρ ⟨f.mo, f2⟩)] ++ ps := by simp
    rw [lp, em] at e
    rw [ec2, en, forL_c]
    generalize (acc ++ [(g, ρ (om g), ρ ⟨f.mo, f2⟩)] ++ ps).map ptD = V at *
    generalize acc.map ptD = Z at *
    generalize hX : G.map nsD = X at *
    generalize enuL (pre.length + 1) ((g' :: l).map nsD) = Y at *
    have eB : exB prg (callF prg (k + 7)) body62 [a, some (false, .fn jr), some (false, stuff), some (false, .lst X), some (true, .lst Z), some (false, .int (pre.length : Int)), some (false, nsD g), s7] S =
        some (.nx [a, some (false, .fn jr), some (false, stuff), some (false, .lst X), some (true, .lst (Z ++ [ptD (g, ρ (om g), ρ ⟨f.mo, f2⟩)])), some (false, .int (pre.length : Int)), some (false, nsD g), some (false, .bl (ρ ⟨f.mo, f2⟩))], S) := by
      simp [body62, f62, runF, L2.ixN, List.replicate, nl, r1, r2, am, ix, la, pp]
    simp [eB, e]
theorem l_by_rule {k jr : Nat} {stuff : D} {ρ : OM → Bool} (hR : RuleOk k jr stuff ρ) {xs : List NS} (hl : xs.length ≤ 500) : ∃ R : List LS, R.length ≤ xs.length ∧ Can ltC (R.map lsC) ∧ (∀ s ∈ R, s.1.1 ∈ xs ∧ s.2.1 ∈ xs) ∧ (∀ Q, Can ltC Q → (∀ x : OM, ρ x = true ↔ MemS ltC Q (x, false)) → (∀ c, EndS Q c → ∃ n ∈ xs, c.1 = om n) → R.map lsC = Q) ∧
    ∀ S : Sto, callF prg (k + 8) 62 [.lst (xs.map nsD), .fn jr, stuff] S = some (.lst (R.map lsD), S) := by
  obtain ⟨G, g1, g2, g3, g4, g5⟩ := l_sortedN hl
  obtain ⟨ps, p1, p2⟩ := rule_loop hR (G := G) (by omega) G [] rfl g1
  obtain ⟨c1, c2⟩ := byrule_can g1 p1
  refine ⟨rle none (ptsC ps), by omega, c1, fun s hs => ⟨g3 _ (rle_in p1 hs).1, g3 _ (rle_in p1 hs).2⟩, fun Q hQ hρ hE => byrule_eq g1 p1 hQ hρ fun c hc => ?_, fun S => ?_⟩
  · obtain ⟨n, hn, e⟩ := hE c hc
    obtain ⟨g, hg, eg⟩ := g4 n hn
    exact ⟨g, hg, e.trans eg.symm⟩
  · obtain ⟨t5, t6, t7, e⟩ := p2 [] S (some (false, .lst (xs.map nsD))) none none none (by simp; omega)
    have so := g5 (k + 1) S
    have pt := l_put (k := k + 6) (S := S) (ps := ps) (by rw [pts_len p1]; omega)
    have pr : (D.lst ((rle none (ptsC ps)).map lsD)).pure = true := lss_pure _
    have lG : (G.map nsD).length < 100000 := by rw [List.length_map]; omega
    have e' : forL (.tp [.nm 5, .nm 6]) (bW prg (callF prg (k + 7)) body62) (enuL 0 (G.map nsD)) [some (false, .lst (xs.map nsD)), some (false, .fn jr), some (false, stuff), some (false, .lst (G.map nsD)), some (true, .lst []), none, none, none] S =
      some (.nx [some (false, .lst (xs.map nsD)), some (false, .fn jr), some (false, stuff), some (false, .lst (G.map nsD)), some (true, .lst (ps.map ptD)), t5, t6, t7], S) := e
    have p3 := y_par2 (P := prg) (cf := callF prg (k + 7)) (i := 3) (j := 4) (a := false) (b := true) (e := .call 57 [.var 0]) (f := .lst []) (r := [some (false, .lst (xs.map nsD)), some (false, .fn jr), some (false, stuff), none, none, none, none, none]) (S := S) (S1 := S) (S2 := S) (d1 := .lst (G.map nsD)) (d2 := .lst []) (by simp [so]) (by simp) rfl
    rw [cf_s (g := f62) rfl]
    have hb : f62.body = [.par2 3 false (.call 57 [.var 0]) 4 true (.lst []), .for_ (.tp [.nm 5, .nm 6]) (.enu (.var 3)) body62, .frz [4] (.ret (.call 61 [.var 4]))] := rfl
    have hN : f62.N.length = 8 := rfl
    have hn : f62.np = 3 := rfl
    generalize (rle none (ptsC ps)).map lsD = Z at *
    generalize ps.map ptD = Y at *
    generalize G.map nsD = X at *
    generalize xs.map nsD = X0 at *
    generalize body62 = W at *
    simp only [runF, hb, hN, hn]
    simp [runF, L2.ixN, List.replicate, List.replicate, p3, e', frzR, pt, pr]
end Pv.K08

set_option Elab.async false
set_option linter.all false
set_option maxRecDepth 100000
set_option maxHeartbeats 4000000
namespace Pv.K08
open PySem PySem.Spec PyProof.Rows L2
def endsN (L : List LS) : List NS := L.map (fun s => s.1.1) ++ L.map (fun s => s.2.1)
theorem endsN_len (L : List LS) : (endsN L).length = 2 * L.length := by
  unfold endsN
  rw [List.length_append, List.length_map, List.length_map]
  omega
theorem ends_in {L : List LS} {c : Cu} (h : EndS (L.map lsC) c) : ∃ n ∈ endsN L, c.1 = om n := by
  obtain ⟨s, hs, h⟩ := h
  obtain ⟨l, hl, rfl⟩ := List.mem_map.mp hs
  unfold endsN
  rcases h with rfl | rfl
  · exact ⟨l.1.1, List.mem_append.mpr (.inl (List.mem_map.mpr ⟨l, hl, rfl⟩)), rfl⟩
  · exact ⟨l.2.1, List.mem_append.mpr (.inr (List.mem_map.mpr ⟨l, hl, rfl⟩)), rfl⟩
theorem ls_asg (s : LS) {i j k l : Nat} {r : Rho} : asg (.tp [.nm i, .nm j, .nm k, .nm l]) (lsD s) r = asgs [.nm i, .nm j, .nm k, .nm l] [nsD s.1.1, .bl (!s.1.2), nsD s.2.1, .bl s.2.2] r := by
  show asg (.tp [.nm i, .nm j, .nm k, .nm l]) (.tup [nsD s.1.1, .bl (!s.1.2), nsD s.2.1, .bl s.2.2]) r = _
  rw [asg]
theorem l_ends {k : Nat} {S : Sto} {L : List LS} (hl : L.length < 1000) : callF prg (k + 1) 63 [.lst (L.map lsD)] S = some (.lst ((endsN L).map nsD), S) := by
  have c1 : compL (cmpB prg (callF prg k) [1, 2, 3, 4] (.tp [.nm 1, .nm 2, .nm 3, .nm 4]) [] (.var 1) [some (false, .lst (L.map lsD)), none, none, none, none]) (L.map lsD) S = some (L.map (fun s => nsD s.1.1), S) :=
    compL_G L fun s hs => by simp [wipeR, ls_asg]
  have c2 : compL (cmpB prg (callF prg k) [1, 2, 3, 4] (.tp [.nm 1, .nm 2, .nm 3, .nm 4]) [] (.var 3) [some (false, .lst (L.map lsD)), none, none, none, none]) (L.map lsD) S = some (L.map (fun s => nsD s.2.1), S) :=
    compL_G L fun s hs => by simp [wipeR, ls_asg]
  have ln : (L.map lsD).length < 100000 := by rw [List.length_map]; omega
  have ad : binD .Add (.lst (L.map fun s => nsD s.1.1)) (.lst (L.map fun s => nsD s.2.1)) = some (.lst ((endsN L).map nsD)) := by
    rw [b_addl (by rw [List.length_map, List.length_map]; omega)]
    unfold endsN
    rw [List.map_append, List.map_map, List.map_map]
    rfl
  have pr : (D.lst ((endsN L).map nsD)).pure = true := nss_pure _
  generalize (L.map fun s => nsD s.1.1) = Y1 at *
  generalize (L.map fun s => nsD s.2.1) = Y2 at *
  generalize (endsN L).map nsD = Z at *
  generalize L.map lsD = X at *
  rw [cf_s (g := f63) rfl]
  simp [f63, runF, L2.ixN, List.replicate, c1, c2, ln, ad, pr]
theorem has_rule {k : Nat} {L : List LS} (hl : L.length < 1000) : RuleOk k 60 (.lst (L.map lsD)) fun x => decide (MemS ltC (L.map lsC) (x, false)) := fun n x S hn hx => l_has (k := k + 1) hn hx hl
theorem l_joined {k : Nat} {S : Sto} {L : List LS} (hl : L.length ≤ 100) : ∃ R : List LS, R.length ≤ 2 * L.length ∧ Can ltC (R.map lsC) ∧ (∀ s ∈ R, s.1.1 ∈ endsN L ∧ s.2.1 ∈ endsN L) ∧ callF prg (k + 9) 64 [.lst (L.map lsD)] S = some (.lst (R.map lsD), S) := by
  have en := l_ends (k := k + 7) (S := S) (L := L) (by omega)
  have ne := ne_nil (ds := (endsN L).map nsD) (ok_nss _)
  by_cases h0 : endsN L = []
  · refine ⟨[], by simp, ⟨fun s h => absurd h List.not_mem_nil, List.Pairwise.nil⟩, fun s h => absurd h List.not_mem_nil, ?_⟩
    rw [h0] at en ne
    simp at en ne
    rw [cf_s (g := f64) rfl]
    generalize L.map lsD = X at *
    simp [f64, runF, L2.ixN, List.replicate, en, ne, D.pure, pures]
  · obtain ⟨R, r1, r2, r5, _, r4⟩ := l_by_rule (k := k) (has_rule (k := k) (L := L) (by omega)) (xs := endsN L) (by rw [endsN_len]; omega)
    refine ⟨R, by rw [endsN_len] at r1; exact r1, r2, r5, ?_⟩
    have hi : ((endsN L).map nsD).isEmpty = false := by
      cases h : endsN L with
      | nil => exact absurd h h0
      | cons a b => rfl
    rw [hi] at ne
    have br := r4 S
    have pr : (D.lst (R.map lsD)).pure = true := lss_pure _
    rw [cf_s (g := f64) rfl]
    generalize L.map lsD = X at *
    generalize R.map lsD = Z at *
    generalize (endsN L).map nsD = Y at *
    simp [f64, runF, L2.ixN, List.replicate, en, ne, br, pr]
/-- by the numbers of two lots -/
theorem l_by_numbers {k jr : Nat} {S : Sto} {stuff : D} {ρ : OM → Bool} (hR : RuleOk k jr stuff ρ) {xs : List NS} (hl : xs.length ≤ 500) {Q : List (Cu × Cu)} (hQ : Can ltC Q) (hρ : ∀ x : OM, ρ x = true ↔ MemS ltC Q (x, false)) (hE : ∀ c, EndS Q c → ∃ n ∈ xs, c.1 = om n) :
    ∃ R : List LS, R.length ≤ xs.length ∧ R.map lsC = Q ∧ callF prg (k + 9) 69 [.lst (xs.map nsD), .fn jr, stuff] S = some (.lst (R.map lsD), S) := by
  have ne := ne_nil (ds := xs.map nsD) (ok_nss _)
  by_cases h0 : xs = []
  · subst h0
    refine ⟨[], by simp, ?_, ?_⟩
    · cases Q with
      | nil => rfl
      | cons s l =>
        obtain ⟨n, hn, _⟩ := hE s.1 ⟨s, List.mem_cons_self, .inl rfl⟩
        exact absurd hn List.not_mem_nil
    · simp at ne
      rw [cf_s (g := f69) rfl]
      simp [f69, runF, L2.ixN, List.replicate, ne, D.pure, pures]
  · obtain ⟨R, r1, r2, _, r3, r4⟩ := l_by_rule hR hl
    refine ⟨R, r1, r3 Q hQ hρ hE, ?_⟩
    have hi : (xs.map nsD).isEmpty = false := by
      cases xs with
      | nil => exact absurd rfl h0
      | cons a b => rfl
    rw [hi] at ne
    have br := r4 S
    have pr : (D.lst (R.map lsD)).pure = true := lss_pure _
    rw [cf_s (g := f69) rfl]
    generalize R.map lsD = Z at *
    generalize xs.map nsD = Y at *
    simp [f69, runF, L2.ixN, List.replicate, ne, br, pr]
theorem l_told {k : Nat} {S : Sto} {L : List LS} (hl : L.length < 1000) : callF prg (k + 4) 58 [.lst (L.map lsD)] S = some (.tup ((L.map lsC).map stD), S) := by
  have c1 : compL (cmpB prg (callF prg (k + 3)) [1, 2, 3, 4] (.tp [.nm 1, .nm 2, .nm 3, .nm 4]) [] (.tup [.call 53 [.var 1], .var 2, .call 53 [.var 3], .var 4]) [some (false, .lst (L.map lsD)), none, none, none, none]) (L.map lsD) S = some (L.map (fun s => stD (lsC s)), S) :=
    compL_G L fun s hs => by
      have m1 : callF prg (k + 3) 53 [nsD s.1.1] S = some (s.1.1.1.mo.d, S) := l_moment_nu (ns300 s.1.1)
      have m2 : callF prg (k + 3) 53 [nsD s.2.1] S = some (s.2.1.1.mo.d, S) := l_moment_nu (ns300 s.2.1)
      have e : stD (lsC s) = .tup [s.1.1.1.mo.d, .bl (!s.1.2), s.2.1.1.mo.d, .bl s.2.2] := rfl
      rw [e]
      simp [wipeR, ls_asg, m1, m2]
  have ln : (L.map lsD).length < 100000 := by rw [List.length_map]; omega
  have em : (L.map lsC).map stD = L.map fun s => stD (lsC s) := by rw [List.map_map]; rfl
  have pr : (D.tup ((L.map lsC).map stD)).pure = true := sts_pure _
  rw [em] at pr ⊢
  rw [cf_s (g := f58) rfl]
  generalize (L.map fun s => stD (lsC s)) = Z at *
  generalize L.map lsD = X at *
  simp [f58, runF, L2.ixN, List.replicate, c1, ln, pr]
/-! texts of small ones -/
theorem int_len_s {i : Int} (h : Bd 20 i) : (PyData.shown (.int i)).length ≤ 22 := by
  simp only [PyData.shown]
  have := PySem.int_text_length_le (a := i) (k := 21) (by decide) (by have := h.log; omega)
  show (Str.ofString (toString i)).length ≤ _
  rw [PySem.ofString_length]
  omega
theorem pd_int_s {i : Int} (h : Bd 20 i) : PdOk 0 22 (.int i) := ⟨.int i, rfl, by simp [PyData.canLay0], by simp [PyData.depth], int_show (h.mono (by decide)), int_len_s h⟩
theorem pd_bl_s {b : Bool} : PdOk 0 22 (.bl b) := ⟨.bool b, rfl, by simp [PyData.canLay0], by simp [PyData.depth], rfl, by cases b <;> decide⟩
theorem pd_mo_s {x : Mo} (hx : x.ok 20) : PdOk 1 110 x.d := by
  cases x with
  | f u v =>
    refine (pd_tup (k := 0) (w := 22) (ds := [.int u, .int v]) fun d hd => ?_).mono (by omega) (by simp)
    simp only [List.mem_cons, List.not_mem_nil, or_false] at hd
    rcases hd with rfl | rfl
    · exact pd_int_s hx.ba
    · exact pd_int_s hx.bb
  | r a b c s =>
    refine (pd_tup (k := 0) (w := 22) (ds := [.int a, .int b, .int c, .int s]) fun d hd => ?_).mono (by omega) (by simp)
    simp only [List.mem_cons, List.not_mem_nil, or_false] at hd
    rcases hd with rfl | rfl | rfl | rfl
    · exact pd_int_s hx.ba
    · exact pd_int_s hx.bb
    · exact pd_int_s hx.bc
    · exact pd_int_s (hx.bs.mono (by decide))
theorem rp_own {L : List LS} (hl : L.length ≤ 200) : ∃ s, biD .repr [.tup ((L.map lsC).map stD)] = some (.str s) := by
  have h := pd_tup (k := 2) (w := 460) (ds := (L.map lsC).map stD) fun d hd => by
    obtain ⟨s, hs, rfl⟩ := List.mem_map.mp hd
    obtain ⟨l, _, rfl⟩ := List.mem_map.mp hs
    refine (pd_tup (k := 1) (w := 110) (ds := [l.1.1.1.mo.d, .bl (!l.1.2), l.2.1.1.mo.d, .bl l.2.2]) fun d hd => ?_).mono (by omega) (by simp)
    simp only [List.mem_cons, List.not_mem_nil, or_false] at hd
    rcases hd with rfl | rfl | rfl | rfl
    · exact pd_mo_s ((om_small l.1.1).mono (by decide))
    · exact pd_bl_s.mono (by omega) (by omega)
    · exact pd_mo_s ((om_small l.2.1).mono (by decide))
    · exact pd_bl_s.mono (by omega) (by omega)
  refine pd_rp h (by omega) ?_
  rw [List.length_map, List.length_map]
  omega
/-! drawn -/
theorem l_drawn_fraction {k n c : Nat} {M : Int} {S : Sto} (m0 : 0 ≤ M) (m6 : M ≤ 6) (hp : PotOk S n c) (hc : c ≤ 90000) : ∃ (u v : Int) (S' : Sto), callF prg (k + 3) 65 [.ref n, .int M] S = some (.tup [.int u, .int v], S') ∧ Fr 3 u v ∧ PotOk S' n (c + 2) ∧ S'.length = S.length := by
  have b13 : (2 * M + 1).natAbs ≤ 13 := by omega
  obtain ⟨v1, S1, e1, a1, b1, p1, l1⟩ := l_take (k := k + 1) (u := 2 * M + 1) (by omega) (bd_of 13 b13) hp (by omega)
  obtain ⟨d, S2, e2, m2, p2, l2⟩ := l_of (k := k) (xs := [.int 1, .int 1, .int 1, .int 2, .int 3]) (by decide) (by decide) (by decide) p1 (by omega)
  obtain ⟨di, rfl, d0, d3⟩ : ∃ di : Int, d = .int di ∧ 0 < di ∧ di ≤ 3 := by
    simp only [List.mem_cons, List.not_mem_nil, or_false] at m2
    rcases m2 with rfl | rfl | rfl | rfl | rfl <;> exact ⟨_, rfl, by decide, by decide⟩
  obtain ⟨u, v, ef, F, _⟩ := fr_ex (m := 3) (a := v1 - M) (b := di) d0 (bd_of 7 (by omega)) (bd_of 3 (by omega))
  have efr := l_fraction (k := k) (S := S2) (a := v1 - M) (b := di) d0 ((bd_of (k := 8) 3 (by omega)).mono (by decide))
  rw [ef] at efr
  have hl : S2.length = S.length := by omega
  refine ⟨u, v, S2, ?_, F, p2, hl⟩
  have m1 : binD .Mult (.int 2) (.int M) = some (.int (2 * M)) := b_mul (szMul_ok bd2 (bd_of (k := 4) 6 (by omega)))
  rw [cf_s (g := f65) rfl]
  simp [f65, runF, L2.ixN, List.replicate, m1, e1, e2, efr, tkl hl, D.pure, pures]
theorem l_drawn_number {k n c : Nat} {S : Sto} (hp : PotOk S n c) (hc : c ≤ 85000) : ∃ (x : NS) (S' : Sto), callF prg (k + 4) 66 [.ref n] S = some (nsD x, S') ∧ PotOk S' n (c + 5) ∧ S'.length = S.length ∧ x.1.Ok 4 := by
  obtain ⟨v1, S1, e1, a1, b1, p1, l1⟩ := l_take (k := k + 2) (u := 3) (by decide) (bd_of 3 (by decide)) hp (by omega)
  by_cases h : 0 < v1
  · obtain ⟨u, v, S2, e2, F, p2, l2⟩ := l_drawn_fraction (k := k) (M := 6) (by decide) (by decide) p1 (by omega)
    have hl : S2.length = S.length := by omega
    have v0 : 0 < v := by
      have := F.b1
      omega
    have ok4 : (Nu.mk u 0 0 v).Ok 4 := ⟨v0, F.ba.mono (by decide), F.bb.mono (by decide), bd0, bd0, (by show Bd (2 * 4) (0 * 0 * 0); exact bd0), .inl ⟨rfl, rfl⟩⟩
    refine ⟨⟨⟨u, 0, 0, v⟩, ok4.mono (by decide)⟩, S2, ?_, p2.mono (by omega), hl, ok4⟩
    show callF prg (k + 4) 66 [.ref n] S = some (.tup [.int u, .int 0, .int 0, .int v], S2)
    rw [cf_s (g := f66) rfl]
    simp [f66, runF, L2.ixN, List.replicate, e1, h, e2, tkl hl, D.pure, pures]
  · obtain ⟨v2, S2, e2, a2, b2, p2, l2⟩ := l_take (k := k + 2) (u := 9) (by decide) (bd_of 9 (by decide)) p1 (by omega)
    obtain ⟨q, S3, e3, mq, p3, l3⟩ := l_of (k := k + 1) (xs := [.int 1, .int (-1)]) (by decide) (by decide) (by decide) p2 (by omega)
    obtain ⟨d, S4, e4, md, p4, l4⟩ := l_of (k := k + 1) (xs := [.int 2, .int 3, .int 5, .int 7, .int 8, .int 12]) (by decide) (by decide) (by decide) p3 (by omega)
    obtain ⟨r, S5, e5, mr, p5, l5⟩ := l_of (k := k + 1) (xs := [.int 1, .int 2, .int 3]) (by decide) (by decide) (by decide) p4 (by omega)
    have hl : S5.length = S.length := by omega
    obtain ⟨qi, rfl, q1⟩ : ∃ qi : Int, q = .int qi ∧ (qi = 1 ∨ qi = -1) := by
      simp only [List.mem_cons, List.not_mem_nil, or_false] at mq
      rcases mq with rfl | rfl
      · exact ⟨_, rfl, .inl rfl⟩
      · exact ⟨_, rfl, .inr rfl⟩
    obtain ⟨ri, rfl, r0, r3⟩ : ∃ ri : Int, r = .int ri ∧ 0 < ri ∧ ri ≤ 3 := by
      simp only [List.mem_cons, List.not_mem_nil, or_false] at mr
      rcases mr with rfl | rfl | rfl <;> exact ⟨_, rfl, by decide, by decide⟩
    obtain ⟨di, rfl, d0, d12, ns⟩ : ∃ di : Int, d = .int di ∧ 0 < di ∧ di ≤ 12 ∧ Nsq di := by
      simp only [List.mem_cons, List.not_mem_nil, or_false] at md
      rcases md with rfl | rfl | rfl | rfl | rfl | rfl
      · exact ⟨_, rfl, by decide, by decide, nsq_between (w := 1) (by decide) (by decide) (by decide)⟩
      · exact ⟨_, rfl, by decide, by decide, nsq_between (w := 1) (by decide) (by decide) (by decide)⟩
      · exact ⟨_, rfl, by decide, by decide, nsq_between (w := 2) (by decide) (by decide) (by decide)⟩
      · exact ⟨_, rfl, by decide, by decide, nsq_between (w := 2) (by decide) (by decide) (by decide)⟩
      · exact ⟨_, rfl, by decide, by decide, nsq_between (w := 2) (by decide) (by decide) (by decide)⟩
      · exact ⟨_, rfl, by decide, by decide, nsq_between (w := 3) (by decide) (by decide) (by decide)⟩
    have qq : qi * qi * di = di := by rcases q1 with h | h <;> rw [h] <;> simp
    have ok4 : (Nu.mk (v2 - 4) qi di ri).Ok 4 := ⟨r0, bd_of 8 (by show (v2 - 4).natAbs ≤ 8; omega), bd_of 3 (by show ri.natAbs ≤ 3; omega), bd_of 12 (by show di.natAbs ≤ 12; omega), bd_of 1 (by show qi.natAbs ≤ 1; omega),
      (by show Bd (2 * 4) (qi * qi * di); rw [qq]; exact bd_of 12 (by omega)), .inr ⟨by show qi ≠ 0; omega, d0, ns⟩⟩
    refine ⟨⟨⟨v2 - 4, qi, di, ri⟩, ok4.mono (by decide)⟩, S5, ?_, p5.mono (by omega), hl, ok4⟩
    show callF prg (k + 4) 66 [.ref n] S = some (.tup [.int (v2 - 4), .int qi, .int di, .int ri], S5)
    rw [cf_s (g := f66) rfl]
    simp [f66, runF, L2.ixN, List.replicate, e1, h, e2, e3, e4, e5, tkl hl, D.pure, pures]
def body67 : List C := match f67.body with
  | _ :: .for_ _ _ b :: _ => b
  | _ => []
theorem stretch_turn {k n c : Nat} {S : Sto} (hp : PotOk S n c) (hc : c ≤ 80000) (acc : List LS) (hs : ∀ s ∈ acc, s.1.1.1.Ok 4 ∧ s.2.1.1.Ok 4) (hl : acc.length < 1000) (m lap s4 s5 s6 s7 s8 : Slot) : ∃ (acc' : List LS) (t4 t5 t6 t7 t8 : Slot) (S' : Sto),
    exB prg (callF prg (k + 4)) body67 [some (false, .ref n), m, some (true, .lst (acc.map lsD)), lap, s4, s5, s6, s7, s8] S = some (.nx [some (false, .ref n), m, some (true, .lst (acc'.map lsD)), lap, t4, t5, t6, t7, t8], S') ∧ acc'.length = acc.length + 1 ∧ PotOk S' n (c + 12) ∧ S'.length = S.length ∧ (∀ s ∈ acc', s.1.1.1.Ok 4 ∧ s.2.1.1.Ok 4) := by
  have app : ∀ (t : LS), t.1.1.1.Ok 4 → t.2.1.1.Ok 4 → ∀ s ∈ acc ++ [t], s.1.1.1.Ok 4 ∧ s.2.1.1.Ok 4 := fun t h1 h2 s h => by
    rcases List.mem_append.mp h with q | q
    · exact hs s q
    · obtain rfl := List.mem_singleton.mp q
      exact ⟨h1, h2⟩
  obtain ⟨x, S1, e1, p1, l1, ox⟩ := l_drawn_number (k := k) hp (by omega)
  obtain ⟨y, S2, e2, p2, l2, oy⟩ := l_drawn_number (k := k) p1 (by omega)
  have c0 : callF prg (k + 4) 54 [nsD x, nsD y] S2 = some (.int (cmpM x.1.mo y.1.mo), S2) := l_cmp (k := k) (ns300 x) (ns300 y)
  have la : (acc.map lsD).length < 100000 := by rw [List.length_map]; omega
  by_cases h0 : cmpM x.1.mo y.1.mo = 0
  · rw [h0] at c0
    refine ⟨acc ++ [((y, false), (x, true))], some (false, .int 0), some (false, nsD x), some (false, nsD y), some (false, nsD y), some (false, nsD x), S2, ?_, by simp, p2.mono (by omega), by omega, app _ oy ox⟩
    have pp : D.tup [nsD y, .bl true, nsD x, .bl true] = lsD ((y, false), (x, true)) := rfl
    rw [List.map_append]
    generalize acc.map lsD = Z at *
    simp [body67, f67, runF, L2.ixN, List.replicate, e1, e2, c0, la, pp]
  · obtain ⟨v3, S3, e3, a3, b3, p3, l3⟩ := l_take (k := k + 3) (u := 2) (by decide) (bd_of 2 (by decide)) p2 (by omega)
    obtain ⟨v4, S4, e4, a4, b4, p4, l4⟩ := l_take (k := k + 3) (u := 2) (by decide) (bd_of 2 (by decide)) p3 (by omega)
    generalize hc' : cmpM x.1.mo y.1.mo = cc at *
    by_cases h1 : cc < 0
    · refine ⟨acc ++ [((x, !decide (v3 = 0)), (y, decide (v4 = 0)))], some (false, .int cc), some (false, nsD x), some (false, nsD y), some (false, nsD x), some (false, nsD y), S4, ?_, by simp, p4.mono (by omega), by omega, app _ ox oy⟩
      have pp : D.tup [nsD x, .bl (decide (v3 = 0)), nsD y, .bl (decide (v4 = 0))] = lsD ((x, !decide (v3 = 0)), (y, decide (v4 = 0))) := by
        show _ = D.tup [nsD x, .bl (!(!decide (v3 = 0))), nsD y, .bl (decide (v4 = 0))]
        rw [Bool.not_not]
      rw [List.map_append, List.map_cons, List.map_nil, ← pp]
      generalize acc.map lsD = Z at *
      simp [body67, f67, runF, L2.ixN, List.replicate, e1, e2, c0, h0, h1, e3, e4, la]
    · refine ⟨acc ++ [((y, !decide (v3 = 0)), (x, decide (v4 = 0)))], some (false, .int cc), some (false, nsD x), some (false, nsD y), some (false, nsD y), some (false, nsD x), S4, ?_, by simp, p4.mono (by omega), by omega, app _ oy ox⟩
      have pp : D.tup [nsD y, .bl (decide (v3 = 0)), nsD x, .bl (decide (v4 = 0))] = lsD ((y, !decide (v3 = 0)), (x, decide (v4 = 0))) := by
        show _ = D.tup [nsD y, .bl (!(!decide (v3 = 0))), nsD x, .bl (decide (v4 = 0))]
        rw [Bool.not_not]
      rw [List.map_append, List.map_cons, List.map_nil, ← pp]
      generalize acc.map lsD = Z at *
      simp [body67, f67, runF, L2.ixN, List.replicate, e1, e2, c0, h0, h1, e3, e4, la]
theorem stretch_laps {k n : Nat} (m : Slot) : ∀ (ds : List D) (acc : List LS) (S : Sto) (c : Nat) (s3 s4 s5 s6 s7 s8 : Slot), (∀ s ∈ acc, s.1.1.1.Ok 4 ∧ s.2.1.1.Ok 4) → PotOk S n c → c + 12 * ds.length ≤ 70000 → acc.length + ds.length < 1000 → ∃ (acc' : List LS) (t3 t4 t5 t6 t7 t8 : Slot) (S' : Sto),
    forL (.nm 3) (bW prg (callF prg (k + 4)) body67) ds [some (false, .ref n), m, some (true, .lst (acc.map lsD)), s3, s4, s5, s6, s7, s8] S = some (.nx [some (false, .ref n), m, some (true, .lst (acc'.map lsD)), t3, t4, t5, t6, t7, t8], S') ∧ acc'.length = acc.length + ds.length ∧ PotOk S' n (c + 12 * ds.length) ∧ S'.length = S.length ∧ (∀ s ∈ acc', s.1.1.1.Ok 4 ∧ s.2.1.1.Ok 4)
  | [], acc, S, c, s3, s4, s5, s6, s7, s8, hs, hp, _, _ => ⟨acc, s3, s4, s5, s6, s7, s8, S, rfl, rfl, hp, rfl, hs⟩
  | d :: ds, acc, S, c, s3, s4, s5, s6, s7, s8, hs, hp, hc, hl => by
    have hc' : c + 12 * (ds.length + 1) ≤ 70000 := hc
    have hl' : acc.length + (ds.length + 1) < 1000 := hl
    obtain ⟨acc1, t4, t5, t6, t7, t8, S1, e1, n1, p1, l1, o1⟩ := stretch_turn (k := k) hp (by omega) acc hs (by omega) m (some (false, d)) s4 s5 s6 s7 s8
    obtain ⟨acc2, u3, u4, u5, u6, u7, u8, S2, e2, n2, p2, l2, o2⟩ := stretch_laps (k := k) m ds acc1 S1 (c + 12) (some (false, d)) t4 t5 t6 t7 t8 o1 p1 (by omega) (by omega)
    refine ⟨acc2, u3, u4, u5, u6, u7, u8, S2, ?_, by rw [n2, n1]; show _ = acc.length + (ds.length + 1); omega, p2.mono (by show c + 12 + 12 * ds.length ≤ c + 12 * (ds.length + 1); omega), by omega, o2⟩
    rw [forL_c]
    generalize body67 = Z at *
    simp [e1, e2]
theorem l_drawn_stretches' {k n c : Nat} {S : Sto} {M : Int} (m0 : 0 ≤ M) (m4 : M ≤ 4) (hp : PotOk S n c) (hc : c ≤ 50000) : ∃ (R : List LS) (S' : Sto), callF prg (k + 10) 67 [.ref n, .int M] S = some (.lst (R.map lsD), S') ∧ Can ltC (R.map lsC) ∧ R.length ≤ 8 ∧ PotOk S' n (c + 61) ∧ S'.length = S.length ∧ (∀ s ∈ R, s.1.1.1.Ok 4 ∧ s.2.1.1.Ok 4) := by
  obtain ⟨v, S1, e1, a1, b1, p1, l1⟩ := l_take (k := k + 8) (u := M + 1) (by omega) (bd_of 5 (by omega)) hp (by omega)
  have rg : rngD [.int v] = some (rangeL 0 v.toNat) := if_pos (by
    unfold rangeOk
    simp only [Bool.and_eq_true, decide_eq_true_eq]
    refine ⟨⟨⟨⟨?_, ?_⟩, ?_⟩, ?_⟩, ?_⟩ <;> first | decide | omega)
  have lr : (rangeL 0 v.toNat).length = v.toNat := by unfold rangeL; simp
  obtain ⟨acc, t3, t4, t5, t6, t7, t8, S2, e2, n2, p2, l2, os⟩ := stretch_laps (k := k + 5) (n := n) (some (false, .int M)) (rangeL 0 v.toNat) [] S1 (c + 1) none none none none none none (fun s h => absurd h List.not_mem_nil) p1 (by rw [lr]; omega) (by rw [lr]; simp; omega)
  rw [lr] at n2 p2
  obtain ⟨R, r1, r2, r5, r3⟩ := l_joined (k := k) (S := S2) (L := acc) (by rw [n2]; simp; omega)
  have hl : S2.length = S.length := by omega
  have oe : ∀ n ∈ endsN acc, n.1.Ok 4 := fun n hn => by
    rcases List.mem_append.mp hn with q | q
    · obtain ⟨s, hs, rfl⟩ := List.mem_map.mp q
      exact (os s hs).1
    · obtain ⟨s, hs, rfl⟩ := List.mem_map.mp q
      exact (os s hs).2
  refine ⟨R, S2, ?_, r2, by rw [n2] at r1; simp at r1; omega, p2.mono (by omega), hl, fun s hs => ⟨oe _ (r5 s hs).1, oe _ (r5 s hs).2⟩⟩
  simp only [List.map_nil] at e2
  rw [cf_s (g := f67) rfl]
  have hb : f67.body = [.own 2 (.lst []), .for_ (.nm 3) (.rng [.call 43 [.var 0, .bin .Add (.var 1) (.cst (.int 1))]]) body67, .frz [2] (.ret (.call 64 [.var 2]))] := rfl
  have hN : f67.N.length = 9 := rfl
  have hn : f67.np = 2 := rfl
  have pr : (D.lst (R.map lsD)).pure = true := lss_pure _
  generalize R.map lsD = Z at *
  generalize acc.map lsD = Y at *
  generalize body67 = W at *
  simp only [runF, hb, hN, hn]
  simp [runF, L2.ixN, List.replicate, List.replicate, e1, rg, e2, frzR, r3, pr, tkl hl]
theorem l_drawn_stretches {k n c : Nat} {S : Sto} (hp : PotOk S n c) (hc : c ≤ 50000) : ∃ (R : List LS) (S' : Sto), callF prg (k + 10) 67 [.ref n, .int 4] S = some (.lst (R.map lsD), S') ∧ Can ltC (R.map lsC) ∧ R.length ≤ 8 ∧ PotOk S' n (c + 61) ∧ S'.length = S.length ∧ (∀ s ∈ R, s.1.1.1.Ok 4 ∧ s.2.1.1.Ok 4) := l_drawn_stretches' (by decide) (by decide) hp hc
theorem l_is_same {k : Nat} {S : Sto} {R : List LS} (hl : R.length ≤ 200) : callF prg (k + 5) 73 [.tup ((R.map lsC).map stD), .lst (R.map lsD)] S = some (.bl true, S) := by
  have t := l_told (k := k) (S := S) (L := R) (by omega)
  obtain ⟨s, rs⟩ := rp_own hl
  rw [cf_s (g := f73) rfl]
  generalize (R.map lsC).map stD = X at *
  generalize R.map lsD = Y at *
  simp [f73, runF, L2.ixN, List.replicate, t, rs]
theorem eq_st (A : List (Cu × Cu)) : cmpD .Eq (.tup (A.map stD)) (.tup (A.map stD)) = some true := by
  have h := pd_ok (pd_sts A) (by omega)
  show (if okPy (.tup (A.map stD)) && okPy (.tup (A.map stD)) then some (eqD (.tup (A.map stD)) (.tup (A.map stD))) else none) = _
  rw [h]
  show some (eqDs (A.map stD) (A.map stD)) = some true
  rw [eqDs_refl_st]
theorem l_cells2 {k : Nat} {S : Sto} {ns : List Int} : ∃ m : Nat, m ≤ 3 ∧ callF prg (k + 1) 46 [scr ns, .int 2] S = some (.lst (rangeL 0 m), S) := by
  obtain ⟨q, hq, h0, h3⟩ : ∃ q : Int, (if 1 < (if (ns.length : Int) < 2 then (ns.length : Int) else 2) then (if (ns.length : Int) < 2 then (ns.length : Int) else 2) else 1) = q ∧ 0 ≤ q ∧ q ≤ 3 := ⟨_, rfl, by split <;> (try split) <;> omega, by split <;> (try split) <;> omega⟩
  refine ⟨q.toNat, by omega, ?_⟩
  rw [cf_s (g := f46) rfl]
  have rg : rngD [.int q] = some (rangeL 0 q.toNat) := if_pos (by
    unfold rangeOk
    simp only [Bool.and_eq_true, decide_eq_true_eq]
    refine ⟨⟨⟨⟨?_, ?_⟩, ?_⟩, ?_⟩, ?_⟩ <;> first | decide | omega)
  have pr : ∀ (m : Nat), pures (rangeL 0 m) = true := fun m => by
    unfold rangeL
    induction (List.range m) with
    | nil => rfl
    | cons a l ih =>
      show (true && pures _) = true
      rw [Bool.true_and]
      exact ih
  simp [f46, runF, scr, List.replicate, hq, rg, pr]
end Pv.K08

set_option Elab.async false
set_option linter.all false
set_option maxRecDepth 100000
set_option maxHeartbeats 4000000
namespace Pv.K08
open PySem PySem.Spec PyProof.Rows L2
/-- shifted_by on a moment of a number -/
theorem s_shift {k : Nat} {S : Sto} {x : Nu} {f : Len} (h : x.Ok 8) : callF prg (k + 4) 22 [x.mo.d, .tup [.int f.1.1, .int f.1.2]] S = some ((x.later f.1.1 f.1.2).mo.d, S) := by
  obtain ⟨⟨t, b⟩, F⟩ := f
  have b0 : 0 < b := by have := F.b1; show 0 < b; omega
  have hok := (nu_rel h).1
  have hl := later_ok (t := t) (b := b) h b0 F.ba F.bb (Nat.le_refl _)
  show callF prg (k + 4) 22 [x.mo.d, .tup [.int t, .int b]] S = some ((x.later t b).mo.d, S)
  rcases h.qd with ⟨q0, _⟩ | ⟨q0, d0, ns⟩
  · have em : x.mo = Mo.fr x.p x.r := if_pos q0
    have el : (x.later t b).mo = Mo.fr (x.p * b + t * x.r) (x.r * b) := if_pos (by show x.q * b = 0; rw [q0, Int.zero_mul])
    rw [em] at hok
    obtain ⟨okf, e⟩ := Mo.fr_ok (m := 8) h.r0 h.bp h.br
    have s := s_shifted_by_f (k := k) (S := S) okf (F.mono (by decide : 3 ≤ 8)) (by decide)
    rw [em, el]
    have g0 := gcd_pos (a := x.p) h.r0
    obtain ⟨u, hu⟩ := Int.gcd_dvd_left x.p x.r
    obtain ⟨v, hv⟩ := Int.gcd_dvd_right x.p x.r
    have eu : x.p / (Int.gcd x.p x.r : Int) = u := Int.ediv_eq_of_eq_mul_right (by omega) hu
    have ev : x.r / (Int.gcd x.p x.r : Int) = v := Int.ediv_eq_of_eq_mul_right (by omega) hv
    rw [eu, ev] at s
    have v0 : 0 < v := by
      have h1 := h.r0
      rw [hv] at h1
      rcases Int.lt_trichotomy v 0 with z | z | z
      · have := Int.mul_neg_of_pos_of_neg g0 z
        omega
      · rw [z, Int.mul_zero] at h1
        omega
      · exact z
    have ef : fr (u * b + t * v) (v * b) = fr (x.p * b + t * x.r) (x.r * b) := by
      refine fr_eq (Int.mul_pos v0 b0) (Int.mul_pos h.r0 b0) ?_
      have a1 : (u * b + t * v) * (x.r * b) = (u * b + t * v) * ((Int.gcd x.p x.r : Int) * v * b) := by rw [← hv]
      have a2 : (x.p * b + t * x.r) * (v * b) = ((Int.gcd x.p x.r : Int) * u * b + t * ((Int.gcd x.p x.r : Int) * v)) * (v * b) := by rw [← hu, ← hv]
      rw [a1, a2]
      grind
    rw [ef] at s
    show callF prg (k + 4) 22 [.tup [.int (x.p / (Int.gcd x.p x.r : Int)), .int (x.r / (Int.gcd x.p x.r : Int))], .tup [.int t, .int b]] S = _
    rw [eu, ev]
    exact s
  · have z : 2 * x.r * x.q ≠ 0 := Int.mul_ne_zero (by have := h.r0; omega) q0
    obtain ⟨g, a, y, c, g0, e1, e2, e3, e4, R⟩ := prim_ex (m := 19) (a := x.r * x.r) (b := -2 * x.p * x.r) (c := x.p * x.p - x.q * x.q * x.d) (s := x.q.sign) (Int.mul_pos h.r0 h.r0) (sign_pm q0) (by rw [disc_num]; exact pos_of z d0) (by rw [disc_num]; exact nsq_mul z ns)
      ((h.br.mul h.br).mono (by decide)) (((bd2.neg.mul h.bp).mul h.br).mono (by decide)) ((h.bp.mul h.bp).sub h.bqd (by decide) (by decide))
    have em : x.mo.d = prim (x.r * x.r) (-2 * x.p * x.r) (x.p * x.p - x.q * x.q * x.d) x.q.sign := by
      unfold Nu.mo
      rw [if_neg q0]
      rfl
    have qb : x.q * b ≠ 0 := Int.mul_ne_zero q0 (by omega)
    have el : (x.later t b).mo.d = prim (x.r * b * (x.r * b)) (-2 * (x.p * b + t * x.r) * (x.r * b)) ((x.p * b + t * x.r) * (x.p * b + t * x.r) - x.q * b * (x.q * b) * x.d) (x.q * b).sign := by
      unfold Nu.mo
      rw [if_neg (show (x.later t b).q ≠ 0 from qb)]
      rfl
    have s := s_shifted_by_r (k := k) (S := S) R (F.mono (by decide : 3 ≤ 19)) (by decide)
    rw [em, e4, s, el]
    have sg : (x.q * b).sign = x.q.sign := by rw [Int.sign_mul, Int.sign_eq_one_of_pos b0, Int.mul_one]
    rw [sg]
    have pe : prim (a * (b * b)) ((y * b - 2 * a * t) * b) (a * t * t + (c * b - y * t) * b) x.q.sign = prim (x.r * b * (x.r * b)) (-2 * (x.p * b + t * x.r) * (x.r * b)) ((x.p * b + t * x.r) * (x.p * b + t * x.r) - x.q * b * (x.q * b) * x.d) x.q.sign := by
      refine prim_eq (x := g) (y := 1) g0 (by decide) ?_ ?_ ?_
      · rw [Int.one_mul]
        have : g * (a * (b * b)) = g * a * (b * b) := by grind
        rw [this, ← e1]
        grind
      · rw [Int.one_mul]
        have : g * ((y * b - 2 * a * t) * b) = (g * y * b - 2 * (g * a) * t) * b := by grind
        rw [this, ← e1, ← e2]
        grind
      · rw [Int.one_mul]
        have : g * (a * t * t + (c * b - y * t) * b) = g * a * t * t + (g * c * b - g * y * t) * b := by grind
        rw [this, ← e1, ← e2, ← e3]
        grind
    rw [pe]
end Pv.K08

set_option Elab.async false
set_option linter.all false
set_option maxRecDepth 100000
set_option maxHeartbeats 4000000
namespace Pv.K08
open PySem PySem.Spec PyProof.Rows L2
def lenD (f : Len) : D := .tup [.int f.1.1, .int f.1.2]
theorem s_shiftN {k : Nat} {S : Sto} {n : NS} {f : Len} : callF prg (k + 4) 22 [(om n).1.d, lenD f] S = some ((omL n f).1.d, S) := s_shift n.2
theorem st_asg (s : Cu × Cu) {i j k l : Nat} {r : Rho} : asg (.tp [.nm i, .nm j, .nm k, .nm l]) (stD s) r = asgs [.nm i, .nm j, .nm k, .nm l] [s.1.1.1.d, .bl (!s.1.2), s.2.1.1.d, .bl s.2.2] r := by
  show asg (.tp [.nm i, .nm j, .nm k, .nm l]) (.tup [s.1.1.1.d, .bl (!s.1.2), s.2.1.1.d, .bl s.2.2]) r = _
  rw [asg]
theorem lsC_D (A : List LS) : (A.map lsC).map stD = A.map fun s => stD (lsC s) := by rw [List.map_map]; rfl
theorem s_check_length {k : Nat} {S : Sto} {f : Len} (h0 : 0 ≤ f.1.1) : callF prg (k + 3) 32 [lenD f] S = some (.non, S) := by
  have e := s_is_fraction_t (k := k) (S := S) f.2 (by decide)
  have n0 : ¬ f.1.1 < 0 := by omega
  rw [cf_s (g := f32) rfl]
  simp [f32, runF, L2.ixN, List.replicate, lenD, e, n0]
end Pv.K08

set_option Elab.async false
set_option linter.all false
set_option maxRecDepth 100000
set_option maxHeartbeats 4000000
namespace Pv.K08
open PySem PySem.Spec PyProof.Rows L2
theorem ne_st (A : List (Cu × Cu)) : cmpD .NotEq (.tup (A.map stD)) (.tup (A.map stD)) = some false := by
  have h := pd_ok (pd_sts A) (by omega)
  show (if okPy (.tup (A.map stD)) && okPy (.tup (A.map stD)) then some (!eqD (.tup (A.map stD)) (.tup (A.map stD))) else none) = _
  rw [h]
  show some (!eqDs (A.map stD) (A.map stD)) = some false
  rw [eqDs_refl_st]
  rfl
theorem l_laterN {k m : Nat} {S : Sto} {x : Nu} {f : Len} (h : x.Ok m) (hm : m ≤ 400 := by decide) : callF prg (k + 1) 55 [x.n, lenD f] S = some ((x.later f.1.1 f.1.2).n, S) :=
  l_later (k := k) (S := S) (h.bp.mono (by omega)) (h.bq.mono (by omega)) (h.br.mono (by omega)) (f.2.ba.mono (by decide)) (f.2.bb.mono (by decide))
theorem l_drawn_length {k n c : Nat} {S : Sto} (hp : PotOk S n c) (hc : c ≤ 90000) : ∃ (f : Len) (S' : Sto), callF prg (k + 3) 68 [.ref n] S = some (lenD f, S') ∧ 0 ≤ f.1.1 ∧ PotOk S' n (c + 1) ∧ S'.length = S.length := by
  obtain ⟨d, S1, e1, m1, p1, l1⟩ := l_of (k := k) (xs := [.tup [.int 0, .int 1], .tup [.int 1, .int 2], .tup [.int 1, .int 1], .tup [.int 1, .int 1], .tup [.int 3, .int 2], .tup [.int 2, .int 1], .tup [.int 5, .int 3], .tup [.int 4, .int 1]]) (by decide) (by decide) (by decide) hp (by omega)
  have F : ∀ (t b : Int), 1 ≤ b → Int.gcd t b = 1 → Bd 3 t → Bd 3 b → 0 ≤ t → d = .tup [.int t, .int b] → ∃ f : Len, d = lenD f ∧ 0 ≤ f.1.1 := fun t b h1 h2 h3 h4 h5 e => ⟨⟨(t, b), ⟨h1, h2, h3, h4⟩⟩, e, h5⟩
  have key : ∃ f : Len, d = lenD f ∧ 0 ≤ f.1.1 := by
    simp only [List.mem_cons, List.not_mem_nil, or_false] at m1
    rcases m1 with h | h | h | h | h | h | h | h <;> exact F _ _ (by decide) (by decide) (by unfold Bd; decide) (by unfold Bd; decide) (by decide) h
  obtain ⟨f, rfl, f0⟩ := key
  refine ⟨f, S1, ?_, f0, p1, l1⟩
  have pr : (lenD f).pure = true := rfl
  rw [cf_s (g := f68) rfl]
  simp [f68, runF, L2.ixN, List.replicate, e1, pr, tkl l1]
theorem ls_0 (s : LS) : idxD (lsD s) (.int 0) = some (nsD s.1.1) := rfl
theorem ls_1 (s : LS) : idxD (lsD s) (.int 1) = some (.bl (!s.1.2)) := rfl
theorem ls_2 (s : LS) : idxD (lsD s) (.int 2) = some (nsD s.2.1) := rfl
theorem ls_3 (s : LS) : idxD (lsD s) (.int 3) = some (.bl s.2.2) := rfl
theorem ls_deB {S : Sto} (s : LS) : deB S (lsD s) = lsD s := rfl
theorem ls_wk (s : LS) : wk (lsD s) = lsD s := rfl
theorem l_meets {k m1 m2 : Nat} {S : Sto} {s : LS} {e n : Nu} (he : e.Ok m1) (hn : n.Ok m2) (h1 : m1 ≤ 400 := by decide) (h2 : m2 ≤ 400 := by decide) : callF prg (k + 5) 70 [lsD s, e.n, n.n] S =
    some (.bl (decide (cmpM s.1.1.1.mo n.mo < 0 ∨ (cmpM s.1.1.1.mo n.mo = 0 ∧ s.1.2 = false)) && decide (cmpM e.mo s.2.1.1.mo < 0 ∨ (cmpM e.mo s.2.1.1.mo = 0 ∧ s.2.2 = true))), S) := by
  have c1 : callF prg (k + 4) 54 [nsD s.1.1, n.n] S = some (.int (cmpM s.1.1.1.mo n.mo), S) := l_cmp (k := k) (S := S) (ns300 s.1.1) hn (by decide) h2
  have c2 : callF prg (k + 4) 54 [e.n, nsD s.2.1] S = some (.int (cmpM e.mo s.2.1.1.mo), S) := l_cmp (k := k) (S := S) he (ns300 s.2.1) h1
  rw [cf_s (g := f70) rfl]
  generalize cmpM s.1.1.1.mo n.mo = u at *
  generalize cmpM e.mo s.2.1.1.mo = v at *
  have i1 := ls_1 s
  have i3 := ls_3 s
  generalize s.1.2 = a at *
  generalize s.2.2 = b at *
  rcases Int.lt_trichotomy u 0 with h1 | h1 | h1
  · rcases Int.lt_trichotomy v 0 with h2 | h2 | h2
    · simp [f70, runF, L2.ixN, List.replicate, ls_0, i1, ls_2, i3, ls_deB, ls_wk, c1, c2, h1, h2]
    · subst h2
      cases b <;> simp [f70, runF, L2.ixN, List.replicate, ls_0, i1, ls_2, i3, ls_deB, ls_wk, c1, c2, h1]
    · have n1 : ¬ v < 0 := by omega
      have n2 : ¬ v = 0 := by omega
      simp [f70, runF, L2.ixN, List.replicate, ls_0, i1, ls_2, i3, ls_deB, ls_wk, c1, c2, h1, n1, n2]
  · subst h1
    rcases Int.lt_trichotomy v 0 with h2 | h2 | h2
    · cases a <;> simp [f70, runF, L2.ixN, List.replicate, ls_0, i1, ls_2, i3, ls_deB, ls_wk, c1, c2, h2]
    · subst h2
      cases a <;> cases b <;> simp [f70, runF, L2.ixN, List.replicate, ls_0, i1, ls_2, i3, ls_deB, ls_wk, c1, c2]
    · have n1 : ¬ v < 0 := by omega
      have n2 : ¬ v = 0 := by omega
      cases a <;> simp [f70, runF, L2.ixN, List.replicate, ls_0, i1, ls_2, i3, ls_deB, ls_wk, c1, c2, n1, n2]
  · have n1 : ¬ u < 0 := by omega
    have n2 : ¬ u = 0 := by omega
    simp [f70, runF, L2.ixN, List.replicate, ls_0, i1, ls_2, i3, ls_deB, ls_wk, c1, c2, n1, n2]
/-- a number beside a low and a high cut -/
theorem lo_iff' {x y : OM} {a : Bool} : (¬ ltC (x, false) (y, a)) ↔ (cmpM y.1 x.1 < 0 ∨ (cmpM y.1 x.1 = 0 ∧ a = false)) := by
  rw [ltC_by' (x := y) (y := x)]
  cases a <;> simp <;> omega
theorem hi_iff' {x y : OM} {b : Bool} : ltC (x, false) (y, b) ↔ (cmpM x.1 y.1 < 0 ∨ (cmpM x.1 y.1 = 0 ∧ b = true)) := by
  rw [ltC_by (x := x) (y := y)]
  simp
theorem nar_len {A : List LS} {f : Len} : (narL A f).length ≤ A.length := by
  unfold narL
  induction A with
  | nil => exact Nat.le_refl _
  | cons s A ih =>
    rw [List.flatMap_cons, List.length_append]
    have : (mk1 ltC (cuL s.1 f) (cuN s.2)).length ≤ 1 := by unfold mk1; split <;> simp
    show _ ≤ A.length + 1
    omega
theorem ends_ok {A : List LS} (h : ∀ s ∈ A, s.1.1.1.Ok 4 ∧ s.2.1.1.Ok 4) : ∀ n ∈ endsN A, n.1.Ok 4 := fun n hn => by
  rcases List.mem_append.mp hn with q | q
  · obtain ⟨s, hs, rfl⟩ := List.mem_map.mp q
    exact (h s hs).1
  · obtain ⟨s, hs, rfl⟩ := List.mem_map.mp q
    exact (h s hs).2
theorem led_end {A : List LS} {f : Len} (h : ∀ s ∈ A, s.1.1.1.Ok 4 ∧ s.2.1.1.Ok 4) {s : LS} (hs : s ∈ A) : (om s.1.1 = om s.1.1 ∧ s.1.1 ∈ endsN A ++ (endsN A).map fun n => laterN n f) ∧ s.2.1 ∈ endsN A ++ ((endsN A).map fun n => laterN n f) ∧ (∃ n ∈ endsN A ++ ((endsN A).map fun n => laterN n f), omL s.1.1 f = om n) ∧ (∃ n ∈ endsN A ++ ((endsN A).map fun n => laterN n f), omL s.2.1 f = om n) := by
  have m1 : s.1.1 ∈ endsN A := List.mem_append.mpr (.inl (List.mem_map.mpr ⟨s, hs, rfl⟩))
  have m2 : s.2.1 ∈ endsN A := List.mem_append.mpr (.inr (List.mem_map.mpr ⟨s, hs, rfl⟩))
  exact ⟨⟨rfl, List.mem_append.mpr (.inl m1)⟩, List.mem_append.mpr (.inl m2), ⟨_, List.mem_append.mpr (.inr (List.mem_map.mpr ⟨_, m1, rfl⟩)), (om_laterN (h s hs).1).symm⟩, ⟨_, List.mem_append.mpr (.inr (List.mem_map.mpr ⟨_, m2, rfl⟩)), (om_laterN (h s hs).2).symm⟩⟩
def body75 : List C := match f75.body with
  | .for_ _ _ b :: _ => b
  | _ => []
end Pv.K08

set_option Elab.async false
set_option linter.all false
set_option maxRecDepth 100000
set_option maxHeartbeats 4000000
namespace Pv.K08
open PySem PySem.Spec PyProof.Rows L2
def body37 : List C := match f37.body with
  | _ :: .for_ _ _ b :: _ => b
  | _ => []
theorem since_loop {B : List (Cu × Cu)} (hB : B.length ≤ 100) : ∀ (A acc : List (Cu × Cu)), acc.length + A.length < 90000 → ∀ (k : Nat) (S : Sto) (a s3 s4 : Slot), ∃ t3 t4 : Slot, forL (.nm 3) (bW prg (callF prg (k + 7)) body37) (A.map stD) [a, some (false, .tup (B.map stD)), some (true, .lst (acc.map stD)), s3, s4] S =
    some (.nx [a, some (false, .tup (B.map stD)), some (true, .lst ((acc ++ A.flatMap (sinceP B)).map stD)), t3, t4], S)
  | [], acc, _, k, S, a, s3, s4 => ⟨s3, s4, by simp⟩
  | h :: A, acc, hl, k, S, a, s3, s4 => by
    have hl' : acc.length + (A.length + 1) < 90000 := hl
    have lp := sinceP_len (B := B) (h := h)
    have bo : callF prg (k + 7) 35 [.tup [.tup [h.1.1.1.d, .bl true, h.2.1.1.d, .bl true]], .tup (B.map stD)] S = some (.tup ((bothL ltC [clo h] B).map stD), S) := s_both_of (k := k) (S := S) (hs := [clo h]) (ts := B) (by simp) hB
    have ne := net_nil (ds := (bothL ltC [clo h] B).map stD) (pd_ok (pd_sts _) (by omega))
    rw [List.isEmpty_map] at ne
    obtain ⟨t3, t4, e⟩ := since_loop hB A (acc ++ sinceP B h) (by rw [List.length_append]; omega) k S a (some (false, stD h)) (some (false, .tup ((bothL ltC [clo h] B).map stD)))
    refine ⟨t3, t4, ?_⟩
    have eB : exB prg (callF prg (k + 7)) body37 [a, some (false, .tup (B.map stD)), some (true, .lst (acc.map stD)), some (false, stD h), s4] S = some (.nx [a, some (false, .tup (B.map stD)), some (true, .lst ((acc ++ sinceP B h).map stD)), some (false, stD h), some (false, .tup ((bothL ltC [clo h] B).map stD))], S) := by
      cases eb : bothL ltC [clo h] B with
      | nil =>
        rw [eb] at bo ne
        have e0 : sinceP B h = [] := by unfold sinceP; rw [eb]
        rw [e0, List.append_nil]
        generalize acc.map stD = V at *
        generalize B.map stD = V2 at *
        simp at bo ne
        simp [body37, f37, runF, L2.ixN, List.replicate, st_deB, st_wk, st_0, st_2, bo, ne]
      | cons b l =>
        rw [eb] at bo ne
        have e0 : sinceP B h = mk1 ltC (mx ltC h.1 b.1) h.2 := by unfold sinceP; rw [eb]
        have gl := s_greater_low (k := k + 1) (S := S) (a := h.1) (b := b.1)
        have md := s_made (k := k + 2) (S := S) (a := mx ltC h.1 b.1) (b := h.2)
        have lm : (mk1 ltC (mx ltC h.1 b.1) h.2).length ≤ 1 := by unfold mk1; split <;> simp
        have i0 : idxD (.tup ((b :: l).map stD)) (.int 0) = some (stD b) := by simp
        have w0 : ∀ ds : List D, wk (.tup ds) = .tup ds := fun ds => rfl
        have d0 : ∀ ds : List D, deB S (.tup ds) = .tup ds := fun ds => rfl
        simp only [List.isEmpty_cons, Bool.not_false] at ne
        rw [e0]
        have la : (acc.map stD).length + ((mk1 ltC (mx ltC h.1 b.1) h.2).map stD).length < 100000 := by rw [List.length_map, List.length_map]; omega
        rw [List.map_append]
        generalize (mk1 ltC (mx ltC h.1 b.1) h.2).map stD = V3 at *
        generalize (b :: l).map stD = V4 at *
        generalize acc.map stD = V at *
        generalize B.map stD = V2 at *
        have ex := y_ext (P := prg) (cf := callF prg (k + 7)) (i := 2) (e := .call 27 [.call 24 [.slc (.var 3) none (some (.cst (.int 2))), .slc (.idx (.var 4) (.cst (.int 0))) none (some (.cst (.int 2)))], .slc (.var 3) (some (.cst (.int 2))) none]) (r := [a, some (false, .tup V2), some (true, .lst V), some (false, stD h), some (false, .tup V4)]) (S := S) (S1 := S) (ds := V) (xs := V3)
          (by simp [st_deB, st_wk, st_lo, st_hi, i0, w0, d0, gl, md, -idx_t]) rfl la
        simp [body37, f37, runF, L2.ixN, List.replicate, st_deB, st_wk, st_0, st_2, bo, ne, ex]
    have en : (h :: A).flatMap (sinceP B) = sinceP B h ++ A.flatMap (sinceP B) := List.flatMap_cons
    rw [List.map_cons, forL_c, en, ← List.append_assoc]
    generalize (bothL ltC [clo h] B).map stD = Z at *
    generalize (acc ++ sinceP B h) = V at *
    generalize A.flatMap (sinceP B) = W at *
    simp only [asg_nm, List.length_cons, List.length_nil, Nat.reduceAdd, Nat.reduceLT, if_true, Option.bind_some, List.set, kF1_s, bW_s, eB, kF2_n]
    exact e
theorem since_len {A B : List (Cu × Cu)} : (sinceL A B).length ≤ A.length + B.length := by
  unfold sinceL
  rw [List.length_append]
  have : ∀ A : List (Cu × Cu), (A.flatMap (sinceP B)).length ≤ A.length := fun A => by
    induction A with
    | nil => exact Nat.le_refl _
    | cons s A ih =>
      rw [List.flatMap_cons, List.length_append]
      have := sinceP_len (B := B) (h := s)
      show _ ≤ A.length + 1
      omega
  have := this A
  omega
theorem s_since {A B : List (Cu × Cu)} (hA : Can ltC A) (hB : Can ltC B) (la : A.length ≤ 100) (lb : B.length ≤ 100) : ∃ G : List (Cu × Cu), Can ltC G ∧ (∀ c, MemS ltC G c ↔ MemS ltC (sinceL A B) c) ∧ (∀ c, EndS G c → EndS (sinceL A B) c) ∧ G.length ≤ A.length + B.length ∧ ∀ (k : Nat) (S : Sto), callF prg (k + 10) 40 [.tup (A.map stD), .tup (B.map stD)] S = some (.tup (G.map stD), S) := by
  have sl := since_len (A := A) (B := B)
  obtain ⟨G, g1, g2, g3, g4, g5⟩ := s_joined_of (xs := sinceL A B) (since_lt hB) (by omega)
  refine ⟨G, g1, g2, g3, by omega, fun k S => ?_⟩
  have c1 := s_check_stretches (k := k + 1) (S := S) hA (by omega)
  have c2 := s_check_stretches (k := k + 1) (S := S) hB (by omega)
  have pr : (D.tup (G.map stD)).pure = true := sts_pure _
  have so : callF prg (k + 9) 37 [.tup (A.map stD), .tup (B.map stD)] S = some (.tup (G.map stD), S) := by
    obtain ⟨t3, t4, e⟩ := since_loop lb A B (by omega) (k + 1) S (some (false, .tup (A.map stD))) none none
    have j := g5 (k + 1) S
    have e' : forL (.nm 3) (bW prg (callF prg (k + 8)) body37) (A.map stD) [some (false, .tup (A.map stD)), some (false, .tup (B.map stD)), some (true, .lst (B.map stD)), none, none] S = some (.nx [some (false, .tup (A.map stD)), some (false, .tup (B.map stD)), some (true, .lst ((sinceL A B).map stD)), t3, t4], S) := e
    have hb : f37.body = [.own 2 (.bi .list [.var 1]), .for_ (.nm 3) (.var 0) body37, .frz [2] (.ret (.call 34 [.var 2]))] := rfl
    have hN : f37.N.length = 5 := rfl
    have hn : f37.np = 2 := rfl
    rw [cf_s (g := f37) rfl]
    have lb' : (B.map stD).length < 100000 := by rw [List.length_map]; omega
    generalize G.map stD = Z at *
    generalize (sinceL A B).map stD = Y at *
    generalize A.map stD = X at *
    generalize B.map stD = X2 at *
    generalize body37 = W at *
    simp only [runF, hb, hN, hn]
    simp [runF, L2.ixN, List.replicate, List.replicate, e', frzR, j, pr, lb']
  rw [cf_s (g := f40) rfl]
  generalize G.map stD = Z at *
  generalize A.map stD = X at *
  generalize B.map stD = Y at *
  simp [f40, runF, L2.ixN, List.replicate, c1, c2, so, pr]
theorem s_lasts {k : Nat} {S : Sto} {A : List LS} {f : Len} (hA : Can ltC (A.map lsC)) (h0 : 0 ≤ f.1.1) (hl : A.length < 1000) : callF prg (k + 9) 41 [.tup ((A.map lsC).map stD), lenD f] S = some (.bl ((A.map fun s => decide (cmpM (omL s.1.1 f).1 (om s.2.1).1 ≤ 0)).any id), S) := by
  have c1 := s_check_stretches (k := k) (S := S) hA (by rw [List.length_map]; exact hl)
  have c2 := s_check_length (k := k + 5) (S := S) h0
  have c3 : compL (cmpB prg (callF prg (k + 8)) [2] (.nm 2) [] (.cmp .LtE (.call 21 [.call 22 [.idx (.var 2) (.cst (.int 0)), .var 1], .idx (.var 2) (.cst (.int 2))]) (.cst (.int 0))) [some (false, .tup ((A.map lsC).map stD)), some (false, lenD f), none]) (A.map fun s => stD (lsC s)) S = some (A.map (fun s => D.bl (decide (cmpM (omL s.1.1 f).1 (om s.2.1).1 ≤ 0))), S) :=
    compL_G A fun s hs => by
      have sh : callF prg (k + 8) 22 [(lsC s).1.1.1.d, lenD f] S = some ((omL s.1.1 f).1.d, S) := s_shiftN (k := k + 4)
      have cp : callF prg (k + 8) 21 [(omL s.1.1 f).1.d, (lsC s).2.1.1.d] S = some (.int (cmpM (omL s.1.1 f).1 (om s.2.1).1), S) := s_compared_moments (k := k + 4) (omL s.1.1 f).2 (om s.2.1).2 (by decide)
      generalize cmpM (omL s.1.1 f).1 (om s.2.1).1 = u at *
      generalize lsC s = z at *
      simp [wipeR, st_deB, st_wk, st_0, st_2, sh, cp]
  rw [← lsC_D] at c3
  have bo := bools_G (p := fun s : LS => decide (cmpM (omL s.1.1 f).1 (om s.2.1).1 ≤ 0)) A
  have ln : ((A.map lsC).map stD).length < 100000 := by rw [List.length_map, List.length_map]; omega
  rw [cf_s (g := f41) rfl]
  generalize (A.map fun s => decide (cmpM (omL s.1.1 f).1 (om s.2.1).1 ≤ 0)) = Y at *
  generalize (A.map fun s => D.bl (decide (cmpM (omL s.1.1 f).1 (om s.2.1).1 ≤ 0))) = Z at *
  generalize (A.map lsC).map stD = X at *
  simp [f41, runF, L2.ixN, List.replicate, c1, c2, c3, bo, ln]
end Pv.K08

set_option Elab.async false
set_option linter.all false
set_option maxRecDepth 100000
set_option maxHeartbeats 4000000
namespace Pv.K08
open PySem PySem.Spec PyProof.Rows L2
theorem pd_ls (s : LS) : PdOk 2 21000 (lsD s) := by
  refine (pd_tup (k := 1) (w := 5000) (ds := [nsD s.1.1, .bl (!s.1.2), nsD s.2.1, .bl s.2.2]) fun d hd => ?_).mono (by omega) (by simp)
  simp only [List.mem_cons, List.not_mem_nil, or_false] at hd
  rcases hd with rfl | rfl | rfl | rfl
  · exact pd_ns _
  · exact pd_bl.mono (by omega) (by omega)
  · exact pd_ns _
  · exact pd_bl.mono (by omega) (by omega)
theorem ok_lss (L : List LS) : okPy (.lst (L.map lsD)) = true := pd_ok (pd_lst (k := 2) (w := 21000) fun d hd => by
  obtain ⟨n, _, rfl⟩ := List.mem_map.mp hd
  exact pd_ls n) (by omega)
theorem compL_F {α : Type} {f : D → Sto → Option (Option D × Sto)} {V W : α → D} {p : α → Bool} {S : Sto} : ∀ xs : List α, (∀ x ∈ xs, f (V x) S = some (if p x then some (W x) else none, S)) → compL f (xs.map V) S = some ((xs.filter p).map W, S)
  | [], _ => rfl
  | x :: xs, h => by
    have e := h x List.mem_cons_self
    have ih := compL_F xs fun y hy => h y (List.mem_cons_of_mem _ hy)
    rw [List.map_cons, List.filter_cons]
    unfold compL
    rw [e, Option.bind_some, ih]
    cases p x <;> rfl
theorem on_rule {k : Nat} {A B : List LS} (hA : Can ltC (A.map lsC)) (hB : Can ltC (B.map lsC)) (la : A.length < 1000) (lb : B.length < 1000) : RuleOk k 71 (.tup [.lst (A.map lsD), .lst (B.map lsD)]) fun x => decide (MemS ltC (sinceL (A.map lsC) (B.map lsC)) (x, false)) := fun n x S hn hx => by
  have hs := l_has (k := k) (S := S) (L := B) hn hx lb
  show callF prg (k + 7) 71 [.tup [.lst (A.map lsD), .lst (B.map lsD)], n.n] S = some (.bl (decide (MemS ltC (sinceL (A.map lsC) (B.map lsC)) (x, false))), S)
  by_cases mB : MemS ltC (B.map lsC) (x, false)
  · rw [decide_eq_true ((since_mem hA hB).mpr (.inl mB))]
    rw [decide_eq_true mB] at hs
    generalize A.map lsD = X at *
    generalize B.map lsD = Y at *
    rw [cf_s (g := f71) rfl]
    simp [f71, runF, L2.ixN, List.replicate, hs]
  · rw [decide_eq_false mB] at hs
    have c1 : compL (cmpB prg (callF prg (k + 6)) [5] (.nm 5) [.call 59 [.var 5, .var 1]] (.var 5) [some (false, .tup [.lst (A.map lsD), .lst (B.map lsD)]), some (false, n.n), none, some (false, .lst (A.map lsD)), some (false, .lst (B.map lsD)), none]) (A.map lsD) S = some ((A.filter fun s => decide (¬ ltC (x, false) (lsC s).1) && decide (ltC (x, false) (lsC s).2)).map lsD, S) :=
      compL_F A fun s hs => by
        have i := l_is_in (k := k + 1) (S := S) (s := s) hn hx
        generalize (decide (¬ ltC (x, false) (lsC s).1) && decide (ltC (x, false) (lsC s).2)) = b at *
        cases b <;> simp [wipeR, i]
    have ne := ne_nil (ok_lss (A.filter fun s => decide (¬ ltC (x, false) (lsC s).1) && decide (ltC (x, false) (lsC s).2)))
    have ins : ∀ s ∈ A, (decide (¬ ltC (x, false) (lsC s).1) && decide (ltC (x, false) (lsC s).2)) = true ↔ InS ltC (lsC s) (x, false) := fun s _ => by
      rw [Bool.and_eq_true, decide_eq_true_iff, decide_eq_true_iff]
      rfl
    have lA : (A.map lsD).length < 100000 := by rw [List.length_map]; omega
    have lB : (B.map lsD).length < 100000 := by rw [List.length_map]; omega
    cases eH : A.filter fun s => decide (¬ ltC (x, false) (lsC s).1) && decide (ltC (x, false) (lsC s).2) with
    | nil =>
      have nm : ¬ MemS ltC (sinceL (A.map lsC) (B.map lsC)) (x, false) := fun m => by
        rcases (since_mem hA hB).mp m with q | ⟨h, hh, i, _⟩
        · exact mB q
        · obtain ⟨s, sA, rfl⟩ := List.mem_map.mp hh
          have := List.mem_filter (p := fun s : LS => decide (¬ ltC (x, false) (lsC s).1) && decide (ltC (x, false) (lsC s).2)).mpr ⟨sA, (ins s sA).mpr i⟩
          rw [eH] at this
          cases this
      rw [decide_eq_false nm]
      rw [eH] at c1 ne
      simp only [List.map_nil, List.isEmpty_nil, Bool.not_true] at c1 ne
      generalize A.map lsD = X at *
      generalize B.map lsD = Y at *
      rw [cf_s (g := f71) rfl]
      simp [f71, runF, L2.ixN, List.replicate, hs, c1, ne, lA]
    | cons h t =>
      have hf : h ∈ A.filter fun s => decide (¬ ltC (x, false) (lsC s).1) && decide (ltC (x, false) (lsC s).2) := by rw [eH]; exact List.mem_cons_self
      obtain ⟨hAm, hin⟩ := List.mem_filter.mp hf
      have hi := (ins h hAm).mp hin
      rw [eH] at c1 ne
      simp only [List.map_cons, List.isEmpty_cons, Bool.not_false] at c1 ne
      have one : ∀ s : LS, (decide (cmpM s.1.1.1.mo n.mo < 0 ∨ (cmpM s.1.1.1.mo n.mo = 0 ∧ s.1.2 = false)) && decide (cmpM h.1.1.1.mo s.2.1.1.mo < 0 ∨ (cmpM h.1.1.1.mo s.2.1.1.mo = 0 ∧ s.2.2 = true))) = (decide (¬ ltC (x, false) (lsC s).1) && decide (ltC (clo (lsC h)).1 (lsC s).2)) := fun s => by
        obtain ⟨⟨lo, a⟩, ⟨hi, b⟩⟩ := s
        show (decide (cmpM lo.1.mo n.mo < 0 ∨ (cmpM lo.1.mo n.mo = 0 ∧ a = false)) && decide (cmpM h.1.1.1.mo hi.1.mo < 0 ∨ (cmpM h.1.1.1.mo hi.1.mo = 0 ∧ b = true))) = (decide (¬ ltC (x, false) (om lo, a)) && decide (ltC (om h.1.1, false) (om hi, b)))
        rw [hx]
        have e2 := hi_iff' (x := om h.1.1) (y := om hi) (b := b)
        have e3 := lo_iff' (x := x) (y := om lo) (a := a)
        have e2' : (cmpM h.1.1.1.mo hi.1.mo < 0 ∨ (cmpM h.1.1.1.mo hi.1.mo = 0 ∧ b = true)) ↔ ltC (om h.1.1, false) (om hi, b) := e2.symm
        have e3' : (cmpM lo.1.mo x.1 < 0 ∨ (cmpM lo.1.mo x.1 = 0 ∧ a = false)) ↔ ¬ ltC (x, false) (om lo, a) := e3.symm
        simp only [e2', e3']
      have c2 : compL (cmpB prg (callF prg (k + 6)) [5] (.nm 5) [] (.call 70 [.var 5, .idx (.idx (.var 2) (.cst (.int 0))) (.cst (.int 0)), .var 1]) [some (false, .tup [.lst (A.map lsD), .lst (B.map lsD)]), some (false, n.n), some (false, .lst (lsD h :: t.map lsD)), some (false, .lst (A.map lsD)), some (false, .lst (B.map lsD)), none]) (B.map lsD) S = some (B.map fun s => D.bl (decide (¬ ltC (x, false) (lsC s).1) && decide (ltC (clo (lsC h)).1 (lsC s).2)), S) :=
        compL_G B fun s _ => by
          have i1 : callF prg (k + 6) 70 [lsD s, nsD h.1.1, n.n] S = _ := l_meets (k := k + 1) (S := S) (s := s) (e := h.1.1.1) (ns300 h.1.1) hn
          rw [one s] at i1
          simp [wipeR, ls_0, ls_deB, ls_wk, i1]
      have bo := bools_G (p := fun s : LS => decide (¬ ltC (x, false) (lsC s).1) && decide (ltC (clo (lsC h)).1 (lsC s).2)) B
      have an : (B.map fun s : LS => decide (¬ ltC (x, false) (lsC s).1) && decide (ltC (clo (lsC h)).1 (lsC s).2)).any id = decide (MemS ltC (sinceL (A.map lsC) (B.map lsC)) (x, false)) := by
        rw [Bool.eq_iff_iff, decide_eq_true_iff, since_mem hA hB]
        constructor
        · intro w
          obtain ⟨b, hb, w⟩ := List.any_eq_true.mp w
          obtain ⟨s, sB, rfl⟩ := List.mem_map.mp hb
          have w' := (Bool.and_eq_true _ _).mp w
          exact .inr ⟨lsC h, List.mem_map.mpr ⟨h, hAm, rfl⟩, hi, lsC s, List.mem_map.mpr ⟨s, sB, rfl⟩, of_decide_eq_true w'.1, of_decide_eq_true w'.2⟩
        · rintro (q | ⟨h', hh', i', s', hs', j1, j2⟩)
          · exact absurd q mB
          · have eh : h' = lsC h := can_one hA hh' (List.mem_map.mpr ⟨h, hAm, rfl⟩) i' hi
            subst eh
            obtain ⟨s, sB, rfl⟩ := List.mem_map.mp hs'
            exact List.any_eq_true.mpr ⟨_, List.mem_map.mpr ⟨s, sB, rfl⟩, (Bool.and_eq_true _ _).mpr ⟨decide_eq_true j1, decide_eq_true j2⟩⟩
      generalize (B.map fun s : LS => decide (¬ ltC (x, false) (lsC s).1) && decide (ltC (clo (lsC h)).1 (lsC s).2)) = Y1 at *
      generalize (B.map fun s : LS => D.bl (decide (¬ ltC (x, false) (lsC s).1) && decide (ltC (clo (lsC h)).1 (lsC s).2))) = Y2 at *
      generalize A.map lsD = X at *
      generalize B.map lsD = Y at *
      generalize t.map lsD = Z at *
      rw [cf_s (g := f71) rfl]
      simp [f71, runF, L2.ixN, List.replicate, hs, c1, c2, ne, lA, lB, bo, an]
theorem l_own_since {k : Nat} {S : Sto} {A B : List LS} (hA : Can ltC (A.map lsC)) (hB : Can ltC (B.map lsC)) (la : A.length ≤ 20) (lb : B.length ≤ 20) {G : List (Cu × Cu)} (g1 : Can ltC G) (g2 : ∀ c, MemS ltC G c ↔ MemS ltC (sinceL (A.map lsC) (B.map lsC)) c) (g3 : ∀ c, EndS G c → EndS (sinceL (A.map lsC) (B.map lsC)) c) : ∃ R : List LS, R.length ≤ 200 ∧ R.map lsC = G ∧ callF prg (k + 10) 72 [.lst (A.map lsD), .lst (B.map lsD)] S = some (.lst (R.map lsD), S) := by
  have lA := endsN_len A
  have lB := endsN_len B
  have lx : (endsN A ++ endsN B).length ≤ 100 := by rw [List.length_append]; omega
  obtain ⟨R, r1, r2, r3⟩ := l_by_numbers (k := k) (S := S) (on_rule (k := k) hA hB (by omega) (by omega)) (xs := endsN A ++ endsN B) (by omega) g1 (fun x => by rw [g2]; simp) (fun c hc => by
    obtain ⟨e, he, ec⟩ := since_end (g3 c hc)
    rcases he with q | q
    · obtain ⟨n, hn, en⟩ := ends_in q
      exact ⟨n, List.mem_append.mpr (.inl hn), ec.trans en⟩
    · obtain ⟨n, hn, en⟩ := ends_in q
      exact ⟨n, List.mem_append.mpr (.inr hn), ec.trans en⟩)
  refine ⟨R, by omega, r2, ?_⟩
  have n1 := l_ends (k := k + 8) (S := S) (L := A) (by omega)
  have n2 := l_ends (k := k + 8) (S := S) (L := B) (by omega)
  have ad : binD .Add (.lst ((endsN A).map nsD)) (.lst ((endsN B).map nsD)) = some (.lst ((endsN A ++ endsN B).map nsD)) := by
    rw [b_addl (by rw [List.length_map, List.length_map]; omega), ← List.map_append]
  have pr : (D.lst (R.map lsD)).pure = true := lss_pure _
  rw [cf_s (g := f72) rfl]
  generalize (endsN A ++ endsN B).map nsD = X1 at *
  generalize (endsN A).map nsD = X2 at *
  generalize (endsN B).map nsD = X3 at *
  generalize R.map lsD = X4 at *
  generalize A.map lsD = X5 at *
  generalize B.map lsD = X6 at *
  simp [f72, runF, L2.ixN, List.replicate, n1, n2, ad, r3, pr]
end Pv.K08

set_option Elab.async false
set_option linter.all false
set_option maxRecDepth 100000
set_option maxHeartbeats 4000000
namespace Pv.K08
open PySem PySem.Spec PyProof.Rows L2
section
variable {P : Prg} {cf : Nat → List D → Sto → Option (D × Sto)} {r : Rho} {S S1 S2 : Sto}
theorem y_apop {i j t : Nat} {e : E} {d : D} {v : Int} {ds ys : List D} (h : evE P cf e r S = some (.int v, S1)) (hi : r[i]? = some (some (true, .lst ds))) (hj : r[j]? = some (some (true, .lst ys))) (ht : L2.ixN ys.length v = some t) (hd : ys[t]? = some d) (hk : i ≠ j ∧ ds.length < 100000 ∧ ys.length < 100000) :
    exS P cf (.apop i j e) r S = some (.nx ((r.set j (some (true, .lst (ys.eraseIdx t)))).set i (some (true, .lst (ds ++ [d])))), S1) := by
  rw [exS, h]
  simp only [Option.bind_some, hi, hj, ht, hd]
  exact if_pos hk
end
theorem rng_of {v : Int} (h0 : 0 ≤ v) (h1 : v ≤ 1000) : rngD [.int v] = some (rangeL 0 v.toNat) := if_pos (by
  unfold rangeOk
  simp only [Bool.and_eq_true, decide_eq_true_eq]
  refine ⟨⟨⟨⟨?_, ?_⟩, ?_⟩, ?_⟩, ?_⟩ <;> first | decide | omega)
theorem erase_map : ∀ (zs : List NS) (i : Nat), (zs.map nsD).eraseIdx i = (zs.eraseIdx i).map nsD
  | [], _ => rfl
  | z :: zs, 0 => rfl
  | z :: zs, i + 1 => by
    show nsD z :: (zs.map nsD).eraseIdx i = nsD z :: (zs.eraseIdx i).map nsD
    rw [erase_map zs i]
def body45 : List C := match f45.body with
  | _ :: .for_ _ _ b :: _ => b
  | _ => []
theorem some_loop {k n : Nat} {a m : Slot} : ∀ (ds : List D) (ys zs : List NS) (S : Sto) (c : Nat) (s3 : Slot), PotOk S n c → c + ds.length ≤ 90000 → zs.length < 1000 → ds.length ≤ zs.length → ys.length + ds.length < 1000 → ∃ (ys' zs' : List NS) (t3 : Slot) (S' : Sto),
    forL (.nm 3) (bW prg (callF prg (k + 1)) body45) ds [some (false, .ref n), a, m, s3, some (true, .lst (zs.map nsD)), some (true, .lst (ys.map nsD))] S = some (.nx [some (false, .ref n), a, m, t3, some (true, .lst (zs'.map nsD)), some (true, .lst (ys'.map nsD))], S') ∧ (∀ y ∈ ys', y ∈ ys ∨ y ∈ zs) ∧ ys'.length = ys.length + ds.length ∧ PotOk S' n (c + ds.length) ∧ S'.length = S.length
  | [], ys, zs, S, c, s3, hp, _, _, _, _ => ⟨ys, zs, s3, S, rfl, fun y h => .inl h, rfl, hp, rfl⟩
  | d :: ds, ys, zs, S, c, s3, hp, hc, hz, hd, hy => by
    have hc' : c + (ds.length + 1) ≤ 90000 := hc
    have hd' : ds.length + 1 ≤ zs.length := hd
    have hy' : ys.length + (ds.length + 1) < 1000 := hy
    obtain ⟨v, S1, e1, v0, v1, p1, l1⟩ := l_take (k := k) (u := (zs.length : Int)) (by omega) (bd_of 1000 (by omega)) hp (by omega)
    have vt : v.toNat < zs.length := by omega
    have ix : L2.ixN (zs.map nsD).length v = some v.toNat := by
      have h0 : 0 ≤ v := v0
      have h1 : v < ((zs.map nsD).length : Int) := by rw [List.length_map]; exact v1
      unfold L2.ixN
      simp [h0]
      omega
    have gd : (zs.map nsD)[v.toNat]? = some (nsD zs[v.toNat]) := by simp [vt]
    obtain ⟨ys', zs', t3, S2, e2, m2, n2, p2, l2⟩ := some_loop (k := k) (a := a) (m := m) ds (ys ++ [zs[v.toNat]]) (zs.eraseIdx v.toNat) S1 (c + 1) (some (false, d)) p1 (by omega) (by rw [List.length_eraseIdx_of_lt vt]; omega) (by rw [List.length_eraseIdx_of_lt vt]; omega) (by rw [List.length_append]; show ys.length + 1 + ds.length < 1000; omega)
    refine ⟨ys', zs', t3, S2, ?_, fun y h => ?_, by rw [n2, List.length_append]; show ys.length + 1 + ds.length = ys.length + (ds.length + 1); omega, p2.mono (by show c + 1 + ds.length ≤ c + (ds.length + 1); omega), by omega⟩
    · have lz : ((zs.map nsD).length : Int) = (zs.length : Int) := by rw [List.length_map]
      have lzz : (zs.map nsD).length < 100000 := by rw [List.length_map]; omega
      have lyy : (ys.map nsD).length < 100000 := by rw [List.length_map]; omega
      have em : (zs.map nsD).eraseIdx v.toNat = (zs.eraseIdx v.toNat).map nsD := by exact erase_map _ _
      have ey : ys.map nsD ++ [nsD zs[v.toNat]] = (ys ++ [zs[v.toNat]]).map nsD := by simp
      have bl : biD .len [.lst (zs.map nsD)] = some (.int (zs.length : Int)) := by rw [← lz]; rfl
      have ap := y_apop (P := prg) (cf := callF prg (k + 1)) (i := 5) (j := 4) (e := .call 43 [.var 0, .bi .len [.bor 4]]) (r := [some (false, .ref n), a, m, some (false, d), some (true, .lst (zs.map nsD)), some (true, .lst (ys.map nsD))]) (S := S) (S1 := S1) (v := v) (ds := ys.map nsD) (ys := zs.map nsD) (t := v.toNat) (d := nsD zs[v.toNat]) (by simp [e1]) rfl rfl ix gd ⟨by decide, lyy, lzz⟩
      rw [em, ey] at ap
      rw [forL_c]
      generalize (ys ++ [zs[v.toNat]]).map nsD = V1 at *
      generalize (zs.eraseIdx v.toNat).map nsD = V2 at *
      generalize ys.map nsD = V3 at *
      generalize zs.map nsD = V4 at *
      have eB : exB prg (callF prg (k + 1)) body45 [some (false, .ref n), a, m, some (false, d), some (true, .lst V4), some (true, .lst V3)] S = some (.nx [some (false, .ref n), a, m, some (false, d), some (true, .lst V2), some (true, .lst V1)], S1) := by
        simp [body45, f45, ap]
      simp [eB, e2]
    · rcases m2 y h with q | q
      · rcases List.mem_append.mp q with q | q
        · exact .inl q
        · rw [List.mem_singleton.mp q]
          exact .inr (List.getElem_mem vt)
      · exact .inr (List.mem_of_mem_eraseIdx q)
theorem l_some {k n c m : Nat} {S : Sto} {xs : List NS} {z : Int} (hz : z = (m : Int)) (hp : PotOk S n c) (hc : c + m ≤ 90000) (hm : m ≤ xs.length) (hl : xs.length < 900) : ∃ (ys : List NS) (S' : Sto), callF prg (k + 2) 45 [.ref n, .lst (xs.map nsD), .int z] S = some (.lst (ys.map nsD), S') ∧ (∀ y ∈ ys, y ∈ xs) ∧ ys.length = m ∧ PotOk S' n (c + m) ∧ S'.length = S.length := by
  have lr : (rangeL 0 m).length = m := by unfold rangeL; simp
  obtain ⟨ys, zs, t3, S1, e1, m1, n1, p1, l1⟩ := some_loop (k := k) (a := some (false, .lst (xs.map nsD))) (m := some (false, .int z)) (rangeL 0 m) [] xs S c none hp (by rw [lr]; omega) (by omega) (by rw [lr]; omega) (by rw [lr]; simp; omega)
  rw [lr] at n1 p1
  simp only [List.map_nil] at e1
  refine ⟨ys, S1, ?_, fun y h => (m1 y h).elim (fun q => absurd q List.not_mem_nil) id, by simpa using n1, p1, l1⟩
  have rg : rngD [.int z] = some (rangeL 0 m) := by
    have := rng_of (v := z) (by omega) (by omega)
    rwa [hz, Int.toNat_natCast, ← hz] at this
  have hb : f45.body = [.par2 4 true (.bi .list [.var 1]) 5 true (.lst []), .for_ (.nm 3) (.rng [.var 2]) body45, .frz [5] (.ret (.var 5))] := rfl
  have hN : f45.N.length = 6 := rfl
  have hn : f45.np = 3 := rfl
  have pr : (D.lst (ys.map nsD)).pure = true := nss_pure _
  have lx : (xs.map nsD).length < 100000 := by rw [List.length_map]; omega
  have p2 := y_par2 (P := prg) (cf := callF prg (k + 1)) (i := 4) (j := 5) (a := true) (b := true) (e := .bi .list [.var 1]) (f := .lst []) (r := [some (false, .ref n), some (false, .lst (xs.map nsD)), some (false, .int z), none, none, none]) (S := S) (S1 := S) (S2 := S) (d1 := .lst (xs.map nsD)) (d2 := .lst [])
    (by
      generalize xs.map nsD = X at *
      simp [lx]) (by simp) rfl
  rw [cf_s (g := f45) rfl]
  generalize ys.map nsD = Z at *
  generalize zs.map nsD = Z2 at *
  generalize xs.map nsD = X at *
  generalize body45 = W at *
  simp only [runF, hb, hN, hn]
  simp [runF, L2.ixN, List.replicate, List.replicate, p2, rg, e1, frzR, pr, tkl l1]
def oneL : Len := ⟨(1, 1), ⟨by decide, by decide, by unfold Bd; decide, by unfold Bd; decide⟩⟩
def body74 : List C := match f74.body with
  | _ :: .for_ _ _ b :: _ => b
  | _ => []
theorem touch_loop {k n : Nat} {a : Slot} : ∀ (ys : List NS) (acc : List LS) (S : Sto) (c : Nat) (s3 s4 s5 : Slot), (∀ y ∈ ys, y.1.Ok 4) → PotOk S n c → c + ys.length ≤ 90000 → acc.length + ys.length < 1000 → ∃ (acc' : List LS) (t3 t4 t5 : Slot) (S' : Sto),
    forL (.nm 3) (bW prg (callF prg (k + 1)) body74) (ys.map nsD) [some (false, .ref n), a, some (true, .lst (acc.map lsD)), s3, s4, s5] S = some (.nx [some (false, .ref n), a, some (true, .lst (acc'.map lsD)), t3, t4, t5], S') ∧ acc'.length = acc.length + ys.length ∧ PotOk S' n (c + ys.length) ∧ S'.length = S.length
  | [], acc, S, c, s3, s4, s5, _, hp, _, _ => ⟨acc, s3, s4, s5, S, rfl, rfl, hp, rfl⟩
  | y :: ys, acc, S, c, s3, s4, s5, hy, hp, hc, hl => by
    have hc' : c + (ys.length + 1) ≤ 90000 := hc
    have hl' : acc.length + (ys.length + 1) < 1000 := hl
    obtain ⟨v, S1, e1, v0, v1, p1, l1⟩ := l_take (k := k) (u := 3) (by decide) (bd_of 3 (by decide)) hp (by omega)
    have la : callF prg (k + 1) 55 [nsD y, .tup [.int 1, .int 1]] S1 = some (nsD (laterN y oneL), S1) := by
      show _ = some ((laterN y oneL).1.n, S1)
      rw [laterN_eq (hy y List.mem_cons_self)]
      exact l_laterN (k := k) (f := oneL) y.2
    have step : ∃ t : LS, exB prg (callF prg (k + 1)) body74 [some (false, .ref n), a, some (true, .lst (acc.map lsD)), some (false, nsD y), s4, s5] S = some (.nx [some (false, .ref n), a, some (true, .lst ((acc ++ [t]).map lsD)), some (false, nsD y), some (false, .int v), some (false, nsD (laterN y oneL))], S1) := by
      have lc : (acc.map lsD).length < 100000 := by rw [List.length_map]; omega
      by_cases h0 : v = 0
      · refine ⟨((y, false), (y, true)), ?_⟩
        have pp : D.tup [nsD y, .bl true, nsD y, .bl true] = lsD ((y, false), (y, true)) := rfl
        rw [List.map_append, List.map_cons, List.map_nil, ← pp]
        subst h0
        generalize acc.map lsD = Z at *
        simp [body74, f74, runF, L2.ixN, List.replicate, e1, la, lc]
      · refine ⟨((y, !decide (v = 1)), (laterN y oneL, true)), ?_⟩
        have pp : D.tup [nsD y, .bl (decide (v = 1)), nsD (laterN y oneL), .bl true] = lsD ((y, !decide (v = 1)), (laterN y oneL, true)) := by
          show _ = D.tup [nsD y, .bl (!(!decide (v = 1))), nsD (laterN y oneL), .bl true]
          rw [Bool.not_not]
        rw [List.map_append, List.map_cons, List.map_nil, ← pp]
        generalize acc.map lsD = Z at *
        simp [body74, f74, runF, L2.ixN, List.replicate, e1, la, lc, h0]
    obtain ⟨t, eB⟩ := step
    obtain ⟨acc', t3, t4, t5, S2, e2, n2, p2, l2⟩ := touch_loop (k := k) (a := a) ys (acc ++ [t]) S1 (c + 1) (some (false, nsD y)) (some (false, .int v)) (some (false, nsD (laterN y oneL))) (fun z hz => hy z (List.mem_cons_of_mem _ hz)) p1 (by omega) (by rw [List.length_append]; show acc.length + 1 + ys.length < 1000; omega)
    refine ⟨acc', t3, t4, t5, S2, ?_, by rw [n2, List.length_append]; show acc.length + 1 + ys.length = acc.length + (ys.length + 1); omega, p2.mono (by show c + 1 + ys.length ≤ c + (ys.length + 1); omega), by omega⟩
    rw [List.map_cons, forL_c]
    generalize (acc ++ [t]).map lsD = V at *
    generalize acc.map lsD = V2 at *
    simp [eB, e2]
theorem l_touching {k n c : Nat} {S : Sto} {A : List LS} (hp : PotOk S n c) (hc : c ≤ 80000) (ho : ∀ s ∈ A, s.1.1.1.Ok 4 ∧ s.2.1.1.Ok 4) (hl : A.length ≤ 8) : ∃ (B : List LS) (S' : Sto), callF prg (k + 10) 74 [.ref n, .lst (A.map lsD)] S = some (.lst (B.map lsD), S') ∧ Can ltC (B.map lsC) ∧ B.length ≤ 8 ∧ PotOk S' n (c + 6) ∧ S'.length = S.length := by
  have le := endsN_len A
  obtain ⟨m, hm⟩ : ∃ m : Nat, m = min 3 (2 * A.length) := ⟨_, rfl⟩
  obtain ⟨z, hz⟩ : ∃ z : Int, z = (A.length : Int) := ⟨_, rfl⟩
  obtain ⟨w, hw⟩ : ∃ w : Int, w = (m : Int) := ⟨_, rfl⟩
  have mn : biD .min2 [.int 3, .int (2 * z)] = some (.int w) := by
    rw [bi_min]
    congr 2
    rw [hw, hm, hz]
    split <;> omega
  obtain ⟨ys, S1, e1, m1, n1, p1, l1⟩ := l_some (k := k + 7) (m := m) (xs := endsN A) hw hp (by omega) (by omega) (by omega)
  obtain ⟨acc, t3, t4, t5, S2, e2, n2, p2, l2⟩ := touch_loop (k := k + 8) (a := some (false, .lst (A.map lsD))) ys [] S1 (c + m) none none none (fun y hy => ends_ok ho y (m1 y hy)) p1 (by omega) (by simp; omega)
  obtain ⟨R, r1, r2, _, r3⟩ := l_joined (k := k) (S := S2) (L := acc) (by rw [n2]; simp; omega)
  simp at n2
  have hS : S2.length = S.length := by omega
  refine ⟨R, S2, ?_, r2, by omega, p2.mono (by omega), hS⟩
  have en := l_ends (k := k + 8) (S := S) (L := A) (by omega)
  have bl : biD .len [.lst (A.map lsD)] = some (.int z) := by
    have : ((A.map lsD).length : Int) = z := by rw [List.length_map, hz]
    rw [bi_len_l, this]
  have mu : binD .Mult (.int 2) (.int z) = some (.int (2 * z)) := b_mul (szMul_ok (k := 60) (l := 60) (bd_of 2 (by decide)) (bd_of 8 (by omega)))
  have hb : f74.body = [.own 2 (.lst []), .for_ (.nm 3) (.call 45 [.var 0, .call 63 [.var 1], .bi .min2 [.cst (.int 3), .bin .Mult (.cst (.int 2)) (.bi .len [.var 1])]]) body74, .frz [2] (.ret (.call 64 [.var 2]))] := rfl
  have hN : f74.N.length = 6 := rfl
  have hn : f74.np = 2 := rfl
  have pr : (D.lst (R.map lsD)).pure = true := lss_pure _
  simp only [List.map_nil] at e2
  rw [cf_s (g := f74) rfl]
  generalize R.map lsD = Z at *
  generalize acc.map lsD = Y at *
  generalize ys.map nsD = Y2 at *
  generalize (endsN A).map nsD = Y3 at *
  generalize A.map lsD = X at *
  generalize body74 = W at *
  simp only [runF, hb, hN, hn]
  simp [runF, L2.ixN, List.replicate, List.replicate, en, bl, mu, mn, e1, e2, frzR, r3, pr, tkl hS, -bi_min, -bi_len_l]
end Pv.K08

set_option Elab.async false
set_option linter.all false
set_option maxRecDepth 100000
set_option maxHeartbeats 4000000
namespace Pv.K08
open PySem PySem.Spec PyProof.Rows L2
def rest75 : List C := match f75.body with
  | .for_ _ _ (_ :: _ :: b) :: _ => b
  | _ => []
theorem l_rest {k n c : Nat} {S : Sto} {A B : List LS} (a1 : Can ltC (A.map lsC)) (b1 : Can ltC (B.map lsC)) (la : A.length ≤ 8) (lb : B.length ≤ 8) (hp : PotOk S n c) (hc : c ≤ 50000) (s1 s4 s5 s6 s7 s8 : Slot) : ∃ (t4 t5 t6 t7 t8 : Slot) (S' : Sto),
    exB prg (callF prg (k + 12)) rest75 [some (false, .ref n), s1, some (false, .lst (A.map lsD)), some (false, .lst (B.map lsD)), s4, s5, s6, s7, s8, none, none, none, none] S = some (.nx [some (false, .ref n), s1, some (false, .lst (A.map lsD)), some (false, .lst (B.map lsD)), t4, t5, t6, t7, t8, none, none, none, none], S') ∧ PotOk S' n (c + 1) ∧ S'.length = S.length := by
  have t1 := l_told (k := k + 8) (S := S) (L := A) (by omega)
  have t2 := l_told (k := k + 8) (S := S) (L := B) (by omega)
  have lAc : (A.map lsC).length ≤ 100 := by rw [List.length_map]; omega
  have lBc : (B.map lsC).length ≤ 100 := by rw [List.length_map]; omega
  obtain ⟨G, g1, g2, g3, g4, g5⟩ := s_since a1 b1 lAc lBc
  rw [List.length_map, List.length_map] at g4
  have sc := g5 (k + 2) S
  obtain ⟨R, r1, r2, r3⟩ := l_own_since (k := k + 2) (S := S) a1 b1 (by omega) (by omega) g1 g2 g3
  have q1 := l_is_same (k := k + 7) (S := S) r1
  rw [r2] at q1
  have emp : Can ltC ([] : List (Cu × Cu)) := ⟨fun s h => absurd h List.not_mem_nil, List.Pairwise.nil⟩
  have k1 := s_less' (k := k + 3) (S := S) b1 g1 lBc (by omega)
  rw [can_uniq linC _ [] (less_can linC b1 g1) emp fun c _ => by
    rw [less_mem linC g1, g2, since_mem a1 b1]
    exact ⟨fun h => absurd (.inl h.1) h.2, fun h => absurd h memS_nil⟩] at k1
  obtain ⟨H, h1, h2, h3, h4⟩ := s_joined_of (xs := A.map lsC ++ B.map lsC) (fun s hs => by
    rcases List.mem_append.mp hs with h | h
    · exact a1.1 s h
    · exact b1.1 s h) (by rw [List.length_append]; omega)
  obtain ⟨hl4, h5⟩ := h4
  rw [List.length_append, List.length_map, List.length_map] at hl4
  have jo : callF prg (k + 12) 38 [.tup ((A.map lsC).map stD), .tup ((B.map lsC).map stD)] S = some (.tup (H.map stD), S) := by
    have jo := h5 (k + 4) S
    rw [List.map_append] at jo
    have pr : (D.tup (H.map stD)).pure = true := sts_pure _
    have c1 := s_check_stretches (k := k + 3) (S := S) a1 (by omega)
    have c2 := s_check_stretches (k := k + 3) (S := S) b1 (by omega)
    have lab : ((A.map lsC).map stD).length + ((B.map lsC).map stD).length ≤ 100000 := by simp only [List.length_map]; omega
    rw [cf_s (g := f38) rfl]
    generalize H.map stD = Z at *
    generalize (A.map lsC).map stD = X at *
    generalize (B.map lsC).map stD = Y at *
    simp [f38, runF, L2.ixN, List.replicate, c1, c2, jo, pr, lab]
  have k2 := s_less' (k := k + 3) (S := S) g1 h1 (by omega) (by omega)
  rw [can_uniq linC _ [] (less_can linC g1 h1) emp fun c _ => by
    rw [less_mem linC h1, g2, h2, memS_app]
    exact ⟨fun h => absurd (since_sub a1 b1 h.1) h.2, fun h => absurd h memS_nil⟩] at k2
  simp only [List.map_nil] at k1 k2
  have nn : cmpD .NotEq (.tup []) (.tup []) = some false := rfl
  obtain ⟨f, S1, e1, f0, p1, l1⟩ := l_drawn_length (k := k + 9) hp (by omega)
  have ls := s_lasts (k := k + 3) (S := S1) a1 f0 (by omega)
  have cd : ∀ (a4 a6 a7 a8 : Slot), compL (cmpB prg (callF prg (k + 12)) [9, 10, 11, 12] (.tp [.nm 9, .nm 10, .nm 11, .nm 12]) [] (.cmp .LtE (.call 54 [.call 55 [.var 9, .var 5], .var 11]) (.cst (.int 0))) [some (false, .ref n), s1, some (false, .lst (A.map lsD)), some (false, .lst (B.map lsD)), a4, some (false, lenD f), a6, a7, a8, none, none, none, none]) (A.map lsD) S1 = some (A.map (fun s => D.bl (decide (cmpM (omL s.1.1 f).1 (om s.2.1).1 ≤ 0))), S1) := fun a4 a6 a7 a8 =>
    compL_G A fun s hs => by
      have e1 : callF prg (k + 12) 55 [nsD s.1.1, lenD f] S1 = some ((s.1.1.1.later f.1.1 f.1.2).n, S1) := l_laterN (k := k + 11) s.1.1.2
      have e2 : callF prg (k + 12) 54 [(s.1.1.1.later f.1.1 f.1.2).n, nsD s.2.1] S1 = some (.int (cmpM (omL s.1.1 f).1 (om s.2.1).1), S1) := l_cmp (k := k + 8) (ns_later s.1.1 f) (ns300 s.2.1)
      generalize cmpM (omL s.1.1 f).1 (om s.2.1).1 = u at *
      simp [wipeR, ls_asg, e1, e2]
  have bo := bools_G (p := fun s : LS => decide (cmpM (omL s.1.1 f).1 (om s.2.1).1 ≤ 0)) A
  have ln : (A.map lsD).length < 100000 := by rw [List.length_map]; omega
  generalize (A.map fun s => decide (cmpM (omL s.1.1 f).1 (om s.2.1).1 ≤ 0)) = Y1 at *
  generalize (A.map fun s => D.bl (decide (cmpM (omL s.1.1 f).1 (om s.2.1).1 ≤ 0))) = Y2 at *
  obtain ⟨u, hu⟩ : ∃ u : Bool, u = Y1.any id := ⟨_, rfl⟩
  rw [← hu] at ls
  obtain ⟨w, rs⟩ := pd_rp (pd_bl (b := u)) (by omega) (by omega)
  have rq : cmpD .NotEq (.str w) (.str w) = some false := by
    have : biD .repr [.bl u] = some (.str w) := rs
    simp
  refine ⟨some (false, .tup (G.map stD)), some (false, lenD f), some (false, .bl u), some (false, .tup ((A.map lsC).map stD)), some (false, .tup ((B.map lsC).map stD)), S1, ?_, p1, l1⟩
  generalize G.map stD = X3 at *
  generalize H.map stD = X4 at *
  generalize (A.map lsC).map stD = X5 at *
  generalize (B.map lsC).map stD = X9 at *
  generalize R.map lsD = X6 at *
  generalize A.map lsD = X8 at *
  generalize B.map lsD = X7 at *
  simp [rest75, f75, runF, L2.ixN, List.replicate, t1, t2, sc, r3, q1, k1, k2, jo, nn, e1, ls, cd, ln, bo, ← hu, rs, rq]
theorem l_lap {k n c : Nat} {S : Sto} {s1 s2 s3 s4 s5 s6 s7 s8 : Slot} (hp : PotOk S n c) (hc : c ≤ 30000) : ∃ (t2 t3 t4 t5 t6 t7 t8 : Slot) (S' : Sto),
    exB prg (callF prg (k + 12)) body75 [some (false, .ref n), s1, s2, s3, s4, s5, s6, s7, s8, none, none, none, none] S = some (.nx [some (false, .ref n), s1, t2, t3, t4, t5, t6, t7, t8, none, none, none, none], S') ∧ PotOk S' n (c + 130) ∧ S'.length = S.length := by
  obtain ⟨A, S1, e1, a1, a2, p1, l1, oA⟩ := l_drawn_stretches (k := k + 2) hp (by omega)
  have ne := ne_nil (ok_lss A)
  have hb : body75 = .set 2 (.call 67 [.var 0, .cst (.int 4)]) :: .set 3 (.ite (.and (.cmp .NotEq (.var 2) (.lst [])) (.cmp .Eq (.call 43 [.var 0, .cst (.int 2)]) (.cst (.int 0)))) (.call 74 [.var 0, .var 2]) (.call 67 [.var 0, .cst (.int 3)])) :: rest75 := rfl
  by_cases h0 : A = []
  · obtain ⟨B, S2, e2, b1, b2, p2, l2, _⟩ := l_drawn_stretches' (k := k + 2) (M := 3) (by decide) (by decide) p1 (by omega)
    obtain ⟨t4, t5, t6, t7, t8, S3, e3, p3, l3⟩ := l_rest (k := k) a1 b1 a2 b2 p2 (by omega) s1 s4 s5 s6 s7 s8
    refine ⟨some (false, .lst (A.map lsD)), some (false, .lst (B.map lsD)), t4, t5, t6, t7, t8, S3, ?_, p3.mono (by omega), by omega⟩
    rw [hb]
    have ie : (A.map lsD).isEmpty = true := by rw [h0]; rfl
    rw [ie] at ne
    generalize A.map lsD = X at *
    generalize B.map lsD = Y at *
    generalize rest75 = W at *
    simp [runF, L2.ixN, List.replicate, e1, ne, e2]
    exact e3
  · have ie : (A.map lsD).isEmpty = false := by
      cases A with
      | nil => exact absurd rfl h0
      | cons a b => rfl
    rw [ie] at ne
    obtain ⟨v, S2, e2, v0, v1, p2, l2⟩ := l_take (k := k + 11) (u := 2) (by decide) (bd_of 2 (by decide)) p1 (by omega)
    by_cases hv : v = 0
    · obtain ⟨B, S3, e3, b1, b2, p3, l3⟩ := l_touching (k := k + 2) p2 (by omega) oA a2
      obtain ⟨t4, t5, t6, t7, t8, S4, e4, p4, l4⟩ := l_rest (k := k) a1 b1 a2 b2 p3 (by omega) s1 s4 s5 s6 s7 s8
      refine ⟨some (false, .lst (A.map lsD)), some (false, .lst (B.map lsD)), t4, t5, t6, t7, t8, S4, ?_, p4.mono (by omega), by omega⟩
      rw [hb]
      subst hv
      generalize A.map lsD = X at *
      generalize B.map lsD = Y at *
      generalize rest75 = W at *
      simp [runF, L2.ixN, List.replicate, e1, ne, e2, e3]
      exact e4
    · obtain ⟨B, S3, e3, b1, b2, p3, l3, _⟩ := l_drawn_stretches' (k := k + 2) (M := 3) (by decide) (by decide) p2 (by omega)
      obtain ⟨t4, t5, t6, t7, t8, S4, e4, p4, l4⟩ := l_rest (k := k) a1 b1 a2 b2 p3 (by omega) s1 s4 s5 s6 s7 s8
      refine ⟨some (false, .lst (A.map lsD)), some (false, .lst (B.map lsD)), t4, t5, t6, t7, t8, S4, ?_, p4.mono (by omega), by omega⟩
      rw [hb]
      generalize A.map lsD = X at *
      generalize B.map lsD = Y at *
      generalize rest75 = W at *
      simp [runF, L2.ixN, List.replicate, e1, ne, e2, hv, e3]
      exact e4
theorem l_right {k n c : Nat} {S : Sto} (hp : PotOk S n c) (hc : c ≤ 10000) : ∃ S', callF prg (k + 13) 75 [.ref n] S = some (.bl true, S') ∧ S'.length = S.length := by
  obtain ⟨t2, t3, t4, t5, t6, t7, t8, S1, e1, p1, l1⟩ := l_lap (k := k) (s1 := some (false, .int 0)) (s2 := none) (s3 := none) (s4 := none) (s5 := none) (s6 := none) (s7 := none) (s8 := none) hp (by omega)
  obtain ⟨u2, u3, u4, u5, u6, u7, u8, S2, e2, p2, l2⟩ := l_lap (k := k) (s1 := some (false, .int 1)) (s2 := t2) (s3 := t3) (s4 := t4) (s5 := t5) (s6 := t6) (s7 := t7) (s8 := t8) p1 (by omega)
  have hl : S2.length = S.length := by omega
  refine ⟨S2, ?_, hl⟩
  rw [cf_s (g := f75) rfl]
  have hb : f75.body = [.for_ (.nm 1) (.rng [.cst (.int 2)]) body75, .ret (.cst (.bl true))] := rfl
  have hN : f75.N.length = 13 := rfl
  have hn : f75.np = 1 := rfl
  have rng2 : rngD [.int 2] = some [.int 0, .int 1] := rfl
  generalize body75 = W at *
  simp only [runF, hb, hN, hn]
  simp [runF, L2.ixN, List.replicate, List.replicate, rng2, forL_c, e1, e2, tkl hl]
theorem l_law (ns : List Int) : ∃ S', callF prg 40 76 [scr ns] [] = some (.bl true, S') := by
  obtain ⟨m, hm, ec⟩ := l_cells2 (k := 38) (S := []) (ns := ns)
  have turn : ∀ (p : Int) (S : Sto), 0 ≤ p → p ≤ 100 → ∃ S', cmpB prg (callF prg 39) [1] (.nm 1) [] (.call 75 [.call 42 [.var 0, .var 1]]) [some (false, scr ns), none] (.int p) S = some (some (.bl true), S') := fun p S h0 h1 => by
    obtain ⟨S1, e1, p1⟩ := l_pot (k := 38) (S := S) (ns := ns) h0 h1
    obtain ⟨S2, e2, _⟩ := l_right (k := 26) p1 (by omega)
    exact ⟨S2, by simp [wipeR, e1, e2]⟩
  have comp : ∀ (l : List Nat) (S : Sto), (∀ i ∈ l, i ≤ 100) → ∃ S', compL (cmpB prg (callF prg 39) [1] (.nm 1) [] (.call 75 [.call 42 [.var 0, .var 1]]) [some (false, scr ns), none]) (l.map fun (i : Nat) => D.int (0 + i)) S = some (l.map fun _ => D.bl true, S') := fun l => by
    induction l with
    | nil => exact fun S _ => ⟨S, rfl⟩
    | cons a l ih =>
      intro S h
      obtain ⟨S1, e1⟩ := turn (0 + a) S (by omega) (by have := h a List.mem_cons_self; omega)
      obtain ⟨S2, e2⟩ := ih S1 fun i hi => h i (List.mem_cons_of_mem _ hi)
      exact ⟨S2, compL_cons e1 e2⟩
  obtain ⟨S', e⟩ := comp (List.range m) [] fun i hi => by have := List.mem_range.mp hi; omega
  have bo : ∀ l : List Nat, boolsOf (l.map fun _ => D.bl true) = some (l.map fun _ => true) := fun l => by
    induction l with
    | nil => rfl
    | cons a l ih => simp [ih]
  have al : ((List.range m).map fun _ => true).all id = true := by simp
  have ln : (rangeL 0 m).length < 100000 := by
    unfold rangeL
    simp
    omega
  refine ⟨[], ?_⟩
  rw [cf_s (g := f76) rfl]
  have e' : compL (cmpB prg (callF prg 39) [1] (.nm 1) [] (.call 75 [.call 42 [.var 0, .var 1]]) [some (false, scr ns), none]) (rangeL 0 m) [] = some ((List.range m).map fun _ => D.bl true, S') := e
  simp only [runF, f76]
  simp [ec, ln, e', bo]
end Pv.K08

open PySem PySem.W PyProof.Rows
theorem PySem.Challenge.cw_crossingstold_k08_whole_since_and_lasts_holds : PySem.Challenge.rw_crossingstold_k08_whole_since_and_lasts.Holds :=
  Pv.K08.holds_of fun ns _ _ => Pv.K08.l_law ns
