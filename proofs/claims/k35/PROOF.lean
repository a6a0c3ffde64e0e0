import PyProof.Rows.All
import Wide.All
import OpenK.AllK
import Wide.FinOn
import HandS.ForMost
import HandS.ForExc
import HandS.Defaults
import KE.DataEq
import KE.SortData
import HandS.Evl
import HandS.TupAny
import HandS.IsInst
import HandS.StrMore
import HandS.Strs
import HandS.Zip
import HandS.Rev
import HandS.Conv
import HandS.Flt
import HandS.TupSets
import HandS.Style
import HandS.RevRange
import HandS.TryOnly
import KE.KStateDown
import HandS.Words
import HandS.WordsExc
import HandS.Head0
import HandS.Head1
import HandS.Head2
import HandS.HeadEnd
import HandS.HeadHook1
import HandS.HeadHook2
import KE.KNest
import PySem.Challenge.RW_boxproof_k35_new_and_every
set_option Elab.async false
set_option linter.all false
set_option maxRecDepth 100000
set_option maxHeartbeats 4000000
/-! The evaluator over plain data. -/
namespace Ev
open PySem

/-- plain data -/
inductive D where
  | non | bl (b : Bool) | int (i : Int) | str (s : List Nat) | tup (xs : List D) | lst (xs : List D)
deriving Inhabited

mutual
/-- == as Python has it -/
def D.eqv : D → D → Bool
  | .non, .non => true
  | .bl a, .bl b => a == b
  | .bl a, .int j => (if a then 1 else 0) == j
  | .int i, .bl b => i == (if b then 1 else 0)
  | .int i, .int j => i == j
  | .str x, .str y => x == y
  | .lst xs, .lst ys => D.eqvL xs ys
  | .tup xs, .tup ys => D.eqvL xs ys
  | .non, .bl _ | .non, .int _ | .non, .str _ | .non, .lst _ | .non, .tup _ => false
  | .bl _, .non | .bl _, .str _ | .bl _, .lst _ | .bl _, .tup _ => false
  | .int _, .non | .int _, .str _ | .int _, .lst _ | .int _, .tup _ => false
  | .str _, .non | .str _, .bl _ | .str _, .int _ | .str _, .lst _ | .str _, .tup _ => false
  | .lst _, .non | .lst _, .bl _ | .lst _, .int _ | .lst _, .str _ | .lst _, .tup _ => false
  | .tup _, .non | .tup _, .bl _ | .tup _, .int _ | .tup _, .str _ | .tup _, .lst _ => false
def D.eqvL : List D → List D → Bool
  | [], [] => true
  | x :: xs, y :: ys => D.eqv x y && D.eqvL xs ys
  | [], _ :: _ => false
  | _ :: _, [] => false
end
mutual
def D.depth : D → Nat
  | .tup xs => D.depthL xs + 1
  | .lst xs => D.depthL xs + 1
  | _ => 1
def D.depthL : List D → Nat
  | [] => 0
  | x :: xs => max (D.depth x) (D.depthL xs)
end

def T (s : List Nat) : Str := ⟨s.toArray⟩
/-! ### data for == -/
mutual
def D.py : D → PyData
  | .non => .none
  | .bl b => .bool b
  | .int i => .int i
  | .str s => .str (T s)
  | .tup xs => .tuple (D.pyL xs)
  | .lst xs => .list (D.pyL xs)
def D.pyL : List D → List PyData
  | [] => []
  | x :: xs => D.py x :: D.pyL xs
end
def insU (x : List Nat) : List (List Nat) → List (List Nat)
  | [] => [x]
  | y :: r => if x = y then y :: r else if x < y then x :: y :: r else y :: insU x r
/-- each once, rising -/
def sortU (l : List (List Nat)) : List (List Nat) := l.foldr insU []
/-- sorted can be asked of these -/
def isTupNE : D → Bool
  | .tup (_ :: _) => true
  | _ => false
def notTN : D → Bool
  | .non => false
  | .tup _ => false
  | _ => true
def sortOk (xs : List D) : Bool := (xs.all fun a => xs.all fun b => PySem.W.alike a.py b.py) && (xs.all isTupNE || xs.all notTN) && xs.all fun a => decide (a.depth ≤ 100)
def leD : D → D → Bool := PySem.W.dataLe false D.py
/-- what a piece of text comes to -/
inductive Res (α : Type) where
  | ok (a : α) | exc (c : Nat) | fail
namespace Res
@[inline] def bind {α β : Type} (r : Res α) (f : α → Res β) : Res β := match r with
  | .ok a => f a
  | .exc c => .exc c
  | .fail => .fail
end Res
instance : Monad Res where
  pure := Res.ok
  bind := Res.bind
@[simp] theorem res_bind_ok {α β : Type} (a : α) (f : α → Res β) : (Res.ok a >>= f) = f a := rfl
@[simp] theorem res_bind_exc {α β : Type} (c : Nat) (f : α → Res β) : ((Res.exc c : Res α) >>= f) = .exc c := rfl
@[simp] theorem res_bind_fail {α β : Type} (f : α → Res β) : ((Res.fail : Res α) >>= f) = .fail := rfl
@[simp] theorem res_pure {α : Type} (a : α) : (pure a : Res α) = .ok a := rfl

inductive Bo where | add | sub | mul | fdiv | mod | pow | shl
  deriving DecidableEq
inductive Co where | eq | ne | lt | le | gt | ge | isin | notin
  deriving DecidableEq
inductive Bf where | len | int | str | tuple | list | sum | all | any | max2 | min2 | isInt | isBool | isStr | isTuple | sortedSet | sorted
  deriving DecidableEq
inductive Mt where | join | islower | isupper | isalnum
  deriving DecidableEq

mutual
inductive E where
  | var (i : Nat) | bor (i : Nat) | lit (d : D) | glob (g : Nat) | tup (es : Es) | lst (es : Es) | bin (o : Bo) (a b : E) | neg (a : E) | not (a : E)
  | and (a b : E) | or (a b : E) | cmp (o : Co) (a b : E) | chain (o p : Co) (a b c : E) | isN (a : E) | notN (a : E) | ife (c a b : E)
  | call (f : Nat) (es : Es) | bf (b : Bf) (es : Es) | mt (m : Mt) (a : E) (es : Es) | ix (a b : E) | sl (a lo hi : E) | comp (x : Nat) (it : It) (cond elt : E) | lrng (a : E) | revs (a : E) | prt (i k : Nat)
inductive Es where
  | nil | cons (e : E) (es : Es)
inductive It where
  | seq (e : E) | rng1 (a : E) | rng2 (a b : E) | rev (e : E) | revr (a : E)
end
/-- an except suite -/
inductive Hd where | set (i : Nat) (d : D) | ret (d : D) | pass
/-- what becomes of the answer of a call that changes its arguments -/
inductive Km where
  | drop | asg (x : Nat) | asgT (x : Nat) (pre : Es) | ret (l : Option (List Nat)) | retT (l : Option (List Nat)) (pre : Es) | app (i : Nat) | ext (i : Nat)
mutual
inductive S where
  | pass | expr (e : E) | assign (i : Nat) (e : E) | assignF (i : Nat) (e : E) | append (i : Nat) (e : E) | extend (i : Nat) (e : E) | setIx (i : Nat) (k e : E)
  | ife (c : E) (a b : B) | for_ (x : Nat) (it : It) (b : B) | whil (c : E) (b : B) | ret (e : E) | retF (e : E) | retOwn (i : Nat) | retN | brk | cont
  | raise (c : Nat) | try_ (b : B) (yes no : List Nat) (c : Nat) (h : Hd) | unpack (is : List Nat) (e : E) | pop (x i : Nat) | popU (is : List Nat) (i : Nat) | retP (i : Nat) (es : Es)
  | retM (l : List Nat) (e : E) | retMN (l : List Nat) | callM (k : Km) (f : Nat) (es : Es) (ms : List (Option Nat))
inductive B where
  | nil | cons (s : S) (b : B) | freeze (i : Nat) (b : B) | pair (i j f : Nat) (es : Es) (b : B)
end

def isLitNon : E → Bool
  | .lit .non => true
  | _ => false
inductive Fl where | sh | own | bor | prt
  deriving DecidableEq
abbrev Env := List (Option (Fl × D))
inductive Flow where
  | nx (ρ : Env) | ret (d : D) | brk (ρ : Env) | cont (ρ : Env) | exc (c : Nat) (ρ : Env)

def line : Nat := 2 ^ 24
/-- x in xs -/
def isIn (x : D) (xs : List D) : Bool := xs.any fun y => D.eqv y x
/-- the place of an index -/
abbrev ixN (n : Nat) (i : Int) : Option Nat := L2.ixN n i
def cut {α : Type} (xs : List α) (lo hi : Option Int) : List α := (xs.drop (HT.sIx xs.length 0 lo)).take (HT.sIx xs.length xs.length hi - HT.sIx xs.length 0 lo)

/-- a op b -/
def opB : Bo → D → D → Option D
  | .add, .int i, .int j => some (.int (i + j))
  | .add, .str s, .str t => if s.length + t.length ≤ line then some (.str (s ++ t)) else none
  | .add, .lst s, .lst t => if s.length + t.length ≤ line then some (.lst (s ++ t)) else none
  | .add, .tup s, .tup t => if s.length + t.length ≤ line then some (.tup (s ++ t)) else none
  | .sub, .int i, .int j => some (.int (i - j))
  | .mul, .int i, .int j => if i.natAbs < 2 ^ 64 ∨ j.natAbs < 2 ^ 64 then some (.int (i * j)) else none
  | .mul, .str s, .int i => if -(line : Int) ≤ i ∧ i ≤ line ∧ s.length * i.toNat ≤ line then some (.str (List.replicate i.toNat s).flatten) else none
  | .mul, .lst s, .int i => if -(line : Int) ≤ i ∧ i ≤ line ∧ s.length * i.toNat ≤ line then some (.lst (List.replicate i.toNat s).flatten) else none
  | .fdiv, .int i, .int j => if 0 < j ∧ j < 1073741824 then some (.int (i / j)) else none
  | .mod, .int i, .int j => if 0 < j then some (.int (i % j)) else none
  | .pow, .int i, .int j => if 0 ≤ j ∧ j ≤ 1000 ∧ i.natAbs < 2 ^ 64 then some (.int (i ^ j.toNat)) else none
  | .shl, .int i, .int j => if 0 ≤ j ∧ j ≤ 1000 ∧ i.natAbs < 2 ^ 64 then some (.int (i * 2 ^ j.toNat)) else none
  | _, _, _ => none
/-- so deep at most, where == is asked -/
def eqDeep : Nat := 150
def opEq (a b : D) : Option Bool := if min a.depth b.depth ≤ eqDeep then some (D.eqv a b) else none
def opIn (a : D) : D → Option Bool
  | .lst xs => if a.depth ≤ eqDeep then some (isIn a xs) else none
  | .tup xs => if a.depth ≤ eqDeep then some (isIn a xs) else none
  | .str t => match a with
    | .str [c] => some (t.contains c)
    | _ => none
  | _ => none
def opC : Co → D → D → Option Bool
  | .eq, a, b => opEq a b
  | .ne, a, b => (opEq a b).map (!·)
  | .lt, .int i, .int j => some (decide (i < j))
  | .le, .int i, .int j => some (decide (i ≤ j))
  | .gt, .int i, .int j => some (decide (j < i))
  | .ge, .int i, .int j => some (decide (j ≤ i))
  | .isin, a, b => opIn a b
  | .notin, a, b => (opIn a b).map (!·)
  | _, _, _ => none
def opIx : D → D → Option D
  | .lst xs, .int i => (ixN xs.length i).bind fun j => xs[j]?
  | .tup xs, .int i => (ixN xs.length i).bind fun j => xs[j]?
  | .str xs, .int i => ((ixN xs.length i).bind fun j => xs[j]?).map fun c => .str [c]
  | _, _ => none
/-- a bound of a slice: left out, or a number -/
def ixPart (out : Bool) (d : D) : Option (Option Int) := if out then some none else match d with
  | .int i => some (some i)
  | _ => none
def opSl (a : D) (l h : Option Int) : Option D := match a with
  | .lst xs => some (.lst (cut xs l h))
  | .tup xs => some (.tup (cut xs l h))
  | .str xs => some (.str (cut xs l h))
  | _ => none
def dBools : List D → Option (List Bool)
  | [] => some []
  | .bl b :: xs => (dBools xs).map (b :: ·)
  | _ => none
def dInts : List D → Option (List Int)
  | [] => some []
  | .int b :: xs => (dInts xs).map (b :: ·)
  | _ => none
def dTexts : List D → Option (List (List Nat))
  | [] => some []
  | .str b :: xs => (dTexts xs).map (b :: ·)
  | _ => none
def joined (sep : List Nat) : List (List Nat) → List Nat
  | [] => []
  | [p] => p
  | p :: q :: r => p ++ (sep ++ joined sep (q :: r))
def codes (s : String) : List Nat := s.toList.map Char.toNat
/-- for isinstance (no lists) -/
def kindOf : D → Option Nat
  | .non => some 0
  | .bl _ => some 1
  | .int _ => some 2
  | .str _ => some 3
  | .tup _ => some 4
  | .lst _ => none
def opF : Bf → List D → Option D
  | .len, [.lst xs] => some (.int xs.length)
  | .len, [.tup xs] => some (.int xs.length)
  | .len, [.str xs] => some (.int xs.length)
  | .int, [.int i] => some (.int i)
  | .int, [.bl b] => some (.int (if b then 1 else 0))
  | .str, [.int i] => if i.natAbs < 2 ^ 64 ∧ (codes (toString i)).length ≤ line then some (.str (codes (toString i))) else none
  | .tuple, [.lst xs] => some (.tup xs)
  | .tuple, [.tup xs] => some (.tup xs)
  | .list, [.lst xs] => some (.lst xs)
  | .list, [.tup xs] => some (.lst xs)
  | .sum, [.lst xs] => (dInts xs).map fun l => .int l.sum
  | .all, [.lst xs] => (dBools xs).map fun l => .bl (l.all id)
  | .any, [.lst xs] => (dBools xs).map fun l => .bl (l.any id)
  | .max2, [.int i, .int j] => some (.int (if j > i then j else i))
  | .min2, [.int i, .int j] => some (.int (if j < i then j else i))
  | .min2, [.int i, .int j, .int k] => some (.int (if k < (if j < i then j else i) then k else (if j < i then j else i)))
  | .sortedSet, [.lst xs] => (dTexts xs).bind fun l => if l.length + 1 < scanBound then some (.lst ((sortU l).map .str)) else none
  | .sorted, [.lst xs] => if sortOk xs then some (.lst (xs.mergeSort leD)) else none
  | .isInt, [d] => (kindOf d).map fun k => .bl (k == 1 || k == 2)
  | .isBool, [d] => (kindOf d).map fun k => .bl (k == 1)
  | .isStr, [d] => (kindOf d).map fun k => .bl (k == 3)
  | .isTuple, [d] => (kindOf d).map fun k => .bl (k == 4)
  | _, _ => none
def opM : Mt → D → List D → Option D
  | .join, .str sep, [.lst xs] => (dTexts xs).bind fun l => if (l.map List.length).sum + l.length * sep.length ≤ line then some (.str (joined sep l)) else none
  | .join, .str sep, [.tup xs] => (dTexts xs).bind fun l => if (l.map List.length).sum + l.length * sep.length ≤ line then some (.str (joined sep l)) else none
  | .islower, .str [c], [] => if c < 128 then some (.bl (Nat.ble 97 c && Nat.ble c 122)) else none
  | .isupper, .str [c], [] => if c < 128 then some (.bl (Nat.ble 65 c && Nat.ble c 90)) else none
  | .isalnum, .str [c], [] => if c < 128 then some (.bl ((Nat.ble 97 c && Nat.ble c 122) || (Nat.ble 65 c && Nat.ble c 90) || (Nat.ble 48 c && Nat.ble c 57))) else none
  | _, _, _ => none

/-- what methods are asked of -/
def recv : D → Option Unit
  | .str _ => some ()
  | _ => none
/-- as a truth -/
def truth : D → Option Bool
  | .bl b => some b
  | _ => none
def ofO {α : Type} : Option α → Res α
  | some a => .ok a
  | none => .fail
@[simp] theorem ofO_some {α : Type} (a : α) : ofO (some a) = .ok a := rfl
@[simp] theorem ofO_none {α : Type} : ofO (none : Option α) = .fail := rfl
def opNeg : D → Option D
  | .int i => some (.int (-i))
  | _ => none
def isNon : D → Bool
  | .non => true
  | _ => false
def itemsOf : D → Option (List D)
  | .lst xs => some xs
  | .tup xs => some xs
  | .str xs => some (xs.map fun c => .str [c])
  | _ => none
def setV (ρ : Env) (i : Nat) (d : D) : Env := ρ.set i (some (.sh, d))
def rng (lo : Int) (n : Nat) : List D := (List.range n).map fun (k : Nat) => D.int (lo + (k : Int))
def rng1 : D → Option (List D)
  | .int j => if -(line : Int) ≤ j ∧ j ≤ line then some (rng 0 j.toNat) else none
  | _ => none
def rng2 : D → D → Option (List D)
  | .int i, .int j => if -(line : Int) ≤ i ∧ i ≤ line ∧ -(line : Int) ≤ j ∧ j ≤ line ∧ j - i ≤ line then some (rng i (j - i).toNat) else none
  | _, _ => none
/-- backwards -/
def revOf : D → Option (List D)
  | .lst xs => some xs.reverse
  | .tup xs => some xs.reverse
  | _ => none
/-- x[::-1] -/
def opRev : D → Option D
  | .lst xs => some (.lst xs.reverse)
  | .tup xs => some (.tup xs.reverse)
  | _ => none
/-- for a comprehension -/
def compL (cond elt : D → Res D) : List D → Res (List D)
  | [] => .ok []
  | x :: xs => (cond x) >>= fun c => (ofO (truth c)) >>= fun b => if b then (elt x) >>= fun y => (compL cond elt xs) >>= fun ys => .ok (y :: ys) else compL cond elt xs
/-- a comprehension lets nothing out -/
def noExc {α : Type} : Res α → Res α
  | .exc _ => .fail
  | .ok a => .ok a
  | .fail => .fail
@[simp] theorem noExc_ok {α : Type} (a : α) : noExc (.ok a) = .ok a := rfl
/-- what a slot gives -/
def getSh (ρ : Env) (i : Nat) : Option D := match ρ[i]? with
  | some (some (.sh, d)) => some d
  | _ => none
def getAny (ρ : Env) (i : Nat) : Option D := match ρ[i]? with
  | some (some (.prt, _)) => none
  | some (some (_, d)) => some d
  | _ => none
/-- of a list whose first item is gone: another item -/
def getPrt (ρ : Env) (i k : Nat) : Option D := match ρ[i]? with
  | some (some (.prt, .lst (_ :: ds))) => match k with
    | 0 => none
    | k + 1 => ds[k]?
  | _ => none
def getOwn (ρ : Env) (i : Nat) : Option (List D) := match ρ[i]? with
  | some (some (.own, .lst xs)) => some xs
  | _ => none

section
variable (cf : Nat → List D → Res D) (gl : Nat → Option D)
mutual
def evE : E → Env → Res D
  | .var i, ρ => ofO (getSh ρ i)
  | .bor i, ρ => ofO (getAny ρ i)
  | .lit d, _ => .ok d
  | .glob g, _ => ofO (gl g)
  | .tup es, ρ => (evEs es ρ) >>= fun l => .ok (.tup l)
  | .lst es, ρ => (evEs es ρ) >>= fun l => .ok (.lst l)
  | .bin o a b, ρ => (evE a ρ) >>= fun x => (evE b ρ) >>= fun y => ofO (opB o x y)
  | .neg a, ρ => (evE a ρ) >>= fun x => ofO (opNeg x)
  | .lrng a, ρ => (evE a ρ) >>= fun x => (ofO (rng1 x)) >>= fun l => .ok (.lst l)
  | .revs a, ρ => (evE a ρ) >>= fun x => ofO (opRev x)
  | .prt i k, ρ => ofO (getPrt ρ i k)
  | .not a, ρ => (evE a ρ) >>= fun x => (ofO (truth x)) >>= fun k => .ok (.bl (!k))
  | .and a b, ρ => (evE a ρ) >>= fun x => (ofO (truth x)) >>= fun k => if k then (evE b ρ) >>= fun y => (ofO (truth y)) >>= fun k => .ok (.bl k) else .ok (.bl false)
  | .or a b, ρ => (evE a ρ) >>= fun x => (ofO (truth x)) >>= fun k => if k then .ok (.bl true) else (evE b ρ) >>= fun y => (ofO (truth y)) >>= fun k => .ok (.bl k)
  | .cmp o a b, ρ => (evE a ρ) >>= fun x => (evE b ρ) >>= fun y => (ofO (opC o x y)) >>= fun k => .ok (.bl k)
  | .chain o p a b c, ρ => (evE a ρ) >>= fun x => (evE b ρ) >>= fun y => (ofO (opC o x y)) >>= fun k => if k then (evE c ρ) >>= fun z => (ofO (opC p y z)) >>= fun k => .ok (.bl k) else .ok (.bl false)
  | .isN a, ρ => (evE a ρ) >>= fun x => .ok (.bl (isNon x))
  | .notN a, ρ => (evE a ρ) >>= fun x => .ok (.bl (!isNon x))
  | .ife c a b, ρ => (evE c ρ) >>= fun x => (ofO (truth x)) >>= fun k => if k then evE a ρ else evE b ρ
  | .call f es, ρ => (evEs es ρ) >>= fun l => cf f l
  | .bf b es, ρ => (evEs es ρ) >>= fun l => ofO (opF b l)
  | .mt m a es, ρ => (evE a ρ) >>= fun x => (ofO (recv x)) >>= fun _ => (evEs es ρ) >>= fun l => ofO (opM m x l)
  | .ix a b, ρ => (evE a ρ) >>= fun x => (evE b ρ) >>= fun y => ofO (opIx x y)
  | .sl a lo hi, ρ => (evE a ρ) >>= fun x => (evE lo ρ) >>= fun y => (ofO (ixPart (isLitNon lo) y)) >>= fun l => (evE hi ρ) >>= fun z => (ofO (ixPart (isLitNon hi) z)) >>= fun h => ofO (opSl x l h)
  | .comp x it cond elt, ρ => (evIt it ρ) >>= fun l => (noExc (compL (fun d => evE cond (setV ρ x d)) (fun d => evE elt (setV ρ x d)) l)) >>= fun r => .ok (.lst r)
def evEs : Es → Env → Res (List D)
  | .nil, _ => .ok []
  | .cons e es, ρ => (evE e ρ) >>= fun x => (evEs es ρ) >>= fun l => .ok (x :: l)
def evIt : It → Env → Res (List D)
  | .seq e, ρ => (evE e ρ) >>= fun x => ofO (itemsOf x)
  | .rng1 a, ρ => (evE a ρ) >>= fun x => ofO (rng1 x)
  | .rng2 a b, ρ => (evE a ρ) >>= fun x => (evE b ρ) >>= fun y => ofO (rng2 x y)
  | .rev e, ρ => (evE e ρ) >>= fun x => ofO (revOf x)
  | .revr a, ρ => (evE a ρ) >>= fun x => (ofO (rng1 x)) >>= fun l => .ok l.reverse
end

/-- a loop over items -/
def forL (x : Nat) (body : Env → Res Flow) : List D → Env → Res Flow
  | [], ρ => .ok (.nx ρ)
  | d :: ds, ρ => (body (setV ρ x d)) >>= fun fl => match fl with
    | .nx ρ' => forL x body ds ρ'
    | .cont ρ' => forL x body ds ρ'
    | .brk ρ' => .ok (.nx ρ')
    | .ret d => .ok (.ret d)
    | .exc c ρ' => .ok (.exc c ρ')
/-- a while, so many turns at most -/
def whileL (test : Env → Res D) (body : Env → Res Flow) : Nat → Env → Res Flow
  | 0, _ => .fail
  | n + 1, ρ => match test ρ with
    | .exc c => .ok (.exc c ρ)
    | .fail => .fail
    | .ok t => (ofO (truth t)) >>= fun k => if k then (body ρ) >>= fun fl => match fl with
      | .nx ρ' => whileL test body n ρ'
      | .cont ρ' => whileL test body n ρ'
      | .brk ρ' => .ok (.nx ρ')
      | .ret d => .ok (.ret d)
      | .exc c ρ' => .ok (.exc c ρ')
    else .ok (.nx ρ)
def turns : Nat := 2 ^ 40
/-- an expression within a statement -/
def withE {α : Type} (r : Res α) (ρ : Env) (f : α → Res Flow) : Res Flow := match r with
  | .ok a => f a
  | .exc c => .ok (.exc c ρ)
  | .fail => .fail
@[simp] theorem withE_ok {α : Type} (a : α) (ρ : Env) (f : α → Res Flow) : withE (.ok a) ρ f = f a := rfl
@[simp] theorem withE_exc {α : Type} (c : Nat) (ρ : Env) (f : α → Res Flow) : withE (.exc c) ρ f = .ok (.exc c ρ) := rfl
@[simp] theorem withE_fail {α : Type} (ρ : Env) (f : α → Res Flow) : withE .fail ρ f = .fail := rfl
def setOwn (ρ : Env) (i : Nat) (xs : List D) : Env := ρ.set i (some (.own, .lst xs))
def listOf : D → Option (List D)
  | .lst xs => some xs
  | _ => none
def seqOf : D → Option (List D)
  | .lst xs => some xs
  | .tup xs => some xs
  | _ => none
def appL (xs : List D) (d : D) : Option (List D) := if xs.length < line then some (xs ++ [d]) else none
def extL (xs ys : List D) : Option (List D) := if xs.length + ys.length ≤ line then some (xs ++ ys) else none
def setL (xs : List D) (k d : D) : Option (List D) := match k with
  | .int j => (ixN xs.length j).map fun n => xs.set n d
  | _ => none
def setPrt (ρ : Env) (i : Nat) (ds : List D) : Env := ρ.set i (some (.prt, .lst (.non :: ds)))
def setVs : List Nat → List D → Env → Env
  | i :: is, d :: ds, ρ => setVs is ds (setV ρ i d)
  | _, _, ρ => ρ
def tupN (n : Nat) : D → Option (List D)
  | .tup ds => if ds.length = n then some ds else none
  | _ => none
def popL (xs : List D) : Option (List D × D) := (xs[xs.length - 1]?).map fun d => (xs.dropLast, d)
def pairOf : D → Option (List D × List D)
  | .lst (.lst xs :: ds) => some (xs, ds)
  | _ => none
/-- the lists that a def has changed, as data -/
def collect : List Nat → Env → Option (List D)
  | [], _ => some []
  | i :: l, ρ => (getOwn ρ i).bind fun xs => (collect l ρ).map (.lst xs :: ·)
def handM (l : List Nat) (d : D) (ρ : Env) : Option D := (collect l ρ).map fun fs => .tup (d :: fs)
def handO : Option (List Nat) → D → Env → Option D
  | none, d, _ => some d
  | some l, d, ρ => handM l d ρ
def lists : List D → Option (List (List D))
  | [] => some []
  | .lst xs :: ds => (lists ds).map (xs :: ·)
  | _ => none
/-- an answer, and what has become of the lists -/
def mutRes (n : Nat) : D → Option (D × List (List D))
  | .tup (r :: fs) => if fs.length = n then (lists fs).map fun l => (r, l) else none
  | _ => none
def ownsAt : List (Option Nat) → Env → Option Unit
  | [], _ => some ()
  | some i :: ms, ρ => (getOwn ρ i).bind fun _ => ownsAt ms ρ
  | none :: ms, ρ => ownsAt ms ρ
def setOwns : List (Option Nat) → List (List D) → Env → Env
  | some i :: ms, xs :: ls, ρ => setOwns ms ls (setOwn ρ i xs)
  | none :: ms, _ :: ls, ρ => setOwns ms ls ρ
  | _, _, ρ => ρ
def Km.pre : Km → Es
  | .asgT _ p => p
  | .retT _ p => p
  | _ => .nil
/-- what is to be put into a list of one's own -/
def konP : Km → Env → Option Unit
  | .app i, ρ => (getOwn ρ i).map fun _ => ()
  | .ext i, ρ => (getOwn ρ i).map fun _ => ()
  | _, _ => some ()
/-- what becomes of the answer -/
def konK (k : Km) (ps : List D) (r : D) (ρ : Env) : Res Flow := match k with
  | .drop => .ok (.nx ρ)
  | .asg x => .ok (.nx (setV ρ x r))
  | .asgT x _ => .ok (.nx (setV ρ x (.tup (ps ++ [r]))))
  | .ret l => (ofO (handO l r ρ)) >>= fun d => .ok (.ret d)
  | .retT l _ => (ofO (handO l (.tup (ps ++ [r])) ρ)) >>= fun d => .ok (.ret d)
  | .app i => (ofO (getOwn ρ i)) >>= fun xs => (ofO (appL xs r)) >>= fun ys => .ok (.nx (setOwn ρ i ys))
  | .ext i => (ofO (getOwn ρ i)) >>= fun xs => (ofO (seqOf r)) >>= fun ys => (ofO (extL xs ys)) >>= fun zs => .ok (.nx (setOwn ρ i zs))
def evH : Hd → Env → Flow
  | .set i d, ρ => .nx (setV ρ i d)
  | .ret d, _ => .ret d
  | .pass, ρ => .nx ρ
mutual
def evS : S → Env → Res Flow
  | .pass, ρ => .ok (.nx ρ)
  | .expr e, ρ => withE (evE cf gl e ρ) ρ fun _ => .ok (.nx ρ)
  | .assign i e, ρ => withE (evE cf gl e ρ) ρ fun d => .ok (.nx (setV ρ i d))
  | .assignF i e, ρ => withE (evE cf gl e ρ) ρ fun d => (ofO (listOf d)) >>= fun xs => .ok (.nx (setOwn ρ i xs))
  | .append i e, ρ => (ofO (getOwn ρ i)) >>= fun xs => withE (evE cf gl e ρ) ρ fun d => (ofO (appL xs d)) >>= fun ys => .ok (.nx (setOwn ρ i ys))
  | .extend i e, ρ => (ofO (getOwn ρ i)) >>= fun xs => withE (evE cf gl e ρ) ρ fun d => (ofO (seqOf d)) >>= fun ys => (ofO (extL xs ys)) >>= fun zs => .ok (.nx (setOwn ρ i zs))
  | .setIx i k e, ρ => (ofO (getOwn ρ i)) >>= fun xs => withE (evE cf gl e ρ) ρ fun d => withE (evE cf gl k ρ) ρ fun j => (ofO (setL xs j d)) >>= fun ys => .ok (.nx (setOwn ρ i ys))
  | .ife c a b, ρ => withE (evE cf gl c ρ) ρ fun x => (ofO (truth x)) >>= fun k => if k then evB a ρ else evB b ρ
  | .for_ x it b, ρ => withE (evIt cf gl it ρ) ρ fun l => forL x (fun ρ => evB b ρ) l ρ
  | .whil c b, ρ => whileL (fun ρ => evE cf gl c ρ) (fun ρ => evB b ρ) turns ρ
  | .ret e, ρ => withE (evE cf gl e ρ) ρ fun d => .ok (.ret d)
  | .retF e, ρ => withE (evE cf gl e ρ) ρ fun d => .ok (.ret d)
  | .retOwn i, ρ => (ofO (getOwn ρ i)) >>= fun xs => .ok (.ret (.lst xs))
  | .retN, _ => .ok (.ret .non)
  | .brk, ρ => .ok (.brk ρ)
  | .cont, ρ => .ok (.cont ρ)
  | .raise c, ρ => .ok (.exc c ρ)
  | .unpack is e, ρ => withE (evE cf gl e ρ) ρ fun d => (ofO (tupN is.length d)) >>= fun ds => .ok (.nx (setVs is ds ρ))
  | .pop x i, ρ => (ofO (getOwn ρ i)) >>= fun xs => (ofO (popL xs)) >>= fun p => .ok (.nx (setV (setOwn ρ i p.1) x p.2))
  | .popU is i, ρ => (ofO (getOwn ρ i)) >>= fun xs => (ofO (popL xs)) >>= fun p => (ofO (tupN is.length p.2)) >>= fun ds => .ok (.nx (setVs is ds (setOwn ρ i p.1)))
  | .retP i es, ρ => (ofO (getOwn ρ i)) >>= fun xs => withE (evEs cf gl es ρ) ρ fun ds => .ok (.ret (.lst (.lst xs :: ds)))
  | .retM l e, ρ => withE (evE cf gl e ρ) ρ fun d => (ofO (handM l d ρ)) >>= fun r => .ok (.ret r)
  | .retMN l, ρ => (ofO (handM l .non ρ)) >>= fun r => .ok (.ret r)
  | .callM k f es ms, ρ => (ofO (konP k ρ)) >>= fun _ => withE (evEs cf gl k.pre ρ) ρ fun ps => (ofO (ownsAt ms ρ)) >>= fun _ => withE (evEs cf gl es ρ >>= fun l => cf f l) ρ fun d => (ofO (mutRes ms.length d)) >>= fun p => konK k ps p.1 (setOwns ms p.2 ρ)
  | .try_ b yes no _ h, ρ => (evB b ρ) >>= fun fl => match fl with
    | .exc x ρ' => if yes.contains x then .ok (evH h ρ') else if no.contains x then .ok (.exc x ρ') else .fail
    | f => .ok f
def evB : B → Env → Res Flow
  | .nil, ρ => .ok (.nx ρ)
  | .cons s b, ρ => (evS s ρ) >>= fun fl => match fl with
    | .nx ρ' => evB b ρ'
    | f => .ok f
  | .freeze i b, ρ => (ofO (getOwn ρ i)) >>= fun xs => evB b (setV ρ i (.lst xs))
  | .pair i j f es b, ρ => withE (evEs cf gl es ρ >>= fun l => cf f l) ρ fun d => (ofO (if i < ρ.length then pairOf d else none)) >>= fun p => evB b (setPrt (setOwn ρ j p.1) i p.2)
end
end

/-- what a def hands back: anything, always a list of its own, or a list whose first item is such a list -/
inductive Ow where | no | own | prt | chg (l : List Nat)
  deriving DecidableEq
def Ow.mu : Ow → List Nat
  | .chg l => l
  | _ => []
/-- a def: its parameters (true: only looked at), its slots, its body, whether what it hands back is always its own -/
structure FD where
  ps : List Bool
  ns : Nat
  body : B
  own : Ow
def startL (mu : List Nat) : Nat → List Bool → List D → Env
  | i, b :: bs, d :: ds => some (if mu.contains i then Fl.own else if b then Fl.bor else Fl.sh, d) :: startL mu (i + 1) bs ds
  | _, _, _ => []
def FD.start (f : FD) (ds : List D) : Env := startL f.own.mu 0 f.ps ds ++ List.replicate (f.ns - f.ps.length) none
def FD.run (f : FD) (cf : Nat → List D → Res D) (gl : Nat → Option D) (ds : List D) : Res D :=
  if ds.length = f.ps.length then (noExc (evB cf gl f.body (f.start ds))) >>= fun fl => match fl with
    | .ret d => .ok d
    | .nx ρ => (match f.own with
      | .chg l => ofO (handM l .non ρ)
      | _ => .ok .non)
    | .exc c _ => (match f.own with
      | .chg _ => .fail
      | _ => .exc c)
    | _ => .fail
  else .fail
def callF (T : Nat → Option FD) (gl : Nat → Option D) : Nat → Nat → List D → Res D
  | 0, _, _ => .fail
  | n + 1, f, ds => match T f with
    | some fd => fd.run (callF T gl n) gl ds
    | none => .fail
end Ev

/-! What stands for what: values over the abstract heap against plain data. -/
namespace Ev
open PySem PySem.Spec PyProof.Rows L2
open Evl (Ex)

theorem T_len (s : List Nat) : (T s).length = s.length := by simp [T, Str.length]
theorem T_cps (s : List Nat) : (T s).cps.toList = s := by simp [T]
theorem T_inj {s t : List Nat} (h : T s = T t) : s = t := by
  have := congrArg (fun x : Str => x.cps.toList) h
  simpa [T_cps] using this
theorem T_of (x : Str) : T x.cps.toList = x := by simp [T]
theorem T_app (s t : List Nat) : T s ++ T t = T (s ++ t) := by
  show Str.append _ _ = _
  simp [T, Str.append]

mutual
inductive Rep (K : PySem.W.Frag) (H : Hp) : V → D → Prop
  | non : Rep K H .non .non
  | bl (b : Bool) : Rep K H (.bl b) (.bl b)
  | int (i : Int) : Rep K H (.int i) (.int i)
  | str (s : List Nat) : s.length ≤ line → Rep K H (.str (T s)) (.str s)
  | tup {a : Addr} {vs : List V} {ds : List D} : SqT K H a vs → Reps K H vs ds → ds.length ≤ line → Rep K H (.ref a) (.tup ds)
  | lst {a : Addr} {vs : List V} {ds : List D} {o : Obj} : H a = some (.frz o (.lst vs)) → Reps K H vs ds → ds.length ≤ line → Rep K H (.ref a) (.lst ds)
inductive Reps (K : PySem.W.Frag) (H : Hp) : List V → List D → Prop
  | nil : Reps K H [] []
  | cons {v : V} {d : D} {vs : List V} {ds : List D} : Rep K H v d → Reps K H vs ds → Reps K H (v :: vs) (d :: ds)
end

/-- tuples and what is locked stand -/
def Pers (H H' : Hp) : Prop := (∀ a xs, H a = some (.tup xs) → H' a = some (.tup xs)) ∧ ∀ a o u, H a = some (.frz o u) → H' a = some (.frz o u)
theorem Pers.refl (H : Hp) : Pers H H := ⟨fun _ _ h => h, fun _ _ _ h => h⟩
theorem Pers.trans {H H1 H2 : Hp} (a : Pers H H1) (b : Pers H1 H2) : Pers H H2 := ⟨fun x xs h => b.1 x xs (a.1 x xs h), fun x o u h => b.2 x o u (a.2 x o u h)⟩
theorem Pers.of {H H' : Hp} (e : Ex H H') : Pers H H' := ⟨fun a xs h => e a _ h, fun a o u h => e a _ h⟩
theorem Pers.mut {H H' : Hp} {a : Addr} {xs : List V} {u : HO} (e : Pers H H') (h : H' a = some (.lst xs)) : Pers H (upd H' a u) := by
  refine ⟨fun b ys hb => ?_, fun b o w hb => ?_⟩
  · have := e.1 b ys hb
    rw [upd_ne (ne_of this h (by intro z; cases z))]; exact this
  · have := e.2 b o w hb
    rw [upd_ne (ne_of this h (by intro z; cases z))]; exact this
section
variable {K : PySem.W.Frag} {H H' : Hp}
theorem sqt_pers {a : Addr} {xs : List V} (p : Pers H H') (h : SqT K H a xs) : SqT K H' a xs := by
  rcases h with (h | ⟨o, h⟩) | h
  · exact .inl (.inl (p.1 a xs h))
  · exact .inl (.inr ⟨o, p.2 a o _ h⟩)
  · exact .inr h
mutual
theorem Rep.mono (p : Pers H H') : ∀ {v : V} {d : D}, Rep K H v d → Rep K H' v d
  | _, _, .non => .non
  | _, _, .bl b => .bl b
  | _, _, .int i => .int i
  | _, _, .str s h => .str s h
  | _, _, .tup h r z => .tup (sqt_pers p h) (Reps.mono p r) z
  | _, _, .lst h r z => .lst (p.2 _ _ _ h) (Reps.mono p r) z
theorem Reps.mono (p : Pers H H') : ∀ {vs : List V} {ds : List D}, Reps K H vs ds → Reps K H' vs ds
  | _, _, .nil => .nil
  | _, _, .cons h r => .cons (Rep.mono p h) (Reps.mono p r)
end
theorem Reps.length : ∀ {vs : List V} {ds : List D}, Reps K H vs ds → vs.length = ds.length
  | _, _, .nil => rfl
  | _, _, .cons _ r => congrArg Nat.succ (Reps.length r)
theorem Reps.get : ∀ {vs : List V} {ds : List D} {i : Nat} {d : D}, Reps K H vs ds → ds[i]? = some d → ∃ v, vs[i]? = some v ∧ Rep K H v d
  | _, _, _, _, .nil, e => by simp at e
  | _, _, 0, _, .cons h _, e => by simp at e; subst e; exact ⟨_, rfl, h⟩
  | _, _, i + 1, d, .cons _ r, e => by
    obtain ⟨v, h1, h2⟩ := Reps.get (i := i) (d := d) r (by simpa using e)
    exact ⟨v, by simpa using h1, h2⟩
theorem Reps.append : ∀ {vs ws : List V} {ds es : List D}, Reps K H vs ds → Reps K H ws es → Reps K H (vs ++ ws) (ds ++ es)
  | _, _, _, _, .nil, s => s
  | _, _, _, _, .cons h r, s => .cons h (Reps.append r s)
theorem Reps.take : ∀ {vs : List V} {ds : List D} (n : Nat), Reps K H vs ds → Reps K H (vs.take n) (ds.take n)
  | _, _, 0, _ => .nil
  | _, _, _ + 1, .nil => .nil
  | _, _, n + 1, .cons h r => .cons h (Reps.take n r)
theorem Reps.drop : ∀ {vs : List V} {ds : List D} (n : Nat), Reps K H vs ds → Reps K H (vs.drop n) (ds.drop n)
  | _, _, 0, r => r
  | _, _, _ + 1, .nil => .nil
  | _, _, n + 1, .cons _ r => Reps.drop n r
theorem Reps.set {v : V} {d : D} (h : Rep K H v d) : ∀ {vs : List V} {ds : List D} (i : Nat), Reps K H vs ds → Reps K H (vs.set i v) (ds.set i d)
  | _, _, _, .nil => .nil
  | _, _, 0, .cons _ r => .cons h r
  | _, _, i + 1, .cons q r => .cons q (Reps.set h i r)
theorem Reps.one {v : V} {d : D} (h : Rep K H v d) : Reps K H [v] [d] := .cons h .nil
theorem Reps.cut {vs : List V} {ds : List D} (lo hi : Option Int) (r : Reps K H vs ds) : Reps K H (cutV vs lo hi) (cut ds lo hi) := by
  unfold cutV Ev.cut
  rw [r.length]
  exact (r.drop _).take _
theorem Rep.int_inv {v : V} {i : Int} (h : Rep K H v (.int i)) : v = .int i := by cases h; rfl
theorem Rep.bl_inv {v : V} {b : Bool} (h : Rep K H v (.bl b)) : v = .bl b := by cases h; rfl
theorem Rep.non_inv {v : V} (h : Rep K H v .non) : v = .non := by cases h; rfl
theorem Rep.str_inv {v : V} {s : List Nat} (h : Rep K H v (.str s)) : v = .str (T s) ∧ s.length ≤ line := by cases h; exact ⟨rfl, by assumption⟩
end

/-- a list may stand unlocked: it is only looked at -/
def RepB (K : PySem.W.Frag) (H : Hp) (v : V) (d : D) : Prop := Rep K H v d ∨ ∃ a vs ds, v = .ref a ∧ d = .lst ds ∧ H a = some (.lst vs) ∧ Reps K H vs ds ∧ ds.length ≤ line
/-- a list is new (none at Hi), its own -/
def FRep (K : PySem.W.Frag) (Hi H : Hp) (v : V) (d : D) : Prop := match d with
  | .lst ds => ∃ a vs, v = .ref a ∧ Hi a = none ∧ H a = some (.lst vs) ∧ Reps K H vs ds ∧ ds.length ≤ line
  | _ => Rep K H v d
section
variable {K : PySem.W.Frag} {Hi H H' : Hp} {v : V} {d : D}
theorem RepB.mono (e : Ex H H') (h : RepB K H v d) : RepB K H' v d := by
  rcases h with h | ⟨a, vs, ds, rfl, rfl, h, r, z⟩
  · exact .inl (h.mono (.of e))
  · exact .inr ⟨a, vs, ds, rfl, rfl, e _ _ h, r.mono (.of e), z⟩
theorem FRep.b (h : FRep K Hi H v d) : RepB K H v d := by
  unfold FRep at h
  split at h
  · obtain ⟨a, vs, e, _, h, r⟩ := h
    exact .inr ⟨a, vs, _, e, rfl, h, r⟩
  · exact .inl h
theorem FRep.mono (e : Ex H H') (h : FRep K Hi H v d) : FRep K Hi H' v d := by
  unfold FRep at h ⊢
  split at h
  · obtain ⟨a, vs, e1, n, h, r, z⟩ := h
    exact ⟨a, vs, e1, n, e _ _ h, r.mono (.of e), z⟩
  · exact h.mono (.of e)
theorem FRep.back (e : Ex Hi H) (h : FRep K H H' v d) : FRep K Hi H' v d := by
  unfold FRep at h ⊢
  split at h
  · obtain ⟨a, vs, e1, n, h, r⟩ := h
    exact ⟨a, vs, e1, Evl.fresh_back e n, h, r⟩
  · exact h
theorem RepB.lst_inv {ds : List D} (h : RepB K H v (.lst ds)) : ∃ a vs, v = .ref a ∧ Rd H a (.lst vs) ∧ Reps K H vs ds := by
  rcases h with h | ⟨a, vs, ds', e, e2, h, r, _⟩
  · cases h with
    | lst h r => exact ⟨_, _, rfl, .inr ⟨_, h⟩, r⟩
  · cases e2
    exact ⟨a, vs, e, .inl h, r⟩
theorem RepB.len {ds : List D} (h : RepB K H v (.lst ds)) : ds.length ≤ line := by
  rcases h with h | ⟨a, vs, ds', e, e2, h, r, z⟩
  · cases h; assumption
  · cases e2; exact z
theorem RepB.lenT {ds : List D} (h : RepB K H v (.tup ds)) : ds.length ≤ line := by
  rcases h with h | ⟨a, vs, ds', e, e2, h, r, z⟩
  · cases h; assumption
  · cases e2
theorem RepB.tup_inv {ds : List D} (h : RepB K H v (.tup ds)) : ∃ a vs, v = .ref a ∧ SqT K H a vs ∧ Reps K H vs ds := by
  rcases h with h | ⟨a, vs, ds', e, e2, h, r⟩
  · cases h with
    | tup h r => exact ⟨_, _, rfl, h, r⟩
  · cases e2
theorem RepB.int_inv {i : Int} (h : RepB K H v (.int i)) : v = .int i := by
  rcases h with h | ⟨a, vs, ds', e, e2, h, r⟩
  · exact h.int_inv
  · cases e2
theorem RepB.bl_inv {b : Bool} (h : RepB K H v (.bl b)) : v = .bl b := by
  rcases h with h | ⟨a, vs, ds', e, e2, h, r⟩
  · exact h.bl_inv
  · cases e2
theorem RepB.non_inv (h : RepB K H v .non) : v = .non := by
  rcases h with h | ⟨a, vs, ds', e, e2, h, r⟩
  · exact h.non_inv
  · cases e2
theorem RepB.str_inv {s : List Nat} (h : RepB K H v (.str s)) : v = .str (T s) ∧ s.length ≤ line := by
  rcases h with h | ⟨a, vs, ds', e, e2, h, r⟩
  · exact h.str_inv
  · cases e2
end

/-! ### data for == -/
mutual
theorem py_plain : ∀ d : D, (D.py d).plain = true
  | .non | .bl _ | .int _ | .str _ => by simp [D.py, PyData.plain]
  | .tup xs | .lst xs => by simp [D.py, PyData.plain, py_plainL xs]
theorem py_plainL : ∀ ds : List D, PyData.plainAll (D.pyL ds) = true
  | [] => rfl
  | x :: xs => by simp [D.pyL, PyData.plainAll, py_plain x, py_plainL xs]
end
mutual
theorem py_depth : ∀ d : D, (D.py d).depth ≤ d.depth
  | .non | .bl _ | .int _ | .str _ => by simp [D.py, PyData.depth]
  | .tup xs | .lst xs => by simp [D.py, PyData.depth, D.depth, py_depthL xs]
theorem py_depthL : ∀ ds : List D, PyData.depthAll (D.pyL ds) ≤ D.depthL ds
  | [] => by simp [D.pyL, PyData.depthAll]
  | x :: xs => by
    show max (PyData.depth (D.py x)) (PyData.depthAll (D.pyL xs)) ≤ max (D.depth x) (D.depthL xs)
    have := py_depth x
    have := py_depthL xs
    omega
end
theorem T_beq (x y : List Nat) : (T x == T y) = (x == y) := by
  by_cases h : x = y
  · subst h; simp
  · have : T x ≠ T y := fun e => h (T_inj e)
    rw [beq_eq_false_iff_ne.mpr this, beq_eq_false_iff_ne.mpr h]
mutual
theorem py_eqv : ∀ d e : D, PyData.eqv (D.py d) (D.py e) = D.eqv d e
  | .non, e => by cases e <;> simp [D.py, PyData.eqv, D.eqv]
  | .bl b, e => by cases e <;> simp [D.py, PyData.eqv, D.eqv]
  | .int b, e => by cases e <;> simp [D.py, PyData.eqv, D.eqv]
  | .str b, e => by cases e <;> simp [D.py, PyData.eqv, D.eqv, T_beq]
  | .tup xs, e => by cases e <;> simp [D.py, PyData.eqv, D.eqv, py_eqvL xs]
  | .lst xs, e => by cases e <;> simp [D.py, PyData.eqv, D.eqv, py_eqvL xs]
theorem py_eqvL : ∀ ds es : List D, PyData.eqvAll (D.pyL ds) (D.pyL es) = D.eqvL ds es
  | [], [] => by simp [D.pyL, PyData.eqvAll, D.eqvL]
  | [], _ :: _ => by simp [D.pyL, PyData.eqvAll, D.eqvL]
  | _ :: _, [] => by simp [D.pyL, PyData.eqvAll, D.eqvL]
  | x :: xs, y :: ys => by simp [D.pyL, PyData.eqvAll, D.eqvL, py_eqv x y, py_eqvL xs ys]
end
mutual
theorem Rep.dp {K : PySem.W.Frag} {H : Hp} : ∀ {v : V} {d : D}, Rep K H v d → Dp K H v d.py
  | _, _, .non => by rw [D.py]; exact .non
  | _, _, .bl b => by rw [D.py]; exact .bl b
  | _, _, .int i => by rw [D.py]; exact .int i
  | _, _, .str s _ => by rw [D.py]; exact .str _
  | _, _, .tup h r _ => by rw [D.py]; exact .tup h (Reps.dp r)
  | _, _, .lst h r _ => by rw [D.py]; exact .lst (.inl (.inr ⟨_, h⟩)) (Reps.dp r)
theorem Reps.dp {K : PySem.W.Frag} {H : Hp} : ∀ {vs : List V} {ds : List D}, Reps K H vs ds → DpAll K H vs (D.pyL ds)
  | _, _, .nil => by rw [D.pyL]; exact .nil
  | _, _, .cons h r => by rw [D.pyL]; exact .cons (Rep.dp h) (Reps.dp r)
end
theorem RepB.dp {K : PySem.W.Frag} {H : Hp} {v : V} {d : D} (h : RepB K H v d) : Dp K H v d.py := by
  rcases h with h | ⟨a, vs, ds, rfl, rfl, h, r, _⟩
  · exact h.dp
  · rw [D.py]
    exact .lst (.inl (.inl h)) r.dp
end Ev

/-! Slots and readings. -/
namespace Ev
open PySem PySem.Spec
open PyProof.Rows hiding St
open L2
open Evl (Ex)

/-- what a slot's value is, by its flag -/
def SlotAt (K : PySem.W.Frag) (H0 : Hp) (Wr : List Addr) (H : Hp) (v : V) : Fl → D → Prop
  | .sh, d => Rep K H v d
  | .own, d => ∃ a vs ds, v = .ref a ∧ d = .lst ds ∧ H a = some (.lst vs) ∧ Reps K H vs ds ∧ (H0 a = none ∨ a ∈ Wr) ∧ ds.length ≤ line
  | .bor, d => RepB K H0 v d ∧ ∀ a, v = .ref a → a ∉ Wr
  | .prt, d => ∃ a o x vs ds, v = .ref a ∧ d = .lst (.non :: ds) ∧ H a = some (.frz o (.lst (x :: vs))) ∧ Reps K H vs ds ∧ ds.length < line
structure REnv (K : PySem.W.Frag) (H0 : Hp) (Wr : List Addr) (H : Hp) (σ : St) (ρ : Env) : Prop where
  len : σ.length = ρ.length
  at_ : ∀ (i : Nat) (f : Fl) (d : D), ρ[i]? = some (some (f, d)) → ∃ v, σ[i]? = some (some v) ∧ SlotAt K H0 Wr H v f d
  dist : ∀ (i j : Nat) (d d' : D), i ≠ j → ρ[i]? = some (some (.own, d)) → ρ[j]? = some (some (.own, d')) → σ[i]? ≠ σ[j]?
  gr : ∀ a o, H0 a = some o → a ∉ Wr → H a = some o
  wr : ∀ a, a ∈ Wr → ∃ xs, H0 a = some (.lst xs)
  wrH : ∀ a, a ∈ Wr → ∃ u, H a = some u
section
variable {K : PySem.W.Frag} {H0 H H' : Hp} {Wr : List Addr} {σ : St} {ρ : Env} {v : V} {d : D} {i : Nat}
theorem REnv.pers0 (R : REnv K H0 Wr H σ ρ) : Pers H0 H := by
  refine ⟨fun a xs h => R.gr a _ h fun hw => ?_, fun a o u h => R.gr a _ h fun hw => ?_⟩
  · obtain ⟨ys, e⟩ := R.wr a hw
    rw [e] at h; cases h
  · obtain ⟨ys, e⟩ := R.wr a hw
    rw [e] at h; cases h
theorem REnv.ex (R : REnv K H0 Wr H σ ρ) (e : Ex H H') : REnv K H0 Wr H' σ ρ := by
  refine ⟨R.len, fun i f d h => ?_, R.dist, fun a o h hw => e a o (R.gr a o h hw), R.wr, fun a h => ?_⟩
  · obtain ⟨v, hv, s⟩ := R.at_ i f d h
    refine ⟨v, hv, ?_⟩
    cases f with
    | sh => exact Rep.mono (.of e) s
    | own =>
      obtain ⟨a, vs, ds, e1, e2, h, r, w⟩ := s
      exact ⟨a, vs, ds, e1, e2, e a _ h, r.mono (.of e), w⟩
    | bor => exact s
    | prt =>
      obtain ⟨a, o, x, vs, ds, e1, e2, h, r, z⟩ := s
      exact ⟨a, o, x, vs, ds, e1, e2, e a _ h, r.mono (.of e), z⟩
  · obtain ⟨u, h⟩ := R.wrH a h
    exact ⟨u, e a u h⟩
theorem REnv.sh (R : REnv K H0 Wr H σ ρ) (h : getSh ρ i = some d) : ∃ v, σ[i]? = some (some v) ∧ Rep K H v d := by
  unfold getSh at h
  split at h
  · rename_i q
    cases h
    exact R.at_ i _ _ q
  · cases h
theorem REnv.any (R : REnv K H0 Wr H σ ρ) (h : getAny ρ i = some d) : ∃ v, σ[i]? = some (some v) ∧ RepB K H v d := by
  unfold getAny at h
  split at h
  · cases h
  · rename_i f d' nf q
    cases h
    obtain ⟨v, hv, s⟩ := R.at_ i _ _ q
    refine ⟨v, hv, ?_⟩
    cases f with
    | prt => exact (nf rfl).elim
    | sh => exact .inl s
    | own =>
      obtain ⟨a, vs, ds, e1, e2, h, r, w, z⟩ := s
      exact .inr ⟨a, vs, ds, e1, e2, h, r, z⟩
    | bor =>
      obtain ⟨s, nw⟩ := s
      rcases s with s | ⟨a, vs, ds, e1, e2, h, r, z⟩
      · exact .inl (s.mono R.pers0)
      · exact .inr ⟨a, vs, ds, e1, e2, R.gr a _ h (nw a e1), r.mono R.pers0, z⟩
  · cases h
theorem getOwn_some {xs : List D} (h : getOwn ρ i = some xs) : ρ[i]? = some (some (.own, .lst xs)) := by
  unfold getOwn at h
  split at h
  · rename_i q
    cases h
    exact q
  · cases h
theorem REnv.own {xs : List D} (R : REnv K H0 Wr H σ ρ) (h : getOwn ρ i = some xs) : ∃ a vs, σ[i]? = some (some (.ref a)) ∧ H a = some (.lst vs) ∧ Reps K H vs xs ∧ (H0 a = none ∨ a ∈ Wr) ∧ xs.length ≤ line := by
  obtain ⟨v, hv, s⟩ := R.at_ i _ _ (getOwn_some h)
  obtain ⟨a, vs, ds, e1, e2, h, r, w⟩ := s
  cases e2
  subst e1
  exact ⟨a, vs, hv, h, r, w⟩
theorem lt_of_get {α : Type} {l : List (Option α)} {x : α} {i : Nat} (h : l[i]? = some (some x)) : i < l.length := (List.getElem?_eq_some_iff.mp h).1
/-- a slot is stored -/
theorem REnv.setN {fl : Fl} (R : REnv K H0 Wr H σ ρ) (hf : fl ≠ .own) (h : SlotAt K H0 Wr H v fl d) : REnv K H0 Wr H (σ.set i (some v)) (ρ.set i (some (fl, d))) := by
  refine ⟨by simp [R.len], fun j f d' q => ?_, fun j k d1 d2 hjk q1 q2 => ?_, R.gr, R.wr, R.wrH⟩
  · by_cases hj : i = j
    · subst hj
      by_cases hi : i < ρ.length
      · rw [List.getElem?_set_self hi] at q
        cases q
        exact ⟨v, by rw [List.getElem?_set_self (by rw [R.len]; exact hi)], h⟩
      · rw [List.getElem?_eq_none (by simpa using hi)] at q; cases q
    · rw [List.getElem?_set_ne hj] at q
      obtain ⟨v', hv, s⟩ := R.at_ j f d' q
      exact ⟨v', by rw [List.getElem?_set_ne hj]; exact hv, s⟩
  · have hj : i ≠ j := fun e => by
      subst e
      by_cases hi : i < ρ.length
      · rw [List.getElem?_set_self hi] at q1; cases q1; exact hf rfl
      · rw [List.getElem?_eq_none (by simpa using hi)] at q1; cases q1
    have hk : i ≠ k := fun e => by
      subst e
      by_cases hi : i < ρ.length
      · rw [List.getElem?_set_self hi] at q2; cases q2; exact hf rfl
      · rw [List.getElem?_eq_none (by simpa using hi)] at q2; cases q2
    rw [List.getElem?_set_ne hj] at q1 ⊢
    rw [List.getElem?_set_ne hk] at q2 ⊢
    exact R.dist j k d1 d2 hjk q1 q2
theorem REnv.set (R : REnv K H0 Wr H σ ρ) (h : Rep K H v d) : REnv K H0 Wr H (σ.set i (some v)) (setV ρ i d) := R.setN (fl := .sh) (by decide) h
theorem REnv.setP {a : Addr} {o : Obj} {x : V} {vs : List V} {ds : List D} (R : REnv K H0 Wr H σ ρ) (h : H a = some (.frz o (.lst (x :: vs)))) (r : Reps K H vs ds) (z : ds.length < line) : REnv K H0 Wr H (σ.set i (some (.ref a))) (setPrt ρ i ds) :=
  R.setN (fl := .prt) (by decide) ⟨a, o, x, vs, ds, rfl, rfl, h, r, z⟩
theorem REnv.prt {k : Nat} (R : REnv K H0 Wr H σ ρ) (h : getPrt ρ i k = some d) : ∃ a o vs v, σ[i]? = some (some (.ref a)) ∧ H a = some (.frz o (.lst vs)) ∧ vs[k]? = some v ∧ vs.length ≤ line ∧ Rep K H v d := by
  unfold getPrt at h
  split at h
  · rename_i d0 ds q
    obtain ⟨v, hv, a, o, x, vs, ds', e1, e2, h1, r, z⟩ := R.at_ i _ _ q
    cases e2
    subst e1
    cases k with
    | zero => cases h
    | succ k =>
      obtain ⟨w, hw, rw'⟩ := r.get (show ds[k]? = some d from h)
      exact ⟨a, o, x :: vs, w, hv, h1, by simpa using hw, by rw [List.length_cons, r.length]; omega, rw'⟩
  · cases h
def setSs : List Nat → List V → L2.St → L2.St
  | i :: is, v :: vs, σ => setSs is vs (σ.set i (some v))
  | _, _, σ => σ
theorem REnv.setVs : ∀ {is : List Nat} {vs : List V} {ds : List D} {σ : St} {ρ : Env}, REnv K H0 Wr H σ ρ → Reps K H vs ds → REnv K H0 Wr H (setSs is vs σ) (Ev.setVs is ds ρ)
  | [], _, _, _, _, R, _ => by unfold setSs Ev.setVs; exact R
  | i :: is, _, _, _, _, R, .nil => R
  | i :: is, _, _, _, _, R, .cons h r => REnv.setVs (is := is) (R.set h) r
/-- a new list of its own is stored; Hi: the heap ahead -/
theorem REnv.setF {Hi : Hp} {xs : List D} (R : REnv K H0 Wr Hi σ ρ) (e : Ex Hi H) (h : FRep K Hi H v (.lst xs)) : REnv K H0 Wr H (σ.set i (some v)) (setOwn ρ i xs) := by
  obtain ⟨a, vs, e1, hn, ha, r, hz⟩ := h
  subst e1
  have R1 := R.ex e
  have nw : a ∉ Wr := fun hw => by
    obtain ⟨u, z⟩ := R.wrH a hw
    rw [hn] at z; cases z
  have n0 : H0 a = none := by
    cases q : H0 a with
    | none => rfl
    | some o =>
      have := R.gr a o q nw
      rw [hn] at this; cases this
  have ne : ∀ (j : Nat) (d' : D), ρ[j]? = some (some (.own, d')) → σ[j]? ≠ some (some (.ref a)) := fun j d' q z => by
    obtain ⟨v', hv, a', vs', ds', e1, e2, h', _⟩ := R.at_ j _ _ q
    rw [z] at hv
    cases hv
    cases e1
    rw [hn] at h'; cases h'
  unfold setOwn
  refine ⟨by simp [R.len], fun j f d' q => ?_, fun j k d1 d2 hjk q1 q2 => ?_, R1.gr, R1.wr, R1.wrH⟩
  · by_cases hj : i = j
    · subst hj
      by_cases hi : i < ρ.length
      · rw [List.getElem?_set_self hi] at q
        cases q
        exact ⟨.ref a, by rw [List.getElem?_set_self (by rw [R.len]; exact hi)], a, vs, xs, rfl, rfl, ha, r, .inl n0, hz⟩
      · rw [List.getElem?_eq_none (by simpa using hi)] at q; cases q
    · rw [List.getElem?_set_ne hj] at q
      obtain ⟨v', hv, s⟩ := R1.at_ j f d' q
      exact ⟨v', by rw [List.getElem?_set_ne hj]; exact hv, s⟩
  · by_cases hj : i = j
    · subst hj
      have hk : i ≠ k := hjk
      rw [List.getElem?_set_ne hk] at q2
      have hi : i < σ.length := by
        rw [R.len]
        have := (List.getElem?_eq_some_iff.mp q1).1
        simpa using this
      rw [List.getElem?_set_self hi, List.getElem?_set_ne hk]
      exact fun z => ne k d2 q2 z.symm
    · by_cases hk : i = k
      · subst hk
        rw [List.getElem?_set_ne hj] at q1
        have hi : i < σ.length := by
          rw [R.len]
          have := (List.getElem?_eq_some_iff.mp q2).1
          simpa using this
        rw [List.getElem?_set_self hi, List.getElem?_set_ne hj]
        exact ne j d1 q1
      · rw [List.getElem?_set_ne hj] at q1 ⊢
        rw [List.getElem?_set_ne hk] at q2 ⊢
        exact R1.dist j k d1 d2 hjk q1 q2
/-- one's own list is written -/
theorem REnv.write {a : Addr} {vs ws : List V} {xs ys : List D} (R : REnv K H0 Wr H σ ρ) (h : getOwn ρ i = some xs) (hs : σ[i]? = some (some (.ref a))) (ha : H a = some (.lst vs)) (r : Reps K H ws ys) (hz : ys.length ≤ line) :
    REnv K H0 Wr (upd H a (.lst ws)) σ (setOwn ρ i ys) ∧ Pers H (upd H a (.lst ws)) := by
  have q0 := getOwn_some h
  have P : Pers H (upd H a (.lst ws)) := (Pers.refl H).mut ha
  have w : H0 a = none ∨ a ∈ Wr := by
    obtain ⟨a', vs', hs', _, _, w, _⟩ := R.own h
    rw [hs] at hs'; cases hs'
    exact w
  have hi : i < ρ.length := lt_of_get q0
  refine ⟨⟨by unfold setOwn; simp [R.len], fun j f d' q => ?_, fun j k d1 d2 hjk q1 q2 => ?_, fun b o hb nb => ?_, R.wr, fun b hb => ?_⟩, P⟩
  · unfold setOwn at q
    by_cases hj : i = j
    · subst hj
      rw [List.getElem?_set_self hi] at q
      cases q
      exact ⟨.ref a, hs, a, ws, ys, rfl, rfl, upd_same, r.mono P, w, hz⟩
    · rw [List.getElem?_set_ne hj] at q
      obtain ⟨v', hv, s⟩ := R.at_ j f d' q
      refine ⟨v', hv, ?_⟩
      cases f with
      | sh => exact Rep.mono P s
      | own =>
        obtain ⟨b, vs', ds', e1, e2, h', r', w'⟩ := s
        have : b ≠ a := fun z => by
          subst z
          subst e1
          exact R.dist i j _ _ hj q0 q (hs.trans hv.symm)
        exact ⟨b, vs', ds', e1, e2, by rw [upd_ne this]; exact h', r'.mono P, w'⟩
      | bor => exact s
      | prt =>
        obtain ⟨b, o, x, vs', ds', e1, e2, h', r', z'⟩ := s
        exact ⟨b, o, x, vs', ds', e1, e2, P.2 _ _ _ h', r'.mono P, z'⟩
  · have own : ∀ (k : Nat) (d' : D), (setOwn ρ i ys)[k]? = some (some (.own, d')) → ∃ d'', ρ[k]? = some (some (.own, d'')) := fun k d' q => by
      unfold setOwn at q
      by_cases hk : i = k
      · subst hk; exact ⟨_, q0⟩
      · rw [List.getElem?_set_ne hk] at q; exact ⟨_, q⟩
    obtain ⟨_, q1⟩ := own j d1 q1
    obtain ⟨_, q2⟩ := own k d2 q2
    exact R.dist j k _ _ hjk q1 q2
  · have : b ≠ a := fun z => by
      subst z
      rcases w with w | w
      · rw [w] at hb; cases hb
      · exact nb w
    rw [upd_ne this]
    exact R.gr b o hb nb
  · by_cases z : b = a
    · subst z; exact ⟨_, upd_same⟩
    · obtain ⟨u, hu⟩ := R.wrH b hb
      exact ⟨u, by rw [upd_ne z]; exact hu⟩
/-- one's own list is locked from here on -/
theorem REnv.lock {a : Addr} {vs : List V} {xs : List D} {o : Obj} (R : REnv K H0 Wr H σ ρ) (h : getOwn ρ i = some xs) (hs : σ[i]? = some (some (.ref a))) (ha : H a = some (.lst vs)) (r : Reps K H vs xs) :
    REnv K H0 Wr (upd H a (.frz o (.lst vs))) σ (setV ρ i (.lst xs)) ∧ Pers H (upd H a (.frz o (.lst vs))) := by
  have q0 := getOwn_some h
  have P : Pers H (upd H a (.frz o (.lst vs))) := (Pers.refl H).mut ha
  have w : H0 a = none ∨ a ∈ Wr := by
    obtain ⟨a', vs', hs', _, _, w, _⟩ := R.own h
    rw [hs] at hs'; cases hs'
    exact w
  have hi : i < ρ.length := lt_of_get q0
  refine ⟨⟨by unfold setV; simp [R.len], fun j f d' q => ?_, fun j k d1 d2 hjk q1 q2 => ?_, fun b o hb nb => ?_, R.wr, fun b hb => ?_⟩, P⟩
  · unfold setV at q
    by_cases hj : i = j
    · subst hj
      rw [List.getElem?_set_self hi] at q
      cases q
      exact ⟨.ref a, hs, .lst upd_same (r.mono P) (R.own h).choose_spec.choose_spec.2.2.2.2⟩
    · rw [List.getElem?_set_ne hj] at q
      obtain ⟨v', hv, s⟩ := R.at_ j f d' q
      refine ⟨v', hv, ?_⟩
      cases f with
      | sh => exact Rep.mono P s
      | own =>
        obtain ⟨b, vs', ds', e1, e2, h', r', w'⟩ := s
        have : b ≠ a := fun z => by
          subst z
          subst e1
          exact R.dist i j _ _ hj q0 q (hs.trans hv.symm)
        exact ⟨b, vs', ds', e1, e2, by rw [upd_ne this]; exact h', r'.mono P, w'⟩
      | bor => exact s
      | prt =>
        obtain ⟨b, o, x, vs', ds', e1, e2, h', r', z'⟩ := s
        exact ⟨b, o, x, vs', ds', e1, e2, P.2 _ _ _ h', r'.mono P, z'⟩
  · have own : ∀ (k : Nat) (d' : D), (setV ρ i (.lst xs))[k]? = some (some (.own, d')) → ∃ d'', ρ[k]? = some (some (.own, d'')) := fun k d' q => by
      unfold setV at q
      by_cases hk : i = k
      · subst hk; exact ⟨_, q0⟩
      · rw [List.getElem?_set_ne hk] at q; exact ⟨_, q⟩
    obtain ⟨_, q1⟩ := own j d1 q1
    obtain ⟨_, q2⟩ := own k d2 q2
    exact R.dist j k _ _ hjk q1 q2
  · have : b ≠ a := fun z => by
      subst z
      rcases w with w | w
      · rw [w] at hb; cases hb
      · exact nb w
    rw [upd_ne this]
    exact R.gr b o hb nb
  · by_cases z : b = a
    · subst z; exact ⟨_, upd_same⟩
    · obtain ⟨u, hu⟩ := R.wrH b hb
      exact ⟨u, by rw [upd_ne z]; exact hu⟩
end

/-! ### readings -/
/-- what is wanted of an exception, by its number -/
abbrev WN := Nat → St → Hp → Prop
def Gd {α : Type} (W : WN) (σ : St) (H : Hp) (r : Res α) (P : α → Prop) : Prop := match r with
  | .ok a => P a
  | .exc c => ∀ H', Ex H H' → W c σ H'
  | .fail => False
section
variable {α β : Type} {W : WN} {σ : St} {H H' : Hp} {P P' : α → Prop}
theorem Gd.bind {r : Res α} {f : α → Res β} {P : β → Prop} (h : Gd W σ H (r >>= f) P) : Gd W σ H r fun a => Gd W σ H (f a) P := by
  cases r <;> exact h
theorem Gd.mono {r : Res α} (h : Gd W σ H r P) (m : ∀ a, P a → P' a) : Gd W σ H r P' := by
  cases r with
  | ok a => exact m a h
  | exc c => exact h
  | fail => exact h
theorem Gd.ex {r : Res α} (e : Ex H H') (h : Gd W σ H r P) : Gd W σ H' r P := by
  cases r with
  | ok a => exact h
  | exc c => exact fun H2 e2 => h H2 (e.trans e2)
  | fail => exact h
theorem Gd.o {o : Option α} (h : Gd W σ H (ofO o) P) : ∃ a, o = some a ∧ P a := by
  cases o with
  | none => exact h.elim
  | some a => exact ⟨a, rfl, h⟩
end
inductive Kd where | C | V | B
def RepK (k : Kd) (K : PySem.W.Frag) (Hi H : Hp) (v : V) (d : D) : Prop := match k with
  | .C => FRep K Hi H v d
  | .V => Rep K H v d
  | .B => RepB K H v d
theorem RepK.b {k : Kd} {K : PySem.W.Frag} {Hi H : Hp} {v : V} {d : D} (h : RepK k K Hi H v d) : RepB K H v d := by
  cases k with
  | C => exact FRep.b h
  | V => exact .inl h
  | B => exact h
/-- an expression's reading: Hs the slots stand for ρ, and what ρ gives is what follows wants -/
def rd (k : Kd) (K : PySem.W.Frag) (W : WN) (r : Env → Res D) : TE := fun σ H Q => ∃ H0 Wr ρ, REnv K H0 Wr H σ ρ ∧ Gd W σ H (r ρ) fun d => ∀ v H', Ex H H' → RepK k K H H' v d → Q v H'
def rdA (K : PySem.W.Frag) (W : WN) (r : Env → Res (List D)) (ok : List V → Hp → List D → Prop) : TA := fun σ H Q => ∃ H0 Wr ρ, REnv K H0 Wr H σ ρ ∧ Gd W σ H (r ρ) fun ds => ∀ vs H', Ex H H' → ok vs H' ds → Q vs H'
def rdT (K : PySem.W.Frag) (W : WN) (r : Env → Res Bool) : TT := fun σ H Q => ∃ H0 Wr ρ, REnv K H0 Wr H σ ρ ∧ Gd W σ H (r ρ) fun b => ∀ H', Ex H H' → Q b H'
section
variable {X : Cx} {e : Expr}
theorem pe_imp {t t' : TE} (h : PE X e t) (m : ∀ σ H Q, t' σ H Q → t σ H Q) : PE X e t' := ⟨fun pins s σ H Q I q => h.run pins s σ H Q I (m σ H Q q)⟩
theorem pt_imp {t t' : TT} (h : PT X e t) (m : ∀ σ H Q, t' σ H Q → t σ H Q) : PT X e t' := ⟨fun pins s σ H Q I q => h.run pins s σ H Q I (m σ H Q q)⟩
theorem pw_imp {t t' : TT} (h : PW X e t) (m : ∀ σ H Q, t' σ H Q → t σ H Q) : PW X e t' := ⟨fun wh pins s σ H Q I q => h.run wh pins s σ H Q I (m σ H Q q)⟩
theorem pa_imp {es : List Expr} {t t' : TA} (h : PA X es t) (m : ∀ σ H Q, t' σ H Q → t σ H Q) : PA X es t' := ⟨fun pos pins s σ H Q I q => h.run pos pins s σ H Q I (m σ H Q q)⟩
/-- a list just made may be locked -/
theorem pe_lk {t : TE} (h : PE X e t) : PE X e (fun σ H Q => t σ H fun v H' => (∃ a vs, v = .ref a ∧ H' a = some (.lst vs) ∧ ∀ o, Q v (upd H' a (.frz o (.lst vs)))) ∨ Q v H') := by
  refine ⟨fun pins s σ H Q I hw => thn (h.run pins s σ H _ I hw) fun u s1 ⟨v, H1, I1, r, q⟩ => ?_⟩
  rcases q with ⟨a, vs, rfl, ha, q⟩ | q
  · obtain ⟨od, I2⟩ := I1.lock ha trivial
    exact ⟨_, _, I2, r, q od⟩
  · exact ⟨v, H1, I1, r, q⟩
/-- so what is new is a value -/
theorem pe_val {K : PySem.W.Frag} {W : WN} {r : Env → Res D} (h : PE X e (rd .C K W r)) : PE X e (rd .V K W r) := by
  refine pe_imp (pe_lk h) fun σ H Q ⟨H0, Wr, ρ, R, g⟩ => ⟨H0, Wr, ρ, R, g.mono fun d q v H' ex f => ?_⟩
  cases d with
  | lst ds =>
    obtain ⟨a, vs, rfl, hn, ha, rr, hz⟩ := f
    refine .inl ⟨a, vs, rfl, ha, fun o => q _ _ (fun b u hb => ?_) (.lst upd_same (rr.mono ((Pers.refl _).mut ha)) hz)⟩
    rw [upd_ne (ne_of_none hb hn)]
    exact ex b u hb
  | _ => exact .inr (q v H' ex f)
theorem pe_b {K : PySem.W.Frag} {W : WN} {k : Kd} {r : Env → Res D} (h : PE X e (rd k K W r)) : PE X e (rd .B K W r) :=
  pe_imp h fun σ H Q ⟨H0, Wr, ρ, R, g⟩ => ⟨H0, Wr, ρ, R, g.mono fun d q v H' ex f => q v H' ex f.b⟩
end
end Ev

/-! The operations by values. -/
namespace Ev
open PySem PySem.Spec
open PyProof.Rows hiding St
open L2
open Evl (Ex)

theorem pow64 : (2 : Int) ^ 64 = 18446744073709551616 := by decide
def Bo.py : Bo → Operator
  | .add => .Add | .sub => .Sub | .mul => .Mult | .fdiv => .FloorDiv | .mod => .Mod | .pow => .Pow | .shl => .LShift
def Co.py : Co → CmpOp
  | .eq => .Eq | .ne => .NotEq | .lt => .Lt | .le => .LtE | .gt => .Gt | .ge => .GtE | .isin => .In | .notin => .NotIn
section
variable {X : Cx}
theorem rd_lst {pins : List (Addr × Obj)} {σ : St} {H : Hp} {s : Shared} {a : Addr} {xs : List V} (I : Inv X pins σ H s) (h : Rd H a (.lst xs)) :
    xs.length ≤ sizeLine ∧ ∃ (its : List Value) (n : Nat), Vals xs its ∧ xs.length = its.length ∧ s.heap.get? a = some { cls := .type "list", data := .seq its.toArray n } := by
  obtain ⟨z, its, n, r, e⟩ := h.ok I.hok
  exact ⟨z, its, n, r, r.length, e⟩
/-- a + b of lists, locked or not -/
theorem op_catR : OpR X (binaryOp .Add) (fun x y H Q => ∃ l b xs zs, x = .ref l ∧ y = .ref b ∧ Rd H l (.lst xs) ∧ Rd H b (.lst zs) ∧ xs.length + zs.length ≤ sizeLine ∧ ∀ p, H p = none → Q (.ref p) (upd H p (.lst (xs ++ zs)))) := by
  intro pins s σ H x y v u Q I rx ry h
  obtain ⟨l, b, xs, zs, rfl, rfl, hH, hB, hz, q⟩ := h
  cases rx
  cases ry
  obtain ⟨z, its, n, r, hl, e⟩ := rd_lst I hH
  obtain ⟨z2, its2, n2, r2, hl2, e2⟩ := rd_lst I hB
  refine PySem.P.add_list e e2 ?_ (by rw [List.size_toArray, List.size_toArray]; omega)
  have ea : its.toArray ++ its2.toArray = (its ++ its2).toArray := by simp
  rw [ea]
  exact ⟨.ref _, _, I.lnew (t' := s.toks) (r.append r2) (by rw [List.length_append]; omega), rfl, q _ I.fresh⟩
/-- a new object's place -/
theorem frep_lst {K : PySem.W.Frag} {H : Hp} {p : Addr} {vs : List V} {ds : List D} (hp : H p = none) (r : Reps K H vs ds) (z : ds.length ≤ line) : FRep K H (upd H p (.lst vs)) (.ref p) (.lst ds) :=
  ⟨p, vs, rfl, hp, upd_same, r.mono (.of (Ex.new hp)), z⟩
theorem rep_tup {K : PySem.W.Frag} {H : Hp} {p : Addr} {vs : List V} {ds : List D} (hp : H p = none) (r : Reps K H vs ds) (z : ds.length ≤ line) : Rep K (upd H p (.tup vs)) (.ref p) (.tup ds) :=
  .tup (.inl (.inl upd_same)) (r.mono (.of (Ex.new hp))) z
theorem rep_len {α : Type} (s : List α) : ∀ n : Nat, (List.replicate n s).flatten.length = n * s.length
  | 0 => by simp
  | n + 1 => by
    rw [List.replicate_succ, List.flatten_cons, List.length_append, rep_len s n, Nat.add_mul]
    omega
theorem reps_rep {K : PySem.W.Frag} {H : Hp} {vs : List V} {ds : List D} (r : Reps K H vs ds) : ∀ n : Nat, Reps K H (List.replicate n vs).flatten (List.replicate n ds).flatten
  | 0 => .nil
  | n + 1 => by
    rw [List.replicate_succ, List.replicate_succ, List.flatten_cons, List.flatten_cons]
    exact r.append (reps_rep r n)
theorem fold_rep (s : List Nat) : ∀ (n : Nat) (acc : List Nat), (List.replicate n s.toArray).foldl (· ++ ·) acc.toArray = (acc ++ (List.replicate n s).flatten).toArray
  | 0, acc => by simp
  | n + 1, acc => by
    rw [List.replicate_succ, List.foldl_cons, List.append_toArray, fold_rep s n, List.replicate_succ, List.flatten_cons, List.append_assoc]
theorem T_mul (s : List Nat) (i : Int) : PySem.Txt.mul (T s) i = T (List.replicate i.toNat s).flatten := by
  unfold PySem.Txt.mul
  by_cases h1 : i < 1
  · rw [if_pos h1, show i.toNat = 0 by omega]
    rfl
  · rw [if_neg h1]
    by_cases h2 : (i == 1 || (T s).length == 0) = true
    · rw [if_pos h2]
      rw [Bool.or_eq_true, beq_iff_eq, beq_iff_eq, T_len] at h2
      rcases h2 with h2 | h2
      · subst h2
        simp
      · have : s = [] := List.length_eq_zero_iff.mp h2
        subst this
        have : (List.replicate i.toNat ([] : List Nat)).flatten = [] := by
          rw [← List.length_eq_zero_iff, rep_len]
          simp
        rw [this]
    · rw [if_neg h2]
      have := fold_rep s i.toNat []
      rw [List.nil_append] at this
      unfold T
      rw [← this]
theorem mul_okT {s : List Nat} {i : Int} (h1 : -(line : Int) ≤ i) (h2 : i ≤ line) (h3 : s.length * i.toNat ≤ line) : PySem.MulOk (T s) i := by
  have lv : line = 16777216 := by decide
  refine mulOk_of (L := s.length) (N := i.toNat) (by rw [T_len]; exact Nat.le_refl _) (by omega) (by omega) (by omega) (by omega)
/-- a list times a number, locked or not -/
theorem op_repR : OpR X (binaryOp .Mult) (fun x y H Q => ∃ l k xs, x = .ref l ∧ y = .int k ∧ Rd H l (.lst xs) ∧ -(2 ^ 63) ≤ k ∧ k < 2 ^ 63 ∧ xs.length * k.toNat ≤ sizeLine ∧ ∀ p, H p = none → Q (.ref p) (upd H p (.lst (List.replicate k.toNat xs).flatten))) := by
  intro pins s σ H x y v u Q I rx ry h
  obtain ⟨l, k, xs, rfl, rfl, hH, h1, h2, hz, q⟩ := h
  cases rx
  obtain ⟨t, rfl⟩ := ry
  obtain ⟨z, its, n, r, hl, e⟩ := rd_lst I hH
  have hlen : its.toArray.size * k.toNat ≤ sizeLine := by rw [List.size_toArray, ← hl]; exact hz
  have hcap : ¬ its.toArray.size * k.toNat > (2 ^ 63 - 1) / 8 := by
    have : (sizeLine : Nat) ≤ (2 ^ 63 - 1) / 8 := by decide
    omega
  have hfit : ¬ (!Builtin.List.listFitsIndex k) = true := by
    rw [fitsIndex_both h1 h2]
    exact Bool.false_ne_true
  have hlong : ¬ Builtin.List.listTooLong (its.toArray.size * k.toNat) = true := by
    rw [notLongL hlen]
    exact Bool.false_ne_true
  have hnew : List.foldl (fun x1 x2 => x1 ++ x2) #[] (List.replicate (if its.toArray.isEmpty = true then 0 else k.toNat) its.toArray) = (List.replicate k.toNat its).flatten.toArray := by
    have f0 : ∀ m : Nat, List.foldl (fun x1 x2 => x1 ++ x2) #[] (List.replicate m its.toArray) = (List.replicate m its).flatten.toArray := fun m => by
      have := foldl_rep its m []
      rw [List.nil_append] at this
      exact this
    rw [f0]
    cases its with
    | nil => simp
    | cons a r' => rw [if_neg (by simp)]
  refine wpAny_binaryOp_repeat_ref (T := "list") (U := "int") (by decide) ⟨_, e, rfl⟩ (fun s' => typeIs_int s' k t) noFill_list_mul PySem.F.fills_int_mul PySem.F.slot_int_rmul repeat_list PySem.F.slot_int_index.lookup
    (call_meets PySem.F.slot_int_rmul (typeIs_int s k t) PySem.F.entry_int_rmul (PySem.F.args_int_rmul_2 _ _) (int___rmul___int_list k t l its.toArray n)
      ⟨e, rfl, ⟨_, e, rfl⟩, call_meets PySem.F.slot_list_mul ⟨_, e, rfl⟩ PySem.F.entry_list_mul (PySem.F.args_list_mul_2 _ _) (AutoListH.list___mul___list_int_3 l its.toArray n k t hfit hcap hlong) ⟨e, ?_⟩⟩)
  rw [hnew]
  exact ⟨.ref _, _, I.lnew (t' := s.toks) (r.rep k.toNat) (by rw [PyProof.Rows.lm_len_rep_flat, Nat.mul_comm]; exact hz), rfl, q _ I.fresh⟩
def rB (K : PySem.W.Frag) (o : Bo) : R2 := fun x y H Q => ∃ dx dy d, RepB K H x dx ∧ RepB K H y dy ∧ opB o dx dy = some d ∧ ∀ v H', Ex H H' → FRep K H H' v d → Q v H'
theorem op_B (o : Bo) : OpR X (binaryOp o.py) (rB X.K o) := by
  intro pins s σ H x y v u Q I rx ry ⟨dx, dy, d, hx, hy, e, q⟩
  have int2 : ∀ {r : R2} {i j : Int}, OpR X (binaryOp o.py) r → x = .int i → y = .int j → r (.int i) (.int j) H Q → wpAny (model X.prog X.w) X.A (binaryOp o.py v u) (EP X pins σ Q) X.xe s := fun ho e1 e2 h => by
    subst e1; subst e2
    exact ho pins s σ H _ _ v u Q I rx ry h
  cases o with
  | add =>
    cases dx <;> cases dy <;> simp only [opB, reduceCtorEq] at e
    · cases e
      exact int2 op_add hx.int_inv hy.int_inv ⟨_, _, rfl, rfl, q _ _ (Ex.refl H) (.int _)⟩
    · rename_i a b
      split at e <;> cases e
      rename_i hl
      obtain ⟨e1, l1⟩ := hx.str_inv
      obtain ⟨e2, l2⟩ := hy.str_inv
      subst e1; subst e2
      refine op_add_str pins s σ H _ _ v u Q I rx ry ⟨_, _, rfl, rfl, by rw [T_len, T_len]; exact hl, ?_⟩
      rw [T_app]
      exact q _ _ (Ex.refl H) (.str _ (by rw [List.length_append]; exact hl))
    · rename_i a b
      split at e <;> cases e
      rename_i hl
      obtain ⟨p, vs, e1, h1, r1⟩ := hx.tup_inv
      obtain ⟨p2, vs2, e2, h2, r2⟩ := hy.tup_inv
      subst e1; subst e2
      refine op_catA pins s σ H _ _ v u Q I rx ry ⟨_, _, _, _, rfl, rfl, h1, h2, by rw [r1.length, r2.length]; exact hl, fun z => ?_, fun _ z => ?_, fun _ _ p hp => ?_⟩
      · subst z
        have : a = [] := by have := r1.length; simpa using this.symm
        subst this
        exact q _ _ (Ex.refl H) (.tup h2 r2 hy.lenT)
      · subst z
        have : b = [] := by have := r2.length; simpa using this.symm
        subst this
        rw [List.append_nil] at q
        exact q _ _ (Ex.refl H) (.tup h1 r1 hx.lenT)
      · exact q _ _ (Ex.new hp) (rep_tup hp (r1.append r2) (by rw [List.length_append]; exact hl))
    · rename_i a b
      split at e <;> cases e
      rename_i hl
      obtain ⟨p, vs, e1, h1, r1⟩ := hx.lst_inv
      obtain ⟨p2, vs2, e2, h2, r2⟩ := hy.lst_inv
      subst e1; subst e2
      exact op_catR pins s σ H _ _ v u Q I rx ry ⟨_, _, _, _, rfl, rfl, h1, h2, by rw [r1.length, r2.length]; exact hl, fun p hp => q _ _ (Ex.new hp) (frep_lst hp (r1.append r2) (by rw [List.length_append]; exact hl))⟩
  | sub =>
    cases dx <;> cases dy <;> simp only [opB, reduceCtorEq] at e
    cases e
    exact int2 op_sub hx.int_inv hy.int_inv ⟨_, _, rfl, rfl, q _ _ (Ex.refl H) (.int _)⟩
  | mul =>
    cases dx <;> cases dy <;> simp only [opB, reduceCtorEq] at e
    · rename_i i j
      split at e <;> cases e
      rename_i hl
      refine int2 op_mul hx.int_inv hy.int_inv ⟨_, _, rfl, rfl, ?_, q _ _ (Ex.refl H) (.int _)⟩
      rcases hl with hl | hl
      · exact .inl (by rw [pow64]; omega)
      · exact .inr (by rw [pow64]; omega)
    · rename_i a i
      split at e <;> cases e
      rename_i hl
      obtain ⟨e1, l1⟩ := hx.str_inv
      have e2 := hy.int_inv
      subst e1; subst e2
      obtain ⟨t, rfl⟩ := rx
      obtain ⟨t2, rfl⟩ := ry
      refine PySem.SB.mul (mul_okT hl.1 hl.2.1 hl.2.2) fun t' k => ?_
      rw [T_mul]
      exact ⟨.str (T (List.replicate i.toNat a).flatten), H, I.tok k, ⟨t', rfl⟩, q _ _ (Ex.refl H) (.str _ (by rw [rep_len, Nat.mul_comm]; exact hl.2.2))⟩
    · rename_i a i
      split at e <;> cases e
      rename_i hl
      obtain ⟨p, vs, e1, h1, r1⟩ := hx.lst_inv
      have e2 := hy.int_inv
      subst e1; subst e2
      refine op_repR pins s σ H _ _ v u Q I rx ry ⟨_, _, _, rfl, rfl, h1, ?_, ?_, by rw [r1.length]; exact hl.2.2, fun p hp => q _ _ (Ex.new hp) (frep_lst hp (reps_rep r1 _) (by rw [rep_len, Nat.mul_comm]; exact hl.2.2))⟩
      · have := hl.1
        have lv : line = 16777216 := by decide
        omega
      · have := hl.2.1
        have lv : line = 16777216 := by decide
        omega
  | fdiv =>
    cases dx <;> cases dy <;> simp only [opB, reduceCtorEq] at e
    rename_i i j
    split at e <;> cases e
    rename_i hl
    exact int2 op_fdiv hx.int_inv hy.int_inv ⟨_, _, rfl, rfl, hl, q _ _ (Ex.refl H) (.int _)⟩
  | mod =>
    cases dx <;> cases dy <;> simp only [opB, reduceCtorEq] at e
    rename_i i j
    split at e <;> cases e
    rename_i hl
    exact int2 op_mod hx.int_inv hy.int_inv ⟨_, _, rfl, rfl, hl, q _ _ (Ex.refl H) (.int _)⟩
  | pow =>
    cases dx <;> cases dy <;> simp only [opB, reduceCtorEq] at e
    rename_i i j
    split at e <;> cases e
    rename_i hl
    exact int2 op_pow hx.int_inv hy.int_inv ⟨_, _, rfl, rfl, ⟨hl.1, by omega, hl.2.2⟩, q _ _ (Ex.refl H) (.int _)⟩
  | shl =>
    cases dx <;> cases dy <;> simp only [opB, reduceCtorEq] at e
    rename_i i j
    split at e <;> cases e
    rename_i hl
    exact int2 op_shl hx.int_inv hy.int_inv ⟨_, _, rfl, rfl, ⟨hl.1, by omega, hl.2.2⟩, q _ _ (Ex.refl H) (.int _)⟩

/-! ### comparisons -/
theorem room_min {A : Around} (hu : A.units + 160 < cLine) {d e : D} (h : min d.depth e.depth ≤ eqDeep) : A.units + min d.py.depth e.py.depth < cLine := by
  have := py_depth d
  have := py_depth e
  unfold eqDeep at h
  omega
theorem pyL_any (x : D) : ∀ ds : List D, ((D.pyL ds).any fun y => PyData.eqv y x.py) = isIn x ds
  | [] => rfl
  | d :: ds => by
    show (PyData.eqv d.py x.py || (D.pyL ds).any fun y => PyData.eqv y x.py) = (D.eqv d x || isIn x ds)
    rw [py_eqv, pyL_any x ds]
def rC (K : PySem.W.Frag) (o : Co) : R2 := fun x y H Q => ∃ dx dy k, RepB K H x dx ∧ RepB K H y dy ∧ opC o dx dy = some k ∧ Q (.bl k) H
theorem op_C (hu : X.A.units + 160 < cLine) (o : Co) : OpR X (compareOp o.py) (rC X.K o) := by
  intro pins s σ H x y v u Q I rx ry ⟨dx, dy, k, hx, hy, e, q⟩
  have int2 : ∀ {r : R2} {i j : Int}, OpR X (compareOp o.py) r → x = .int i → y = .int j → r (.int i) (.int j) H Q → wpAny (model X.prog X.w) X.A (compareOp o.py v u) (EP X pins σ Q) X.xe s := fun ho e1 e2 h => by
    subst e1; subst e2
    exact ho pins s σ H _ _ v u Q I rx ry h
  obtain ⟨as, r1⟩ := Dp.reads I _ x v hx.dp rx
  obtain ⟨bs, r2⟩ := Dp.reads I _ y u hy.dp ry
  cases o with
  | eq =>
    simp only [opC, opEq] at e
    split at e <;> cases e
    rename_i hl
    rw [← py_eqv] at q
    exact SeqAt.eq_plain r1 r2 (py_plain _) (py_plain _) (room_min hu hl) ⟨.bl _, H, I, rfl, q⟩
  | ne =>
    simp only [opC, opEq] at e
    split at e <;> cases e
    rename_i hl
    rw [← py_eqv] at q
    exact SeqAt.ne_plain r1 r2 (py_plain _) (py_plain _) (room_min hu hl) ⟨.bl _, H, I, rfl, q⟩
  | lt =>
    cases dx <;> cases dy <;> simp only [opC, reduceCtorEq] at e
    cases e
    exact int2 op_lt hx.int_inv hy.int_inv ⟨_, _, rfl, rfl, q⟩
  | le =>
    cases dx <;> cases dy <;> simp only [opC, reduceCtorEq] at e
    cases e
    exact int2 op_le hx.int_inv hy.int_inv ⟨_, _, rfl, rfl, q⟩
  | gt =>
    cases dx <;> cases dy <;> simp only [opC, reduceCtorEq] at e
    cases e
    exact int2 op_gt hx.int_inv hy.int_inv ⟨_, _, rfl, rfl, q⟩
  | ge =>
    cases dx <;> cases dy <;> simp only [opC, reduceCtorEq] at e
    cases e
    exact int2 op_ge hx.int_inv hy.int_inv ⟨_, _, rfl, rfl, q⟩
  | isin =>
    cases dy with
    | lst xs =>
      simp only [opC, opIn] at e
      split at e <;> cases e
      rename_i hl
      rw [D.py] at r2
      rw [← pyL_any] at q
      have := py_depth dx
      unfold eqDeep at hl
      exact SeqAt.in_list_data r2 r1 (py_plainL _) (py_plain _) (by omega) ⟨.bl _, H, I, rfl, q⟩
    | tup xs =>
      simp only [opC, opIn] at e
      split at e <;> cases e
      rename_i hl
      rw [D.py] at r2
      rw [← pyL_any] at q
      have := py_depth dx
      unfold eqDeep at hl
      exact SeqAt.in_tuple_data r2 r1 (py_plainL _) (py_plain _) (by omega) ⟨.bl _, H, I, rfl, q⟩
    | str t =>
      obtain ⟨e2, _⟩ := hy.str_inv
      subst e2
      simp only [opC, opIn] at e
      split at e
      · cases e
        obtain ⟨e1, _⟩ := hx.str_inv
        subst e1
        refine op_in_sign pins s σ H _ _ v u Q I rx ry ⟨_, _, rfl, rfl, ?_⟩
        rw [T_cps, ← List.contains_eq_mem]
        exact q
      · cases e
    | _ => simp [opC, opIn] at e
  | notin =>
    cases dy with
    | lst xs =>
      simp only [opC, opIn] at e
      split at e <;> cases e
      rename_i hl
      rw [D.py] at r2
      rw [← pyL_any] at q
      have := py_depth dx
      unfold eqDeep at hl
      exact SeqAt.notIn_list_data r2 r1 (py_plainL _) (py_plain _) (by omega) ⟨.bl _, H, I, rfl, q⟩
    | tup xs =>
      simp only [opC, opIn] at e
      split at e <;> cases e
      rename_i hl
      rw [D.py] at r2
      rw [← pyL_any] at q
      have := py_depth dx
      unfold eqDeep at hl
      exact SeqAt.notIn_tuple_data r2 r1 (py_plainL _) (py_plain _) (by omega) ⟨.bl _, H, I, rfl, q⟩
    | str t =>
      obtain ⟨e2, _⟩ := hy.str_inv
      subst e2
      simp only [opC, opIn] at e
      split at e
      · cases e
        obtain ⟨e1, _⟩ := hx.str_inv
        subst e1
        refine op_notIn_sign pins s σ H _ _ v u Q I rx ry ⟨_, _, rfl, rfl, ?_⟩
        rw [T_cps, ← List.contains_eq_mem]
        exact q
      · cases e
    | _ => simp [opC, opIn] at e

/-! ### items, slices -/
theorem atI_reps {K : PySem.W.Frag} {H : Hp} {vs : List V} {ds : List D} {i : Int} {d : D} (r : Reps K H vs ds) (e : ((ixN ds.length i).bind fun j => ds[j]?) = some d) : ∃ v, atI vs i = some v ∧ Rep K H v d := by
  unfold atI
  rw [r.length]
  cases q : L2.ixN ds.length i with
  | none => rw [show ixN ds.length i = none from q] at e; cases e
  | some j =>
    rw [show ixN ds.length i = some j from q] at e
    obtain ⟨v, h1, h2⟩ := r.get (show ds[j]? = some d from e)
    exact ⟨v, h1, h2⟩
def rX (K : PySem.W.Frag) : R2 := fun x y H Q => ∃ dx dy d, RepB K H x dx ∧ RepB K H y dy ∧ opIx dx dy = some d ∧ ∀ v, Rep K H v d → Q v H
theorem ix_X : IxR X (rX X.K) := by
  intro vl sl pins s σ H x y v u Q I rx ry ⟨dx, dy, d, hx, hy, e, q⟩ hs
  cases dx <;> cases dy <;> simp only [opIx, reduceCtorEq] at e
  · rename_i xs i
    obtain ⟨e1, l1⟩ := hx.str_inv
    have e2 := hy.int_inv
    subst e1; subst e2
    cases q0 : (ixN xs.length i).bind fun j => xs[j]? with
    | none => rw [q0] at e; cases e
    | some c =>
      rw [q0] at e
      cases e
      refine ix_str vl sl pins s σ H _ _ v u Q I rx ry ⟨_, _, c, rfl, rfl, by rw [T_len]; exact l1, ?_, q _ (.str [c] (by show 1 ≤ line; decide))⟩ hs
      rw [T_cps]
      exact q0
  · rename_i xs i
    obtain ⟨p, vs, e1, h1, r1⟩ := hx.tup_inv
    have e2 := hy.int_inv
    subst e1; subst e2
    obtain ⟨w, h2, h3⟩ := atI_reps r1 e
    exact ix_tup vl sl pins s σ H _ _ v u Q I rx ry ⟨_, _, _, _, rfl, rfl, h1, h2, q _ h3⟩ hs
  · rename_i xs i
    obtain ⟨p, vs, e1, h1, r1⟩ := hx.lst_inv
    have e2 := hy.int_inv
    subst e1; subst e2
    obtain ⟨w, h2, h3⟩ := atI_reps r1 e
    exact ix_list vl sl pins s σ H _ _ v u Q I rx ry ⟨_, _, _, _, rfl, rfl, .inl h1, h2, q _ h3⟩ hs
theorem cut_length {α : Type} (xs : List α) (lo hi : Option Int) : (cut xs lo hi).length ≤ xs.length := by
  unfold cut
  rw [List.length_take, List.length_drop]
  omega
theorem cut_whole {α : Type} {xs : List α} {lo hi : Option Int} (h1 : HT.sIx xs.length 0 lo = 0) (h2 : HT.sIx xs.length xs.length hi = xs.length) : cut xs lo hi = xs := by
  unfold cut
  rw [h1, h2]
  simp
def rS (K : PySem.W.Frag) : V → Option Int → Option Int → Hp → VK → Prop := fun x lo hi H Q => ∃ dx d, RepB K H x dx ∧ opSl dx lo hi = some d ∧ ∀ v H', Ex H H' → FRep K H H' v d → Q v H'
theorem sl_S : SlR X (rS X.K) := by
  intro pins s σ H x v vl vu lo hi sl Q I rx hs pl pu ⟨dx, d, hx, e, q⟩
  cases dx <;> simp only [opSl, reduceCtorEq] at e <;> cases e
  · rename_i xs
    obtain ⟨e1, l1⟩ := hx.str_inv
    subst e1
    refine sl_str pins s σ H _ v vl vu lo hi sl Q I rx hs pl pu ⟨_, rfl, by rw [T_len]; exact l1, ?_⟩
    have : cutS (T xs) lo hi = T (cut xs lo hi) := by
      unfold cutS cut
      rw [T_cps, T_len]
      rfl
    rw [this]
    exact q _ _ (Ex.refl H) (.str _ (Nat.le_trans (cut_length ..) l1))
  · rename_i xs
    obtain ⟨p, vs, e1, h1, r1⟩ := hx.tup_inv
    subst e1
    refine sl_tupA pins s σ H _ v vl vu lo hi sl Q I rx hs pl pu ⟨_, _, rfl, h1, fun ⟨z1, z2⟩ => ?_, fun _ p hp => q _ _ (Ex.new hp) (rep_tup hp (r1.cut lo hi) (Nat.le_trans (cut_length ..) hx.lenT))⟩
    rw [r1.length] at z1 z2
    rw [cut_whole z1 z2] at q
    exact q _ _ (Ex.refl H) (.tup h1 r1 hx.lenT)
  · rename_i xs
    obtain ⟨p, vs, e1, h1, r1⟩ := hx.lst_inv
    subst e1
    exact sl_list pins s σ H _ v vl vu lo hi sl Q I rx hs pl pu ⟨_, _, rfl, .inl h1, fun p hp => q _ _ (Ex.new hp) (frep_lst hp (r1.cut lo hi) (Nat.le_trans (cut_length ..) hx.len))⟩
end
end Ev

/-! Built-ins and methods by values. -/
namespace Ev
open PySem PySem.Spec
open PyProof.Rows hiding St
open L2
open Evl (Ex)

inductive RepBs (K : PySem.W.Frag) (H : Hp) : List V → List D → Prop
  | nil : RepBs K H [] []
  | cons {v : V} {d : D} {vs : List V} {ds : List D} : RepB K H v d → RepBs K H vs ds → RepBs K H (v :: vs) (d :: ds)
theorem RepBs.mono {K : PySem.W.Frag} {H H' : Hp} (e : Ex H H') : ∀ {vs : List V} {ds : List D}, RepBs K H vs ds → RepBs K H' vs ds
  | _, _, .nil => .nil
  | _, _, .cons h r => .cons (h.mono e) (RepBs.mono e r)
theorem RepBs.one {K : PySem.W.Frag} {H : Hp} {vs : List V} {d : D} (h : RepBs K H vs [d]) : ∃ v, vs = [v] ∧ RepB K H v d := by
  cases h with
  | cons h r => cases r; exact ⟨_, rfl, h⟩
theorem RepBs.two {K : PySem.W.Frag} {H : Hp} {vs : List V} {d e : D} (h : RepBs K H vs [d, e]) : ∃ v u, vs = [v, u] ∧ RepB K H v d ∧ RepB K H u e := by
  cases h with
  | cons h r =>
    obtain ⟨u, rfl, r2⟩ := r.one
    exact ⟨_, u, rfl, h, r2⟩
theorem RepBs.three {K : PySem.W.Frag} {H : Hp} {vs : List V} {d e f : D} (h : RepBs K H vs [d, e, f]) : ∃ v u w, vs = [v, u, w] ∧ RepB K H v d ∧ RepB K H u e ∧ RepB K H w f := by
  cases h with
  | cons h r =>
    obtain ⟨u, w, rfl, r2, r3⟩ := r.two
    exact ⟨_, u, w, rfl, h, r2, r3⟩

def Bf.py : Bf → Str × Value
  | .len => ("len", .builtin "len") | .int => ("int", .type "int") | .str => ("str", .type "str") | .tuple => ("tuple", .type "tuple") | .list => ("list", .type "list")
  | .sum => ("sum", .builtin "sum") | .all => ("all", .builtin "all") | .any => ("any", .builtin "any") | .max2 => ("max", .builtin "max") | .min2 => ("min", .builtin "min")
  | .isInt => ("int", .type "int") | .isBool => ("bool", .type "bool") | .isStr => ("str", .type "str") | .isTuple => ("tuple", .type "tuple") | .sortedSet => ("set", .type "set") | .sorted => ("sorted", .builtin "sorted")

theorem reps_bools {K : PySem.W.Frag} {H : Hp} : ∀ {vs : List V} {ds : List D} {l : List Bool}, Reps K H vs ds → dBools ds = some l → vs = l.map V.bl
  | _, [], _, .nil, e => by cases e; rfl
  | _, d :: ds, l, .cons h r, e => by
    cases d <;> simp only [dBools, reduceCtorEq] at e
    cases q : dBools ds with
    | none => rw [q] at e; cases e
    | some l' =>
      rw [q] at e
      cases e
      rw [h.bl_inv, reps_bools r q]
      rfl
theorem reps_ints {K : PySem.W.Frag} {H : Hp} : ∀ {vs : List V} {ds : List D} {l : List Int}, Reps K H vs ds → dInts ds = some l → vs = l.map V.int
  | _, [], _, .nil, e => by cases e; rfl
  | _, d :: ds, l, .cons h r, e => by
    cases d <;> simp only [dInts, reduceCtorEq] at e
    cases q : dInts ds with
    | none => rw [q] at e; cases e
    | some l' =>
      rw [q] at e
      cases e
      rw [h.int_inv, reps_ints r q]
      rfl
theorem reps_texts {K : PySem.W.Frag} {H : Hp} : ∀ {vs : List V} {ds : List D} {l : List (List Nat)}, Reps K H vs ds → dTexts ds = some l → vs = (l.map T).map V.str
  | _, [], _, .nil, e => by cases e; rfl
  | _, d :: ds, l, .cons h r, e => by
    cases d <;> simp only [dTexts, reduceCtorEq] at e
    cases q : dTexts ds with
    | none => rw [q] at e; cases e
    | some l' =>
      rw [q] at e
      cases e
      rw [h.str_inv.1, reps_texts r q]
      rfl
theorem T_ofString (s : String) : PySem.Str.ofString s = T (codes s) := PySem.Str.ofString_eq_toList s
theorem log_lt {i : Int} (h : i.natAbs < 2 ^ 64) : i.natAbs.log2 < 1920 := by
  by_cases z : i.natAbs = 0
  · rw [z]; decide
  · have := (Nat.log2_lt z).mpr h
    omega
theorem kinds : ∀ a ∈ ["NoneType", "bool", "int", "str", "tuple"], ∀ b ∈ ["int", "bool", "str", "tuple"], kitB a b = some (a == b || (a == "bool" && b == "int")) := by decide +kernel

def kName : Nat → String
  | 0 => "NoneType" | 1 => "bool" | 2 => "int" | 3 => "str" | _ => "tuple"
theorem ty_of {K : PySem.W.Frag} {H : Hp} {v : V} {d : D} {k : Nat} (h : RepB K H v d) (e : kindOf d = some k) : TyX K H v (.type (kName k)) := by
  cases d <;> simp only [kindOf, reduceCtorEq] at e <;> cases e
  · rw [h.non_inv]; exact .base .non
  · rw [h.bl_inv]; exact .base (.bl _)
  · rw [h.int_inv]; exact .base (.int _)
  · rw [h.str_inv.1]; exact .base (.str _)
  · obtain ⟨a, vs, rfl, h, _⟩ := h.tup_inv
    rcases h with (h | ⟨o, h⟩) | ⟨o, its, n, h, hc, _⟩
    · exact .base (.tup h)
    · exact .fTuple h
    · exact .kTuple h hc
section
variable {X : Cx}
/-- what a built-in gives -/
def rF (K : PySem.W.Frag) (b : Bf) : List V → Hp → VK → Prop := fun vs H Q => ∃ ds d, RepBs K H vs ds ∧ opF b ds = some d ∧ ∀ v H', Ex H H' → FRep K H H' v d → Q v H'
theorem frep_tup {K : PySem.W.Frag} {H : Hp} {p : Addr} {vs : List V} {ds : List D} (hp : H p = none) (r : Reps K H vs ds) (z : ds.length ≤ line) : FRep K H (upd H p (.tup vs)) (.ref p) (.tup ds) := rep_tup hp r z
theorem call_len_ : CallR X (.builtin "len") (rF X.K .len) := by
  intro pins s σ H xs us Q I r ⟨ds, d, h, e, q⟩
  match ds, e with
  | [.lst ys], e =>
    cases e
    obtain ⟨v, rfl, hv⟩ := h.one
    obtain ⟨a, vs, rfl, ha, rr⟩ := hv.lst_inv
    refine call_len_seq pins s σ H _ us Q I r ⟨a, vs, rfl, .inl (.inl ha), ?_⟩
    rw [rr.length]
    exact q _ _ (Ex.refl H) (.int _)
  | [.tup ys], e =>
    cases e
    obtain ⟨v, rfl, hv⟩ := h.one
    obtain ⟨a, vs, rfl, ha, rr⟩ := hv.tup_inv
    refine call_len_seq pins s σ H _ us Q I r ⟨a, vs, rfl, .inr ha, ?_⟩
    rw [rr.length]
    exact q _ _ (Ex.refl H) (.int _)
  | [.str ys], e =>
    cases e
    obtain ⟨v, rfl, hv⟩ := h.one
    obtain ⟨rfl, hl⟩ := hv.str_inv
    refine call_len_str pins s σ H _ us Q I r ⟨_, rfl, by rw [T_len]; exact hl, ?_⟩
    rw [T_len]
    exact q _ _ (Ex.refl H) (.int _)
  | [.non], e | [.bl _], e | [.int _], e => simp [opF] at e
  | [], e => simp [opF] at e
  | _ :: _ :: _, e => simp [opF] at e
theorem call_int_ : CallR X (.type "int") (rF X.K .int) := by
  intro pins s σ H xs us Q I r ⟨ds, d, h, e, q⟩
  match ds, e with
  | [.int i], e =>
    cases e
    obtain ⟨v, rfl, hv⟩ := h.one
    obtain rfl := hv.int_inv
    exact call_int1 pins s σ H _ us Q I r (.inl ⟨_, rfl, q _ _ (Ex.refl H) (.int _)⟩)
  | [.bl b], e =>
    cases e
    obtain ⟨v, rfl, hv⟩ := h.one
    obtain rfl := hv.bl_inv
    exact call_int1 pins s σ H _ us Q I r (.inr ⟨_, rfl, q _ _ (Ex.refl H) (.int _)⟩)
  | [.non], e | [.str _], e | [.tup _], e | [.lst _], e => simp [opF] at e
  | [], e => simp [opF] at e
  | _ :: _ :: _, e => simp [opF] at e
theorem call_str_ : CallR X (.type "str") (rF X.K .str) := by
  intro pins s σ H xs us Q I r ⟨ds, d, h, e, q⟩
  match ds, e with
  | [.int i], e =>
    simp only [opF] at e
    split at e <;> cases e
    rename_i hl
    obtain ⟨v, rfl, hv⟩ := h.one
    obtain rfl := hv.int_inv
    refine call_str_int pins s σ H _ us Q I r ⟨_, rfl, log_lt hl.1, ?_⟩
    rw [T_ofString]
    exact q _ _ (Ex.refl H) (.str _ hl.2)
  | [.non], e | [.bl _], e | [.str _], e | [.tup _], e | [.lst _], e => simp [opF] at e
  | [], e => simp [opF] at e
  | _ :: _ :: _, e => simp [opF] at e
theorem call_tuple_ : CallR X (.type "tuple") (rF X.K .tuple) := by
  intro pins s σ H xs us Q I r ⟨ds, d, h, e, q⟩
  match ds, e with
  | [.lst ys], e =>
    cases e
    obtain ⟨v, rfl, hv⟩ := h.one
    obtain ⟨a, vs, rfl, ha, rr⟩ := hv.lst_inv
    exact call_tuple_of pins s σ H _ us Q I r ⟨a, vs, rfl, .inl ⟨.inl ha, fun l hl => q _ _ (Ex.new hl) (frep_tup hl rr hv.len)⟩⟩
  | [.tup ys], e =>
    cases e
    obtain ⟨v, rfl, hv⟩ := h.one
    obtain ⟨a, vs, rfl, ha, rr⟩ := hv.tup_inv
    exact call_tuple_of pins s σ H _ us Q I r ⟨a, vs, rfl, .inr ⟨ha, q _ _ (Ex.refl H) (.tup ha rr hv.lenT)⟩⟩
  | [.non], e | [.bl _], e | [.int _], e | [.str _], e => simp [opF] at e
  | [], e => simp [opF] at e
  | _ :: _ :: _, e => simp [opF] at e
theorem call_list_ : CallR X (.type "list") (rF X.K .list) := by
  intro pins s σ H xs us Q I r ⟨ds, d, h, e, q⟩
  match ds, e with
  | [.lst ys], e =>
    cases e
    obtain ⟨v, rfl, hv⟩ := h.one
    obtain ⟨a, vs, rfl, ha, rr⟩ := hv.lst_inv
    exact call_list_of pins s σ H _ us Q I r ⟨a, vs, rfl, .inl (.inl ha), fun l hl => q _ _ (Ex.new hl) (frep_lst hl rr hv.len)⟩
  | [.tup ys], e =>
    cases e
    obtain ⟨v, rfl, hv⟩ := h.one
    obtain ⟨a, vs, rfl, ha, rr⟩ := hv.tup_inv
    exact call_list_of pins s σ H _ us Q I r ⟨a, vs, rfl, .inr ha, fun l hl => q _ _ (Ex.new hl) (frep_lst hl rr hv.lenT)⟩
  | [.non], e | [.bl _], e | [.int _], e | [.str _], e => simp [opF] at e
  | [], e => simp [opF] at e
  | _ :: _ :: _, e => simp [opF] at e
theorem call_sum_ (hc : X.calm = true) : CallR X (.builtin "sum") (rF X.K .sum) := by
  intro pins s σ H xs us Q I r ⟨ds, d, h, e, q⟩
  match ds, e with
  | [.lst ys], e =>
    simp only [opF] at e
    cases q0 : dInts ys with
    | none => rw [q0] at e; cases e
    | some l =>
      rw [q0] at e; cases e
      obtain ⟨v, rfl, hv⟩ := h.one
      obtain ⟨a, vs, rfl, ha, rr⟩ := hv.lst_inv
      rw [reps_ints rr q0] at ha
      exact cr_sum hc pins s σ H _ us Q I r ⟨a, l, rfl, .inl ha, q _ _ (Ex.refl H) (.int _)⟩
  | [.non], e | [.bl _], e | [.int _], e | [.str _], e | [.tup _], e => simp [opF] at e
  | [], e => simp [opF] at e
  | _ :: _ :: _, e => simp [opF] at e
theorem call_all_ (hc : X.calm = true) : CallR X (.builtin "all") (rF X.K .all) := by
  intro pins s σ H xs us Q I r ⟨ds, d, h, e, q⟩
  match ds, e with
  | [.lst ys], e =>
    simp only [opF] at e
    cases q0 : dBools ys with
    | none => rw [q0] at e; cases e
    | some l =>
      rw [q0] at e; cases e
      obtain ⟨v, rfl, hv⟩ := h.one
      obtain ⟨a, vs, rfl, ha, rr⟩ := hv.lst_inv
      rw [reps_bools rr q0] at ha
      exact cr_all hc pins s σ H _ us Q I r ⟨a, l, rfl, .inl ha, q _ _ (Ex.refl H) (.bl _)⟩
  | [.non], e | [.bl _], e | [.int _], e | [.str _], e | [.tup _], e => simp [opF] at e
  | [], e => simp [opF] at e
  | _ :: _ :: _, e => simp [opF] at e
theorem call_any_ (hc : X.calm = true) : CallR X (.builtin "any") (rF X.K .any) := by
  intro pins s σ H xs us Q I r ⟨ds, d, h, e, q⟩
  match ds, e with
  | [.lst ys], e =>
    simp only [opF] at e
    cases q0 : dBools ys with
    | none => rw [q0] at e; cases e
    | some l =>
      rw [q0] at e; cases e
      obtain ⟨v, rfl, hv⟩ := h.one
      obtain ⟨a, vs, rfl, ha, rr⟩ := hv.lst_inv
      rw [reps_bools rr q0] at ha
      exact cr_any hc pins s σ H _ us Q I r ⟨a, l, rfl, .inl ha, q _ _ (Ex.refl H) (.bl _)⟩
  | [.non], e | [.bl _], e | [.int _], e | [.str _], e | [.tup _], e => simp [opF] at e
  | [], e => simp [opF] at e
  | _ :: _ :: _, e => simp [opF] at e
theorem call_max_ (hc : X.calm = true) : CallR X (.builtin "max") (rF X.K .max2) := by
  intro pins s σ H xs us Q I r ⟨ds, d, h, e, q⟩
  match ds, e with
  | [.int i, .int j], e =>
    cases e
    obtain ⟨v, u, rfl, h1, h2⟩ := h.two
    obtain rfl := h1.int_inv
    obtain rfl := h2.int_inv
    exact call_max2 hc pins s σ H _ us Q I r ⟨_, _, rfl, q _ _ (Ex.refl H) (.int _)⟩
  | [], e => simp [opF] at e
  | [_], e => simp [opF] at e
  | _ :: _ :: _ :: _, e => simp [opF] at e
  | [.non, _], e | [.bl _, _], e | [.str _, _], e | [.tup _, _], e | [.lst _, _], e => simp [opF] at e
  | [.int _, .non], e | [.int _, .bl _], e | [.int _, .str _], e | [.int _, .tup _], e | [.int _, .lst _], e => simp [opF] at e
theorem nuMin2_int (i j : Int) : nuMin2 (.int i) (.int j) = some (.int (if j < i then j else i)) := by
  show some (if decide (j < i) = true then V.int j else V.int i) = _
  by_cases h : j < i
  · rw [if_pos h, if_pos (by simpa using h)]
  · rw [if_neg h, if_neg (by simpa using h)]
theorem nuMin3_int (i j k : Int) : nuMin3 (.int i) (.int j) (.int k) = some (.int (if k < (if j < i then j else i) then k else (if j < i then j else i))) := by
  show (nuMin2 (.int i) (.int j)).bind (fun m => nuMin2 m (.int k)) = _
  rw [nuMin2_int]
  exact nuMin2_int _ k
theorem call_min_ (hc : X.calm = true) : CallR X (.builtin "min") (rF X.K .min2) := by
  intro pins s σ H xs us Q I r ⟨ds, d, h, e, q⟩
  match ds, e with
  | [.int i, .int j], e =>
    cases e
    obtain ⟨v, u, rfl, h1, h2⟩ := h.two
    obtain rfl := h1.int_inv
    obtain rfl := h2.int_inv
    exact call_min2 hc pins s σ H _ us Q I r ⟨_, _, rfl, q _ _ (Ex.refl H) (.int _)⟩
  | [.int i, .int j, .int k], e =>
    cases e
    obtain ⟨u1, u2, u3, rfl, h1, h2, h3⟩ := h.three
    obtain rfl := h1.int_inv
    obtain rfl := h2.int_inv
    obtain rfl := h3.int_inv
    refine call_min3Nu hc pins s σ H _ us Q I r ⟨_, _, _, _, rfl, nuMin3_int i j k, q _ _ (Ex.refl H) (.int _)⟩
  | [], e => simp [opF] at e
  | [_], e => simp [opF] at e
  | _ :: _ :: _ :: _ :: _, e => simp [opF] at e
  | [.non, _, _], e | [.bl _, _, _], e | [.str _, _, _], e | [.tup _, _, _], e | [.lst _, _, _], e => simp [opF] at e
  | [.int _, .non, _], e | [.int _, .bl _, _], e | [.int _, .str _, _], e | [.int _, .tup _, _], e | [.int _, .lst _, _], e => simp [opF] at e
  | [.int _, .int _, .non], e | [.int _, .int _, .bl _], e | [.int _, .int _, .str _], e | [.int _, .int _, .tup _], e | [.int _, .int _, .lst _], e => simp [opF] at e
  | [.non, _], e | [.bl _, _], e | [.str _, _], e | [.tup _, _], e | [.lst _, _], e => simp [opF] at e
  | [.int _, .non], e | [.int _, .bl _], e | [.int _, .str _], e | [.int _, .tup _], e | [.int _, .lst _], e => simp [opF] at e
/-- isinstance(x, T) -/
def rIs (K : PySem.W.Frag) (b : Bf) (n : String) : List V → Hp → VK → Prop := fun vs H Q => ∃ x d k, vs = [x, .ty n] ∧ RepB K H x d ∧ opF b [d] = some (.bl k) ∧ Q (.bl k) H
theorem call_is {b : Bf} {n : String} (hb : (b = .isInt ∧ n = "int") ∨ (b = .isBool ∧ n = "bool") ∨ (b = .isStr ∧ n = "str") ∨ (b = .isTuple ∧ n = "tuple")) : CallR X (.builtin "isinstance") (rIs X.K b n) := by
  intro pins s σ H xs us Q I r ⟨x, d, k, e, h, eo, q⟩
  subst e
  cases q0 : kindOf d with
  | none => rcases hb with ⟨rfl, _⟩ | ⟨rfl, _⟩ | ⟨rfl, _⟩ | ⟨rfl, _⟩ <;> simp [opF, q0] at eo
  | some m =>
    have ty := ty_of h q0
    refine call_isi pins s σ H _ us Q I r ⟨x, _, _, _, k, rfl, .ty n, ty, kit_ty ?_, q⟩
    have hm : m ≤ 4 := by cases d <;> simp only [kindOf, reduceCtorEq] at q0 <;> cases q0 <;> decide
    have hk : kName m ∈ ["NoneType", "bool", "int", "str", "tuple"] := by
      match m, hm with
      | 0, _ | 1, _ | 2, _ | 3, _ | 4, _ => decide
    have hn : n ∈ ["int", "bool", "str", "tuple"] := by rcases hb with ⟨_, rfl⟩ | ⟨_, rfl⟩ | ⟨_, rfl⟩ | ⟨_, rfl⟩ <;> decide
    rw [kinds _ hk _ hn]
    match m, hm with
    | 0, _ | 1, _ | 2, _ | 3, _ | 4, _ =>
      rcases hb with ⟨rfl, rfl⟩ | ⟨rfl, rfl⟩ | ⟨rfl, rfl⟩ | ⟨rfl, rfl⟩ <;> simp only [opF, q0, Option.map_some] at eo <;> cases eo <;> decide

/-! ### methods -/
theorem joinT0 (sep : List Nat) : ∀ l : List (List Nat), Str.join (T sep) (l.map T) = T (joined sep l)
  | [] => rfl
  | [p] => rfl
  | p :: q :: r => by
    have ih := joinT0 sep (q :: r)
    have e : Str.join (T sep) ((p :: q :: r).map T) = T p ++ T sep ++ Str.join (T sep) ((q :: r).map T) := rfl
    rw [e, ih, T_app, T_app, List.append_assoc]
    rfl
theorem joinT (sep : List Nat) (l : List (List Nat)) : Txt.join (T sep) (l.map T) = T (joined sep l) := by
  rw [TL.join_eq]
  exact joinT0 sep l
theorem joined_len (sep : List Nat) : ∀ l : List (List Nat), (joined sep l).length ≤ (l.map List.length).sum + l.length * sep.length
  | [] => by simp [joined]
  | [p] => by simp [joined]
  | p :: q :: r => by
    have ih := joined_len sep (q :: r)
    simp only [joined, List.length_append, List.map_cons, List.sum_cons, List.length_cons] at ih ⊢
    have : (r.length + 1 + 1) * sep.length = (r.length + 1) * sep.length + sep.length := by rw [Nat.succ_mul]
    omega
def rM (K : PySem.W.Frag) (m : Mt) : V → List V → Hp → VK → Prop := fun x vs H Q => ∃ dx ds d, RepB K H x dx ∧ RepBs K H vs ds ∧ opM m dx ds = some d ∧ ∀ v H', Ex H H' → FRep K H H' v d → Q v H'
theorem mt_join_ : MtR X "str.join" (rM X.K .join) := by
  intro pins s σ H x xs v us Q I rx rs ⟨dx, ds, d, hx, hs, e, q⟩
  match dx, ds, e with
  | .str sep, [.lst ys], e =>
    simp only [opM] at e
    cases q0 : dTexts ys with
    | none => rw [q0] at e; cases e
    | some l =>
      rw [q0] at e
      simp only [Option.bind_some] at e
      split at e <;> cases e
      rename_i hl
      obtain ⟨rfl, _⟩ := hx.str_inv
      obtain ⟨w, rfl, hw⟩ := hs.one
      obtain ⟨a, vs, rfl, ha, rr⟩ := hw.lst_inv
      rw [reps_texts rr q0] at ha
      refine mt_join pins s σ H _ _ v us Q I rx rs ⟨_, a, l.map T, rfl, rfl, .inl (.inl ha), ?_, ?_⟩
      · have e1 : (l.map T).map (fun y : Str => y.length) = l.map List.length := by
          rw [List.map_map]
          exact List.map_congr_left fun p _ => T_len p
        rw [e1, List.length_map, T_len]
        exact hl
      · rw [joinT]
        exact q _ _ (Ex.refl H) (.str _ (Nat.le_trans (joined_len ..) hl))
  | .str sep, [.tup ys], e =>
    simp only [opM] at e
    cases q0 : dTexts ys with
    | none => rw [q0] at e; cases e
    | some l =>
      rw [q0] at e
      simp only [Option.bind_some] at e
      split at e <;> cases e
      rename_i hl
      obtain ⟨rfl, _⟩ := hx.str_inv
      obtain ⟨w, rfl, hw⟩ := hs.one
      obtain ⟨a, vs, rfl, ha, rr⟩ := hw.tup_inv
      rw [reps_texts rr q0] at ha
      refine mt_join pins s σ H _ _ v us Q I rx rs ⟨_, a, l.map T, rfl, rfl, .inr ha, ?_, ?_⟩
      · have e1 : (l.map T).map (fun y : Str => y.length) = l.map List.length := by
          rw [List.map_map]
          exact List.map_congr_left fun p _ => T_len p
        rw [e1, List.length_map, T_len]
        exact hl
      · rw [joinT]
        exact q _ _ (Ex.refl H) (.str _ (Nat.le_trans (joined_len ..) hl))
  | .str _, [], e => simp [opM] at e
  | .str _, [.non], e | .str _, [.bl _], e | .str _, [.int _], e | .str _, [.str _], e => simp [opM] at e
  | .str _, _ :: _ :: _, e => simp [opM] at e
  | .non, _, e | .bl _, _, e | .int _, _, e | .tup _, _, e | .lst _, _, e => simp [opM] at e
theorem low_eq : ∀ c < 128, Txt.islower (T [c]) = (Nat.ble 97 c && Nat.ble c 122) := by decide +kernel
theorem upp_eq : ∀ c < 128, Txt.isupper (T [c]) = (Nat.ble 65 c && Nat.ble c 90) := by decide +kernel
theorem aln_eq : ∀ c < 128, Txt.isalnum (T [c]) = ((Nat.ble 97 c && Nat.ble c 122) || (Nat.ble 65 c && Nat.ble c 90) || (Nat.ble 48 c && Nat.ble c 57)) := by decide +kernel
theorem RepBs.nil_inv {K : PySem.W.Frag} {H : Hp} {vs : List V} (h : RepBs K H vs []) : vs = [] := by cases h; rfl
theorem opM0_inv {m : Mt} (hm : m = .islower ∨ m = .isupper ∨ m = .isalnum) {x : D} {ds : List D} {d : D} (e : opM m x ds = some d) : ∃ c, x = .str [c] ∧ ds = [] ∧ c < 128 := by
  match x, ds with
  | .str [c], [] =>
    refine ⟨c, rfl, rfl, ?_⟩
    by_cases h : c < 128
    · exact h
    · rcases hm with rfl | rfl | rfl
      · rw [show opM .islower (.str [c]) [] = none from if_neg h] at e; cases e
      · rw [show opM .isupper (.str [c]) [] = none from if_neg h] at e; cases e
      · rw [show opM .isalnum (.str [c]) [] = none from if_neg h] at e; cases e
  | .str [], _ => rcases hm with rfl | rfl | rfl <;> simp [opM] at e
  | .str (_ :: _ :: _), _ => rcases hm with rfl | rfl | rfl <;> simp [opM] at e
  | .str [_], _ :: _ => rcases hm with rfl | rfl | rfl <;> simp [opM] at e
  | .non, _ => rcases hm with rfl | rfl | rfl <;> simp [opM] at e
  | .bl _, _ => rcases hm with rfl | rfl | rfl <;> simp [opM] at e
  | .int _, _ => rcases hm with rfl | rfl | rfl <;> simp [opM] at e
  | .tup _, _ => rcases hm with rfl | rfl | rfl <;> simp [opM] at e
  | .lst _, _ => rcases hm with rfl | rfl | rfl <;> simp [opM] at e
theorem mt_low_ : MtR X "str.islower" (rM X.K .islower) := by
  intro pins s σ H x xs v us Q I rx rs ⟨dx, ds, d, hx, hs, e, q⟩
  obtain ⟨c, rfl, rfl, hc⟩ := opM0_inv (.inl rfl) e
  obtain ⟨rfl, _⟩ := hx.str_inv
  obtain rfl := hs.nil_inv
  rw [show opM .islower (.str [c]) [] = some (.bl (Nat.ble 97 c && Nat.ble c 122)) from if_pos hc] at e
  cases e
  refine mt_islower pins s σ H _ _ v us Q I rx rs ⟨_, rfl, rfl, trivial, ?_⟩
  rw [low_eq c hc]
  exact q _ _ (Ex.refl H) (.bl _)
theorem mt_upp_ : MtR X "str.isupper" (rM X.K .isupper) := by
  intro pins s σ H x xs v us Q I rx rs ⟨dx, ds, d, hx, hs, e, q⟩
  obtain ⟨c, rfl, rfl, hc⟩ := opM0_inv (.inr (.inl rfl)) e
  obtain ⟨rfl, _⟩ := hx.str_inv
  obtain rfl := hs.nil_inv
  rw [show opM .isupper (.str [c]) [] = some (.bl (Nat.ble 65 c && Nat.ble c 90)) from if_pos hc] at e
  cases e
  refine mt_isupper pins s σ H _ _ v us Q I rx rs ⟨_, rfl, rfl, trivial, ?_⟩
  rw [upp_eq c hc]
  exact q _ _ (Ex.refl H) (.bl _)
theorem mt_aln_ : MtR X "str.isalnum" (rM X.K .isalnum) := by
  intro pins s σ H x xs v us Q I rx rs ⟨dx, ds, d, hx, hs, e, q⟩
  obtain ⟨c, rfl, rfl, hc⟩ := opM0_inv (.inr (.inr rfl)) e
  obtain ⟨rfl, _⟩ := hx.str_inv
  obtain rfl := hs.nil_inv
  rw [show opM .isalnum (.str [c]) [] = some (.bl ((Nat.ble 97 c && Nat.ble c 122) || (Nat.ble 65 c && Nat.ble c 90) || (Nat.ble 48 c && Nat.ble c 57))) from if_pos hc] at e
  cases e
  refine mt_isalnum pins s σ H _ _ v us Q I rx rs ⟨_, rfl, rfl, trivial, ?_⟩
  rw [aln_eq c hc]
  exact q _ _ (Ex.refl H) (.bl _)
end
end Ev

/-! Sets of texts: made of a list, sorted. -/
namespace Ev
open PySem PySem.Spec
open PyProof.Rows hiding St
open L2
open Evl (Ex)

def GoodS (w : World) (e : Int × Value) : Prop := ∃ x tk, e.2 = Value.str x tk ∧ e.1 = hashStr w x
def keyS (e : Int × Value) : Str := match e.2 with | .str x _ => x | _ => Str.empty
/-- the set of texts at a: l its members, each once, in some order -/
def TSet (w : World) (h : Heap) (a : Addr) (l : List Str) : Prop :=
  ∃ o es ep t, h.get? a = some o ∧ o.ExactSet ∧ o.data = .set es ep t ∧ (∀ e ∈ es.toList, GoodS w e) ∧ (es.toList.map keyS).Perm l ∧ l.Nodup ∧
    l.length < scanBound ∧ t.fits es.size = true ∧ Ris t.place.toList ∧ (w.params.followText "set-order" = true ∨ t.led = true)

section
variable {P : Program} {w : World} {h h' : Heap} {a : Addr} {l : List Str}
theorem TSet.at (R : TSet w h a l) (k : ∀ o, h.get? a = some o → h'.get? a = some o) : TSet w h' a l := by
  obtain ⟨o, es, ep, t, ho, r⟩ := R
  exact ⟨o, es, ep, t, k o ho, r⟩
theorem isS (k : Str) (u : Tok) : (PySem.strKind P w).is k (.str k u) = true := by
  show Value.isStrOf k (.str k u) = true
  simp [Value.isStrOf]
theorem goodS_elems {es : List (Int × Value)} (g : ∀ e ∈ es, GoodS w e) : ElemsOf (PySem.strKind P w) es := fun e he => by
  obtain ⟨k, tk, h1, h2⟩ := g e he
  exact ⟨⟨k, by rw [h1]; exact isS k tk, h2⟩, by rw [h1] <;> rfl⟩
theorem goodS_is {e : Int × Value} (g : GoodS w e) (k : Str) : (PySem.strKind P w).is k e.2 = true ↔ keyS e = k := by
  obtain ⟨k0, tk, h1, _⟩ := g
  unfold keyS
  rw [h1]
  constructor
  · intro q
    exact (PySem.strKind P w).inj (.str k0 tk) k0 k (isS k0 tk) q
  · rintro rfl
    exact isS _ tk
theorem goodS_mem {es : List (Int × Value)} (g : ∀ e ∈ es, GoodS w e) (k : Str) : k ∈ es.map keyS ↔ ∃ e ∈ es, (PySem.strKind P w).is k e.2 = true := by
  rw [List.mem_map]
  constructor
  · rintro ⟨e, he, q⟩
    exact ⟨e, he, (goodS_is (g e he) k).2 q⟩
  · rintro ⟨e, he, q⟩
    exact ⟨e, he, (goodS_is (g e he) k).1 q⟩
end
section
variable {P : Program} {w : World} {A : Around} {E : Value → Shared → Prop} {s : Shared} {a : Addr} {l : List Str}

theorem tset_tail {g : Bool → Sem Unit} (hg : ∀ (b : Bool) (s₁ : Shared) (Q' : Unit → Shared → Prop), Q' () s₁ → wpAny (model P w) A (g b) Q' E s₁)
    {o : Obj} {es : Array (Int × Value)} {ep : Nat} {t : SetTable} (ho : s.heap.get? a = some o) (hex : o.ExactSet) (hd : o.data = .set es ep t)
    {es1 : Array (Int × Value)} {t2 : SetTable} (g1 : ∀ e ∈ es1.toList, GoodS w e) (pm1 : (es1.toList.map keyS).Perm l) (nd : l.Nodup)
    (hb1 : l.length < scanBound) (hf2 : t2.fits es1.size = true) (hr : Ris t2.place.toList) (hl : w.params.followText "set-order" = true ∨ t2.led = true) {wasDummy : Bool} {R : Option Bool → Shared → Prop}
    (hR : ∀ h', Heap.SameBut a s.heap h' → TSet w h' a l → R (some true) { s with heap := h' }) :
    wpAny (model P w) A (do
        storeSet a es1 t2
        if (!wasDummy && t2.tooFull) = true then do
            g (relayAll t2 es1 (SetTable.grown es1.size)).2.2
            storeSet a (relayAll t2 es1 (SetTable.grown es1.size)).1 (relayAll t2 es1 (SetTable.grown es1.size)).2.1
            pure (some true)
          else pure (some true)) R E s := by
  have hsz : es1.size = l.length := by
    have q := pm1.length_eq
    rw [List.length_map, Array.length_toList] at q
    exact q
  have hbz : es1.size < scanBound := by rw [hsz]; exact hb1
  refine wpAny_bind (wpAny_storeSet_of ho hd ?_ (fits_of_scanBound hbz))
  have ho1 := store_at (es' := es1) (t' := t2) ho hd
  have sb1 := Heap.SameBut.update s.heap a (Obj.putSet es1 t2)
  split
  · have pm := relayAll_perm t2 es1 (SetTable.grown es1.size)
    have hf3 := relayAll_fits t2 es1 (SetTable.grown es1.size)
    have hr3 := relayAll_ris t2 es1 (SetTable.grown es1.size)
    have hl3 := relayAll_led t2 es1 (SetTable.grown es1.size)
    generalize relayAll t2 es1 (SetTable.grown es1.size) = Z at pm hf3 hr3 hl3 ⊢
    obtain ⟨es2, t3, gave⟩ := Z
    dsimp only at pm hf3 hr3 hl3 ⊢
    have hb2 : es2.size < scanBound := by
      have e : es2.size = es1.size := by rw [← Array.length_toList, pm.length_eq, Array.length_toList]
      rw [e]
      exact hbz
    refine wpAny_bind (hg _ _ _ ?_)
    refine wpAny_bind (wpAny_storeSet_of ho1 rfl ?_ (fits_of_scanBound hb2))
    have ho2 := store_at (es' := es2) (t' := t3) ho1 rfl
    refine wpAny_pure (hR _ (sb1.trans (Heap.SameBut.update _ a _)) ?_)
    exact ⟨_, es2, _, t3, ho2, hex, rfl, fun e he => g1 e (pm.mem_iff.mp he), (pm.map keyS).trans pm1, nd, hb1, hf3, hr3, hl.imp id fun z => by rw [hl3]; exact z⟩
  · exact wpAny_pure (hR _ sb1 ⟨_, es1, _, t2, ho1, hex, rfl, g1, pm1, nd, hb1, hf2, hr, hl⟩)

def addS (l : List Str) (k : Str) : List Str := if k ∈ l then l else k :: l
theorem tset_add {k : Str} {tk : Tok} {Q : Bool → Shared → Prop} (R : TSet w s.heap a l) (room : l.length + 1 < scanBound)
    (hQ : ∀ b h', Heap.SameBut a s.heap h' → TSet w h' a (addS l k) → Q b { s with heap := h' }) :
    wpAny (model P w) A (setAddHashed a (.str k tk) ((PySem.strKind P w).hash k)) Q E s := by
  obtain ⟨o, es, ep, t, ho, hex, hd, g, pm0, nd, hb, hf, hr, hl⟩ := R
  have hkey : (PySem.strKind P w).is k (.str k tk) = true := isS k tk
  have hsc : (Value.str k tk).scannable = true := rfl
  have hel : ElemsOf (PySem.strKind P w) es.toList := goodS_elems g
  have hsz : es.size = l.length := by
    have q := pm0.length_eq
    rw [List.length_map, Array.length_toList] at q
    exact q
  have hbz : es.size < scanBound := by rw [hsz]; exact hb
  unfold setAddHashed setAddHashedIn
  refine wpAny_holding (wpAny_bind (wpAny_setState_of ho hd hf ?_))
  dsimp only
  rw [byScan_of hsc hbz hel]
  simp only [↓reduceIte]
  unfold setAddByScan
  refine wpAny_bind ?_
  refine wpAny_bind (wpAny_rule ?_)
  refine wpAny_bind (wpAny_setScan_of hkey ho hd hf hel ?_)
  cases hfi : List.findIdx? (fun e => (PySem.strKind P w).is k e.2) es.toList with
  | some j =>
    dsimp only
    obtain ⟨hj, pj, _⟩ := List.findIdx?_eq_some_iff_getElem.mp hfi
    have hk : k ∈ l := pm0.mem_iff.mp ((goodS_mem (P := P) (w := w) g k).2 ⟨es.toList[j], List.getElem_mem hj, pj⟩)
    refine wpAny_pure (wpAny_pure ?_)
    have e : addS l k = l := if_pos hk
    refine hQ _ s.heap (Heap.SameBut.refl a s.heap) ?_
    rw [e]
    exact ⟨o, es, ep, t, ho, hex, hd, g, pm0, nd, hb, hf, hr, hl⟩
  | none =>
    dsimp only
    have hnk : k ∉ l := fun z => by
      obtain ⟨e, he, q⟩ := (goodS_mem (P := P) (w := w) g k).1 (pm0.mem_iff.mpr z)
      have c := List.findIdx?_eq_none_iff.mp hfi e he
      rw [q] at c
      cases c
    have hgw : ∀ (b : Bool) {s₁ : Shared} {Q' : Unit → Shared → Prop}, Q' () s₁ → wpAny (model P w) A (match b with | true => rule "set.scan.the-table-gave-way" | false => pure ()) Q' E s₁ :=
      fun b s₁ Q' q => by cases b <;> first | exact wpAny_pure q | exact wpAny_rule q
    have pm := layNew_perm t es ((PySem.strKind P w).hash k) (.str k tk)
    have hf1 := layNew_fits t es ((PySem.strKind P w).hash k) (.str k tk)
    have hr1 := layNew_ris t es ((PySem.strKind P w).hash k) (.str k tk) hr
    have hl1 := layNew_led t es ((PySem.strKind P w).hash k) (.str k tk)
    generalize layNew t es ((PySem.strKind P w).hash k) (.str k tk) = Z at pm hf1 hr1 hl1 ⊢
    obtain ⟨es1, t1, wasDummy, gave⟩ := Z
    dsimp only at pm hf1 hr1 hl1 ⊢
    rw [Array.toList_push] at pm
    have pc : es1.toList.Perm (((PySem.strKind P w).hash k, Value.str k tk) :: es.toList) := pm.trans (List.perm_append_singleton _ _)
    have pk : (es1.toList.map keyS).Perm (k :: l) := (pc.map keyS).trans (List.Perm.cons k pm0)
    have g1 : ∀ e ∈ es1.toList, GoodS w e := fun e he => by
      rcases List.mem_cons.mp (pc.mem_iff.mp he) with z | z
      · rw [z]; exact ⟨k, tk, rfl, rfl⟩
      · exact g e z
    have nd1 : (k :: l).Nodup := List.nodup_cons.mpr ⟨hnk, nd⟩
    have hled : w.params.followText "set-order" = true ∨ t1.led = true := hl.imp id fun z => by rw [hl1]; exact z
    have e : addS l k = k :: l := if_neg hnk
    have fin : ∀ h', Heap.SameBut a s.heap h' → TSet w h' a (k :: l) → Q true { s with heap := h' } := fun h' sb r => hQ true h' sb (by rw [e]; exact r)
    refine wpAny_bind (hgw _ ?_)
    split
    · refine wpAny_bind ?_
      rw [hashByValue_scannable 8 hsc]
      refine wpAny_pure ?_
      refine tset_tail ?_ ho hex hd g1 pk nd1 room ?_ ?_ ?_ ?_
      · intro b s₁ Q' q; cases b <;> first | exact wpAny_pure q | exact wpAny_rule q
      · first | (split <;> first | exact hf1 | exact SetTable.fits_plain_off hf1) | exact hf1
      · first | (split <;> exact hr1) | exact hr1
      · first | (split <;> exact hled) | exact hled
      · intro h' sb r; dsimp only; exact wpAny_pure (fin h' sb r)
    · refine wpAny_bind (wpAny_pure ?_)
      simp only [↓reduceIte]
      refine tset_tail ?_ ho hex hd g1 pk nd1 room hf1 hr1 hled ?_
      · intro b s₁ Q' q; cases b <;> first | exact wpAny_pure q | exact wpAny_rule q
      · intro h' sb r; dsimp only; exact wpAny_pure (fin h' sb r)

def setOfL (xs : List Str) : List Str := xs.foldl addS []
theorem addS_len (l : List Str) (k : Str) : (addS l k).length ≤ l.length + 1 := by
  unfold addS
  split
  · omega
  · simp
theorem foldS_len : ∀ (xs l : List Str), (xs.foldl addS l).length ≤ l.length + xs.length
  | [], l => by simp
  | x :: xs, l => by
    have h1 := foldS_len xs (addS l x)
    have h2 := addS_len l x
    rw [List.foldl_cons, List.length_cons]
    omega
theorem foldS_mem (k : Str) : ∀ (xs l : List Str), k ∈ xs.foldl addS l ↔ k ∈ l ∨ k ∈ xs
  | [], l => by simp
  | x :: xs, l => by
    rw [List.foldl_cons, foldS_mem k xs]
    unfold addS
    split
    · rename_i hx
      simp only [List.mem_cons]
      constructor
      · rintro (h | h)
        · exact .inl h
        · exact .inr (.inr h)
      · rintro (h | rfl | h)
        · exact .inl h
        · exact .inl hx
        · exact .inr h
    · simp only [List.mem_cons]
      constructor
      · rintro ((h | h) | h)
        · exact .inr (.inl h)
        · exact .inl h
        · exact .inr (.inr h)
      · rintro (h | h | h)
        · exact .inl (.inr h)
        · exact .inl (.inl h)
        · exact .inr h

theorem tset_update {I : Addr} {fp wr : List Addr} {G : Array GenState → Array GenState → Prop} {n : Nat} {Pv : Nat → Value → Prop} {St : Nat → Shared → Prop} {R : Result → Shared → Prop}
    (W : WalksS P w A.in1 I fp wr G n Pv St) (S : Addr) (hSf : S ∉ fp) (xs : List Str) (hn : n = xs.length) (hb : xs.length + 1 < scanBound) (hval : ∀ i v, Pv i v → ∃ k t, xs[i]? = some k ∧ v = .str k t) :
    ∀ (k i : Nat) (s : Shared), n - i = k → i ≤ n → St i s → TSet w s.heap S (setOfL (xs.take i)) →
      (∀ s', Moved (S :: wr) G s s' → TSet w s'.heap S (setOfL xs) → R (.ok (.ret .none)) s') →
      codeAny (model P w) A (.builtin "set.update.loop" ⟨[.ref S, .ref I], []⟩) R s := by
  have hSw : S ∉ wr := fun h => hSf (W.sub _ h)
  have hsub : ∀ b ∈ wr, b ∈ S :: wr := fun b hb => List.mem_cons_of_mem _ hb
  intro k
  induction k with
  | zero =>
    intro i s hk' hi hst hS hR
    have hin : i = n := by omega
    subst hin
    refine codeAny_builtin F.entry_set_update_loop ?_
    rw [Around.under_plainId F.plain_set_update_loop _]
    show wpAny _ A.in1 (pyNext (.ref I) >>= _) _ _ s
    refine wpAny_bind (W.done s _ _ hst fun s' hm => ?_)
    show wpAny _ A.in1 (ret Value.none) _ _ s'
    have e : xs.take i = xs := List.take_of_length_le (by omega)
    rw [e] at hS
    exact wpAny_pure (hR s' (hm.mono hsub) (hS.at fun o e => hm.heap S o hSw e))
  | succ k ih =>
    intro i s hk' hi hst hS hR
    have hlt : i < n := by omega
    refine codeAny_builtin F.entry_set_update_loop ?_
    rw [Around.under_plainId F.plain_set_update_loop _]
    show wpAny _ A.in1 (pyNext (.ref I) >>= _) _ _ s
    refine wpAny_bind (W.item i s _ _ hlt hst fun v s' hP hst' hm => ?_)
    obtain ⟨z, t, hz, rfl⟩ := hval i v hP
    have hS' : TSet w s'.heap S (setOfL (xs.take i)) := hS.at fun o e => hm.heap S o hSw e
    show wpAny _ A.in1 (holding [Value.str z t] (setAdd S (.str z t)) >>= _) _ _ s'
    refine wpAny_bind (wpAny_holding ?_)
    unfold setAdd
    refine wpAny_holding ?_
    refine wpAny_bind ((PySem.strKind P w).pyHash (k := z) (isS z t) ?_)
    have hroom : (setOfL (xs.take i)).length + 1 < scanBound := by
      have := foldS_len (xs.take i) []
      rw [List.length_take, List.length_nil] at this
      unfold setOfL
      omega
    refine tset_add (s := { s' with toks := s'.toks + 1 }) hS' hroom fun b h' hsb hS2 => ?_
    have hS3 : TSet w h' S (setOfL (xs.take (i + 1))) := by
      have e : setOfL (xs.take (i + 1)) = addS (setOfL (xs.take i)) z := by
        unfold setOfL
        rw [List.take_add_one, hz, List.foldl_append] <;> rfl
      rw [e]
      exact hS2
    refine wpAny_pure ⟨plainId_quiet F.plain_set_update_loop _, ih (i + 1) _ (by omega) hlt (W.frame _ s' _ _ hst' (Nat.le_succ _) fun b hb o e => ?_) hS3 fun s'' hm'' hS'' => ?_⟩
    · rw [hsb.2 b (fun h : b = S => hSf (by rw [← h]; exact hb))]; exact e
    · refine hR s'' (Moved.trans W.gtrans ((hm.mono hsub).then_heap (Nat.le_succ _) fun b o hb e => ?_) hm'') hS''
      rw [hsb.2 b (fun h : b = S => hb (by rw [h]; exact List.mem_cons_self))]; exact e

theorem tset_fresh {h : Heap} (ho : h.get? a = some { cls := .type "set", dict := none, data := .set #[] 0 (.fresh 0 0 (!w.params.followText "set-order")) }) : TSet w h a (setOfL []) :=
  ⟨_, #[], 0, _, ho, ⟨rfl, rfl, rfl⟩, rfl, (fun e he => by simp at he), List.Perm.nil, List.nodup_nil, (by decide), (by rfl), List.Pairwise.nil, by
    show _ ∨ (!w.params.followText "set-order") = true
    cases w.params.followText "set-order"
    · exact .inr rfl
    · exact .inl rfl⟩

theorem strs_at {xs : List Str} : ∀ {vs : List Value}, StrsAre vs xs → ∀ (i : Nat) (v : Value), vs[i]? = some v → ∃ k t, xs[i]? = some k ∧ v = .str k t := fun h i v e => by
  obtain ⟨y, t, e1, e2⟩ := StrsAre.item h i v e
  exact ⟨y, t, e2, e1⟩

set_option maxHeartbeats 3200000 in
theorem call_set_texts {l : Addr} {items : Array Value} (xs : List Str) {Q : Value → Shared → Prop} (hh : A.handled = none) (hl : s.heap.IsList l items) (hit : StrsAre items.toList xs) (hb : xs.length + 1 < scanBound)
    (h : ∀ (h' : Heap) (tk : Nat), TSet w h' s.heap.objs.size (setOfL xs) → (∀ b o, s.heap.get? b = some o → h'.get? b = some o) → Q (.ref s.heap.objs.size) { s with heap := h', toks := tk }) :
    wpAny (model P w) A (call (.type "set") [.ref l]) Q E s := by
  have hisz : items.size = xs.length := by
    have q := strs_len_eq hit
    rw [Array.length_toList] at q
    exact q
  obtain ⟨c, tl, hmro⟩ := PySem.F.called_set.mro
  have hmade := PySem.F.called_set.made
  have hsub := PySem.F.called_set.sub
  refine wpAny_call (codeAny_of_tree ?_)
  show wpAny _ _ (callAny (.type "set") _) _ _ _
  refine wpAny_pure ⟨Code.quiet_builtin _ (by decide +kernel), codeAny_builtin PySem.F.entry_type_call ?_⟩
  rw [Around.under_plain (weight_type_call_type "set" [.ref l] []) rfl]
  have h1 := PySem.F.called_set.notType
  have h2 := PySem.F.called_set.canCreate
  have hct := PySem.F.typeCall_set_1 (.ref l)
  repeat (any_goals (first | assumption | wp_step))
  refine codeAny_mono (code_set_led1 (.ref l) (E := E) (Q₁ := fun obj s₁ => obj = .ref s.heap.objs.size ∧ s₁ = { s with heap := s.heap.push { cls := .type "set", dict := none, data := .set #[] 0 (.fresh 0 0 (!w.params.followText "set-order")) } }) ⟨rfl, rfl⟩) fun r s₁ hr => ?_
  cases r with
  | error e => exact hr
  | ok fl =>
    cases fl with
    | ret obj =>
      obtain ⟨rfl, rfl⟩ := hr
      have hS : (s.heap.push { cls := .type "set", dict := none, data := .set #[] 0 (.fresh 0 0 (!w.params.followText "set-order")) }).get? s.heap.objs.size = some { cls := .type "set", dict := none, data := .set #[] 0 (.fresh 0 0 (!w.params.followText "set-order")) } := Heap.get?_push_size _ rfl
      have hT : Shared.TypeIs { s with heap := s.heap.push { cls := .type "set", dict := none, data := .set #[] 0 (.fresh 0 0 (!w.params.followText "set-order")) } } (.ref s.heap.objs.size) "set" := ⟨_, hS, rfl⟩
      have hli := PySem.F.called_set.init.lookup
      have hbi := PySem.F.called_set.init.bind (.ref s.heap.objs.size)
      repeat (any_goals (first | assumption | wp_step))
      refine codeAny_mono (codeAny_call_builtin (R := wants (fun r s₂ => r = .none ∧ ∃ h' tk, s₂ = { s with heap := h', toks := tk } ∧ TSet w h' s.heap.objs.size (setOfL xs) ∧
          (∀ b o, s.heap.get? b = some o → h'.get? b = some o)) E) PySem.F.called_set.init.plain PySem.F.entry_set_init (check_set_init_1 hT ?_)) fun r₂ s₂ hr₂ => ?_
      · obtain ⟨ol, hol, hcl, nl, hdl⟩ := hl
        obtain ⟨ocls, odict, odata, oslots⟩ := ol
        simp only at hcl hdl
        subst hcl; subst hdl
        have hol' : (s.heap.push { cls := .type "set", dict := none, data := .set #[] 0 (.fresh 0 0 (!w.params.followText "set-order")) }).get? l = some { cls := .type "list", dict := odict, data := .seq items nl, slots := oslots } := Heap.get?_push_of_some _ hol
        have hsls := PySem.F.sub_list_set
        have hslf := PySem.F.sub_list_frozenset
        have hne : (Value.type "list" == Value.type "dict") = false := by decide
        have hl1 : (s.heap.push { cls := .type "set", dict := none, data := .set #[] 0 (.fresh 0 0 (!w.params.followText "set-order")) }).IsList l items := ⟨_, hol', rfl, nl, rfl⟩
        unfold Builtin.«set.__init__» noKeywords Builtin.Frozenset.updateFrom
        generalize hPI : pyIter = PI
        wp_walk
        subst hPI
        refine wpAny_pyIter_list hl1 ?_
        refine wpAny_bind (wpAny_runValue ?_)
        have hlS : l < s.heap.objs.size := Heap.lt_size hol
        have hh3 : A.in1.in1.in1.handled = none := by simp [hh]
        have hneI : l ≠ (s.heap.push { cls := .type "set", dict := none, data := .set #[] 0 (.fresh 0 0 (!w.params.followText "set-order")) }).objs.size := by
          rw [Heap.size_push]; exact Nat.ne_of_lt (Nat.lt_succ_of_lt hlS)
        have hSf : s.heap.objs.size ∉ [(s.heap.push { cls := .type "set", dict := none, data := .set #[] 0 (.fresh 0 0 (!w.params.followText "set-order")) }).objs.size, l] := by
          rw [Heap.size_push]; simp only [List.mem_cons, List.mem_singleton, List.not_mem_nil, or_false, not_or]
          exact ⟨Nat.ne_of_lt (Nat.lt_succ_self _), Nat.ne_of_gt hlS⟩
        have hval : ∀ (i : Nat) (v : Value), items[i]? = some v → ∃ k t, xs[i]? = some k ∧ v = .str k t := fun i v hv => strs_at hit i v (by rw [Array.getElem?_toList]; exact hv)
        refine tset_update ((Walks.list hh3 _ l hneI items).toS) s.heap.objs.size
          hSf xs hisz hb hval (items.size - 0) 0 _ (by omega) (Nat.zero_le _)
          ⟨⟨_, Heap.get?_push_size _ rfl, rfl, rfl⟩, (hl1.push _)⟩ ?hS0 ?hR
        case hS0 =>
          exact tset_fresh (Heap.get?_push_of_some _ hS)
        case hR =>
          intro s' hm hS'
          obtain ⟨h', g2, d', tk', os'⟩ := s'
          have eg : g2 = s.gens := hm.gens
          have ed : d' = s.drawn := hm.drawn
          have eo : os' = s.os := hm.os
          subst eg; subst ed; subst eo
          show wpAny _ _ _ _ _ _
          refine wpAny_pure ?_
          show wpAny _ _ (ret Value.none) _ _ _
          refine wpAny_pure ⟨rfl, h', tk', rfl, hS', fun b o e => ?_⟩
          have hb := Heap.lt_size e
          have hb1 : b ≠ s.heap.objs.size := Nat.ne_of_lt hb
          have hb2 : b ≠ (s.heap.push { cls := .type "set", dict := none, data := .set #[] 0 (.fresh 0 0 (!w.params.followText "set-order")) }).objs.size := by
            rw [Heap.size_push]; exact Nat.ne_of_lt (Nat.lt_succ_of_lt hb)
          exact hm.heap b o (by simp only [List.mem_cons, List.mem_singleton, List.not_mem_nil, or_false, not_or]; exact ⟨hb1, hb2⟩) (Heap.get?_push_of_some _ (Heap.get?_push_of_some _ e))
      · cases r₂ with
        | error e => exact hr₂
        | ok fl₂ =>
          cases fl₂ with
          | ret r =>
            obtain ⟨rfl, h', tk, rfl, hS', hk'⟩ := hr₂
            repeat (any_goals (first | assumption | wp_step))
            exact h _ _ hS' hk'
          | _ => exact hr₂.elim
    | _ => exact hr.elim
end
end Ev

/-! sorted(set(texts)), sorted(data). -/
namespace Ev
open PySem PySem.Spec
open PyProof.Rows hiding St
open L2
open Evl (Ex)

def Asc (l : List (List Nat)) : Prop := l.Pairwise (· < ·)
theorem insU_mem (x k : List Nat) : ∀ l : List (List Nat), k ∈ insU x l ↔ k = x ∨ k ∈ l
  | [] => by simp [insU]
  | y :: r => by
    unfold insU
    split
    · rename_i e
      subst e
      simp
    · split
      · simp
      · rw [List.mem_cons, insU_mem x k r, List.mem_cons]
        constructor
        · rintro (h | h | h)
          · exact .inr (.inl h)
          · exact .inl h
          · exact .inr (.inr h)
        · rintro (h | h | h)
          · exact .inr (.inl h)
          · exact .inl h
          · exact .inr (.inr h)
theorem lt_tri (x y : List Nat) : x < y ∨ x = y ∨ y < x := by
  by_cases h1 : x < y
  · exact .inl h1
  · by_cases h2 : y < x
    · exact .inr (.inr h2)
    · exact .inr (.inl (List.le_antisymm (List.not_lt.mp h2) (List.not_lt.mp h1)))
theorem insU_asc (x : List Nat) : ∀ l : List (List Nat), Asc l → Asc (insU x l)
  | [], _ => List.pairwise_singleton _ _
  | y :: r, h => by
    obtain ⟨h1, h2⟩ := List.pairwise_cons.mp h
    unfold insU
    split
    · exact h
    · rename_i ne
      split
      · rename_i lt
        exact List.pairwise_cons.mpr ⟨fun z hz => by
          rcases List.mem_cons.mp hz with rfl | hz
          · exact lt
          · exact List.lt_trans lt (h1 z hz), h⟩
      · rename_i nl
        refine List.pairwise_cons.mpr ⟨fun z hz => ?_, insU_asc x r h2⟩
        rcases (insU_mem x z r).mp hz with rfl | hz
        · rcases lt_tri z y with c | c | c
          · exact absurd c nl
          · exact absurd c ne
          · exact c
        · exact h1 z hz
theorem sortU_mem (k : List Nat) : ∀ l : List (List Nat), k ∈ sortU l ↔ k ∈ l
  | [] => by simp [sortU]
  | x :: l => by
    show k ∈ insU x (sortU l) ↔ _
    rw [insU_mem, sortU_mem k l, List.mem_cons]
theorem sortU_asc : ∀ l : List (List Nat), Asc (sortU l)
  | [] => List.Pairwise.nil
  | x :: l => insU_asc x _ (sortU_asc l)
theorem asc_one : ∀ {a b : List (List Nat)}, Asc a → Asc b → (∀ k, k ∈ a ↔ k ∈ b) → a = b
  | [], [], _, _, _ => rfl
  | [], y :: r, _, _, h => by
    have := (h y).2 (List.mem_cons_self ..)
    cases this
  | x :: l, [], _, _, h => by
    have := (h x).1 (List.mem_cons_self ..)
    cases this
  | x :: l, y :: r, h1, h2, h => by
    obtain ⟨a1, a2⟩ := List.pairwise_cons.mp h1
    obtain ⟨b1, b2⟩ := List.pairwise_cons.mp h2
    have e : x = y := by
      rcases List.mem_cons.mp ((h x).1 (List.mem_cons_self ..)) with e | hx
      · exact e
      · rcases List.mem_cons.mp ((h y).2 (List.mem_cons_self ..)) with e | hy
        · exact e.symm
        · exact absurd (List.lt_trans (a1 y hy) (b1 x hx)) (List.lt_irrefl _)
    subst e
    have e2 : l = r := asc_one a2 b2 fun k => by
      constructor
      · intro hk
        rcases List.mem_cons.mp ((h k).1 (List.mem_cons_of_mem _ hk)) with e | hk'
        · subst e
          exact absurd (a1 k hk) (List.lt_irrefl _)
        · exact hk'
      · intro hk
        rcases List.mem_cons.mp ((h k).2 (List.mem_cons_of_mem _ hk)) with e | hk'
        · subst e
          exact absurd (b1 k hk) (List.lt_irrefl _)
        · exact hk'
    rw [e2]
theorem asc_of {l : List (List Nat)} (h : l.Pairwise (· ≤ ·)) (d : l.Nodup) : Asc l := by
  induction l with
  | nil => exact List.Pairwise.nil
  | cons x l ih =>
    obtain ⟨h1, h2⟩ := List.pairwise_cons.mp h
    obtain ⟨d1, d2⟩ := List.nodup_cons.mp d
    refine List.pairwise_cons.mpr ⟨fun y hy => ?_, ih h2 d2⟩
    rcases lt_tri x y with c | c | c
    · exact c
    · exact absurd (c ▸ hy) d1
    · exact absurd c (List.not_lt.mpr (h1 y hy))

def textOf (v : Value) : Str := match v with | .str x _ => x | _ => Str.empty
theorem each_text : ∀ {vs : List Value}, (∀ v ∈ vs, ∃ x t, v = Value.str x t) → PySem.W.EachIs (fun v b => ∃ t, v = Value.str b t) vs (vs.map textOf)
  | [], _ => .nil
  | v :: vs, h => by
    obtain ⟨x, t, e⟩ := h v (List.mem_cons_self ..)
    subst e
    exact .cons ⟨t, rfl⟩ (each_text fun u hu => h u (List.mem_cons_of_mem _ hu))
theorem strs_each : ∀ {vs : List Value} {xs : List Str}, PySem.W.EachIs (fun v b => ∃ t, v = Value.str b t) vs xs → StrsAre vs xs
  | _, _, .nil => .nil
  | _, _, .cons ⟨t, e⟩ r => by
    subst e
    exact .cons _ t (strs_each r)
theorem T_of_map (ys : List Str) : (ys.map fun y => y.cps.toList).map T = ys := by
  rw [List.map_map]
  exact (List.map_congr_left fun y _ => T_of y).trans (List.map_id _)

section
variable {P : Program} {w : World} {A : Around} {E : Value → Shared → Prop} {s : Shared} {a : Addr}
theorem sorted_tset {zs : List (List Nat)} {Q : Value → Shared → Prop} (R : TSet w s.heap a (setOfL (zs.map T))) (hh : A.handled = none) (hu : A.units + 10 < cLine)
    (hQ : ∀ s' p (out : Array Value) (c : Nat), (∀ b o, s.heap.get? b = some o → s'.heap.get? b = some o) → s'.gens = s.gens → s'.os = s.os → s.heap.objs.size ≤ p →
      s'.heap.get? p = some (seqObj "list" out c) → StrsAre out.toList ((sortU zs).map T) → (sortU zs).length ≤ sizeLine → Q (.ref p) s') :
    wpAny (model P w) A (call (.builtin "sorted") [.ref a]) Q E s := by
  obtain ⟨o, es, ep, t, ho, hex, hd, g, pm0, nd, hb, hf, hr, hl⟩ := R
  have hsz : es.size = (setOfL (zs.map T)).length := by
    have q := pm0.length_eq
    rw [List.length_map, Array.length_toList] at q
    exact q
  have hbz : es.size < scanBound := by rw [hsz]; exact hb
  refine Calls.call_function_entry kind_sorted plain_sorted entry_sorted (args_sorted1 _) ?_
  unfold Builtin.«sorted»
  refine wpAny_bind (m := checkCount "sorted" 1 1 _) (wpAny_pure ?_)
  refine wpAny_bind (collect_set (A := A.in1) hh ⟨o, ho, hex.1, hd⟩ hf hbz hr hl fun s1 vs k1 hz g1 o1 pm => ?_)
  have hvl : vs.length = es.size := by rw [pm.length_eq, List.length_map, Array.length_toList]
  have hT : ∀ v ∈ vs, ∃ x t, v = Value.str x t := fun v hv => by
    obtain ⟨e, he, q⟩ := List.mem_map.mp (pm.mem_iff.mp hv)
    obtain ⟨x, tk, h1, _⟩ := g e he
    exact ⟨x, tk, by rw [← q]; exact h1⟩
  have pk : (vs.map textOf).Perm (setOfL (zs.map T)) := by
    have q := pm.map textOf
    rw [List.map_map] at q
    exact q.trans pm0
  have eE := each_text hT
  have hln : (vs.map textOf).length ≤ sizeLine := by
    rw [List.length_map, hvl]
    exact fits_of_scanBound hbz
  refine wpAny_bind (wpAny_newList ?_ (by rw [hvl]; exact fits_of_scanBound hbz))
  have hoL : (s1.heap.push (seqObj "list" vs.toArray 0)).get? s1.heap.objs.size = some (seqObj "list" vs.toArray 0) := Heap.get?_push_size _ rfl
  have hin : A.in1.units + 1 + 0 < cLine := by
    have e : A.in1.units = A.units + 1 := rfl
    rw [e]
    omega
  refine wpAny_bind (wpAny_holding (PySem.W.list_sort_data (A := A.in1) (s := { s1 with heap := s1.heap.push (seqObj "list" vs.toArray 0) }) (enc := PyData.str) (R := fun v b => ∃ t, v = Value.str b t) hoL eE (eE.mono fun v b ⟨t, e⟩ => by subst e; exact ⟨[], .str b t, by simp⟩) (PySem.W.AllAlike.of fun b b' => by simp [PySem.W.alike]) (PySem.W.Sortable.others fun b => ⟨by simp, fun xs => by simp⟩) hln
    (fun b hb => by simpa [PyData.depth] using hin) fun out hol hout => ?_))
  obtain ⟨c, hc⟩ := sortedHeap_at (vs := vs) (out := out.toArray) hoL
  rw [PySem.W.dataLe_str] at hout
  generalize hms : (vs.map textOf).mergeSort (fun a b => decide (a.cps.toList ≤ b.cps.toList)) = ms at hout
  have hp : ms.Perm (setOfL (zs.map T)) := by rw [← hms]; exact (List.mergeSort_perm _ _).trans pk
  have hw : ms.Pairwise fun a b => a.cps.toList ≤ b.cps.toList := by
    rw [← hms]
    refine (List.pairwise_mergeSort (fun a b c h1 h2 => ?_) (fun a b => ?_) _).imp fun h => of_decide_eq_true h
    · exact decide_eq_true (List.le_trans (of_decide_eq_true h1) (of_decide_eq_true h2))
    · rw [Bool.or_eq_true]
      exact (List.le_total a.cps.toList b.cps.toList).imp decide_eq_true decide_eq_true
  have ems : ms = (sortU zs).map T := by
    have e : ms.map (fun y => y.cps.toList) = sortU zs := by
      refine asc_one (asc_of (List.pairwise_map.mpr hw) ?_) (sortU_asc _) fun k => ?_
      · refine List.Pairwise.map _ (fun x y ne e => ne ?_) (hp.nodup_iff.mpr nd)
        have := congrArg T e
        rw [T_of, T_of] at this
        exact this
      · rw [sortU_mem, List.mem_map]
        constructor
        · rintro ⟨y, hy, rfl⟩
          have := hp.mem_iff.mp hy
          unfold setOfL at this
          rcases (foldS_mem y _ _).mp this with h | h
          · cases h
          · obtain ⟨z, hz, rfl⟩ := List.mem_map.mp h
            rw [T_cps]
            exact hz
        · intro hk
          refine ⟨T k, hp.mem_iff.mpr ?_, T_cps k⟩
          unfold setOfL
          exact (foldS_mem _ _ _).mpr (.inr (List.mem_map.mpr ⟨k, hk, rfl⟩))
    rw [← e, T_of_map]
  rw [ems] at hout
  have hlen : (sortU zs).length ≤ sizeLine := by
    have e1 := congrArg List.length ems
    rw [List.length_map, hp.length_eq, ← hsz] at e1
    rw [← e1]
    exact fits_of_scanBound hbz
  refine wpAny_pure ⟨_, rfl, hQ _ s1.heap.objs.size out.toArray c (fun b u e => ?_) g1 o1 hz hc (by simpa using strs_each hout) hlen⟩
  have q := k1 b u e
  have hlt := Heap.lt_size q
  show (sortedHeap (s1.heap.push (seqObj "list" vs.toArray 0)) s1.heap.objs.size vs out.toArray).get? b = some u
  rw [sortedHeap_old (Nat.ne_of_lt hlt) (by rw [size_push']; exact Nat.lt_succ_of_lt hlt)]
  exact Heap.get?_push_of_some _ q
end
theorem vals_strs : ∀ {xs : List Str} {us : List Value}, StrsAre us xs → Vals (xs.map V.str) us
  | _, _, .nil => .nil
  | _, _, .cons x t h => .cons ⟨t, rfl⟩ (vals_strs h)
theorem strs_vals : ∀ {xs : List Str} {us : List Value}, Vals (xs.map V.str) us → StrsAre us xs
  | [], _, .nil => .nil
  | x :: xs, _ :: us, .cons r h => by
    obtain ⟨t, rfl⟩ := r
    exact .cons x t (strs_vals h)
section
variable {X : Cx}
def tSS (ta : TE) : TE := fun σ H Q => ta σ H fun x H1 => ∃ (l : Addr) (zs : List (List Nat)), x = V.ref l ∧ Rd H1 l (.lst ((zs.map T).map V.str)) ∧ zs.length + 1 < scanBound ∧
  ∀ p, H1 p = none → Q (.ref p) (upd H1 p (.lst (((sortU zs).map T).map V.str)))
theorem pe_sortedSet {a : Expr} {ta : TE} {p p2 q pos : Pos} (hc : X.calm = true) (hu : X.A.units + 160 < cLine) (hg : Gl X "sorted") (hm : X.mg "sorted" = none) (hg2 : Gl X "set") (hm2 : X.mg "set" = none) (ha : PE X a ta)
    (na : starEach [a] X.env = (false, eval a X.env) :: starEach [] X.env) : PE X (.Call (.Name "sorted" p) [.Call (.Name "set" p2) [a] [] q] [] pos) (tSS ta) := by
  refine ⟨fun pins s σ H Q I h => ?_⟩
  refine Call_ (ld_blt I hg hm PyProof.Rows.boot_sorted ?_)
  refine PyProof.Rows.callWith_builtin1 (PyProof.Rows.args_cons ?_ rfl) rfl rfl
  refine Call_ (ld_blt I hg2 hm2 PyProof.Rows.boot_set ?_)
  refine PyProof.Rows.callWith_type1 (PyProof.Rows.args_cons (thn (ha.run pins s σ H _ I h) fun v s1 ⟨x, H1, I1, r1, q1⟩ => PyProof.Rows.args_nil ?_) na) na rfl
  obtain ⟨l, zs, rfl, hq, h1, q1⟩ := q1
  cases r1
  obtain ⟨_, its, n, r, _, hl⟩ := rd_lst I1 hq
  refine call_set_texts (zs.map T) (I1.ok.hd hc) ⟨_, hl, rfl, n, rfl⟩ (by simpa using strs_vals r) (by rw [List.length_map]; exact h1) fun h' tk hS hk => ?_
  refine PyProof.Rows.args_nil ?_
  have I2 : Inv X pins σ H1 { s1 with heap := h', toks := tk } := I1.kept hk
  refine sorted_tset (s := { s1 with heap := h', toks := tk }) hS (I2.ok.hd hc) (by omega) fun s' p out c k g o hp hg hout hlen => ?_
  have hn : H1 p = none := I2.hok.fresh hp
  have J : Inv X pins σ (upd H1 p (.lst (((sortU zs).map T).map V.str))) s' :=
    Inv.call' (ch := []) I2 o (Un.laid k hp hn) (I2.hok.laid k hp ⟨by rw [List.length_map, List.length_map]; exact hlen, out.toList, c, vals_strs hout, hg⟩) (by rw [g]; exact I2.bare) (fun _ z => nomatch z)
  exact ⟨.ref p, _, J, rfl, q1 p hn⟩
end
theorem insU_len (x : List Nat) : ∀ l : List (List Nat), (insU x l).length ≤ l.length + 1
  | [] => by simp [insU]
  | y :: r => by
    have := insU_len x r
    unfold insU
    split
    · simp
    · split
      · simp
      · simp only [List.length_cons]
        omega
theorem sortU_len : ∀ l : List (List Nat), (sortU l).length ≤ l.length
  | [] => Nat.le_refl _
  | x :: l => by
    have h1 := insU_len x (sortU l)
    have h2 := sortU_len l
    show (insU x (sortU l)).length ≤ _
    rw [List.length_cons]
    omega
theorem reps_short {K : PySem.W.Frag} {H : Hp} : ∀ {vs : List V} {ds : List D} {l : List (List Nat)}, Reps K H vs ds → dTexts ds = some l → ∀ z ∈ l, z.length ≤ line
  | _, [], _, .nil, e => by cases e; intro z hz; cases hz
  | _, d :: ds, l, .cons h r, e => by
    cases d <;> simp only [dTexts, reduceCtorEq] at e
    cases q : dTexts ds with
    | none => rw [q] at e; cases e
    | some l' =>
      rw [q] at e
      cases e
      intro z hz
      rcases List.mem_cons.mp hz with rfl | hz
      · exact h.str_inv.2
      · exact reps_short r q z hz
theorem reps_of_texts {K : PySem.W.Frag} {H : Hp} : ∀ {l : List (List Nat)}, (∀ z ∈ l, z.length ≤ line) → Reps K H ((l.map T).map V.str) (l.map D.str)
  | [], _ => .nil
  | z :: l, h => .cons (.str z (h z (List.mem_cons_self ..))) (reps_of_texts fun y hy => h y (List.mem_cons_of_mem _ hy))
/-- what sorted(set(l)) gives -/
theorem sortedSet_ok {K : PySem.W.Frag} {H H1 : Hp} {v : V} {d d2 : D} {Q : VK} (e1 : Ex H H1) (r : RepB K H1 v d) (ed : opF .sortedSet [d] = some d2) (g : ∀ v H', Ex H H' → RepK .C K H H' v d2 → Q v H') :
    ∃ (l : Addr) (zs : List (List Nat)), v = V.ref l ∧ Rd H1 l (.lst ((zs.map T).map V.str)) ∧ zs.length + 1 < scanBound ∧ ∀ p, H1 p = none → Q (.ref p) (upd H1 p (.lst (((sortU zs).map T).map V.str))) := by
  cases d <;> simp only [opF, reduceCtorEq] at ed
  rename_i ys
  cases q0 : dTexts ys with
  | none => rw [q0] at ed; cases ed
  | some l =>
    rw [q0] at ed
    simp only [Option.bind_some] at ed
    split at ed <;> cases ed
    rename_i hb
    obtain ⟨a, vs, rfl, ha, rr⟩ := r.lst_inv
    have hlen : ∀ z ∈ l, z.length ≤ line := reps_short rr q0
    rw [reps_texts rr q0] at ha
    refine ⟨a, l, rfl, ha, hb, fun p hp => g _ _ (e1.trans (Ex.new hp)) (FRep.back e1 (frep_lst hp (reps_of_texts fun z hz => hlen z ((sortU_mem z l).mp hz)) ?_))⟩
    have h1 : (sortU l).length ≤ l.length := sortU_len l
    have h2 : scanBound = 4096 := rfl
    have h3 : line = 16777216 := by decide
    rw [List.length_map]
    omega
section
variable {X : Cx}
theorem each_reps {K : PySem.W.Frag} {H : Hp} : ∀ {vs : List V} {us : List Value} {ds : List D}, Vals vs us → Reps K H vs ds → PySem.W.EachIs (fun u d => ∃ v, RelV v u ∧ Rep K H v d) us ds
  | _, _, _, .nil, .nil => .nil
  | _, _, _, .cons r t, .cons h t2 => .cons ⟨_, r, h⟩ (each_reps t t2)
theorem reps_each {K : PySem.W.Frag} {H : Hp} : ∀ {us : List Value} {ds : List D}, PySem.W.EachIs (fun u d => ∃ v, RelV v u ∧ Rep K H v d) us ds → ∃ vs, Vals vs us ∧ Reps K H vs ds
  | _, _, .nil => ⟨[], .nil, .nil⟩
  | _, _, .cons ⟨v, r, h⟩ t => by
    obtain ⟨vs, h1, h2⟩ := reps_each t
    exact ⟨v :: vs, .cons r h1, .cons h h2⟩
theorem call_sorted_ (hc : X.calm = true) (hu : X.A.units + 160 < cLine) : CallR X (.builtin "sorted") (rF X.K .sorted) := by
  intro pins s σ H xs us Q I r ⟨ds, d, h, e, q⟩
  match ds, e with
  | [.lst ys], e =>
    simp only [opF] at e
    split at e <;> cases e
    rename_i hok
    simp only [sortOk, Bool.and_eq_true, List.all_eq_true, Bool.or_eq_true, decide_eq_true_eq] at hok
    obtain ⟨⟨ok1, ok2⟩, ok3⟩ := hok
    obtain ⟨v, rfl, hv⟩ := h.one
    obtain ⟨a, vs, rfl, ha, rr⟩ := hv.lst_inv
    rw [Vals.ref1 r]
    obtain ⟨z, its, n, rv, hl, hget⟩ := rd_lst I ha
    have hz : ys.length ≤ sizeLine := by rw [← rr.length]; exact z
    refine PySem.W.sorted_data (enc := D.py) (bs := ys) (vs := its) (R := fun u d => ∃ v, RelV v u ∧ Rep X.K H v d) ⟨_, hget, rfl, n, rfl⟩ (each_reps rv rr) ((each_reps rv rr).mono fun u d ⟨v, r, h⟩ => Dp.reads I _ v u h.dp r) (fun d hd d' hd' => ?_) ?_ hz (fun d hd => ?_) fun out hol hout => ?_
    · obtain ⟨b, hb, rfl⟩ := List.mem_map.mp hd
      obtain ⟨b', hb', rfl⟩ := List.mem_map.mp hd'
      exact ok1 b hb b' hb'
    · refine ok2.imp (fun h d hd => ?_) (fun h d hd => ?_)
      · obtain ⟨b, hb, rfl⟩ := List.mem_map.mp hd
        have := h b hb
        unfold isTupNE at this
        split at this
        · exact ⟨_, _, by rw [D.py, D.pyL]⟩
        · cases this
      · obtain ⟨b, hb, rfl⟩ := List.mem_map.mp hd
        have := h b hb
        unfold notTN at this
        split at this
        · cases this
        · cases this
        · rename_i n1 n2
          constructor
          · cases b <;> simp [D.py]
            exact n1 rfl
          · cases b <;> simp [D.py]
            exact n2 _ rfl
    · have := ok3 d hd
      have := py_depth d
      omega
    · obtain ⟨c, hcc⟩ := sortedAll_at s.heap its out.toArray
      obtain ⟨ws, h1, h2⟩ := reps_each hout
      have hp : H (s.heap.objs.size + 1) = none := I.hok.fresh (Nat.le_succ _)
      have hlen : ws.length ≤ sizeLine := by
        rw [h2.length, (List.mergeSort_perm _ _).length_eq]
        exact hz
      refine ⟨.ref _, upd H (s.heap.objs.size + 1) (.lst ws), I.laid (t' := s.toks) (fun _ _ => sortedAll_old) (Nat.le_succ _) ⟨hlen, out, c, h1, hcc⟩, rfl, q _ _ (Ex.new hp) (frep_lst hp h2 ?_)⟩
      have e2 : ws.length = (ys.mergeSort leD).length := h2.length
      rw [← e2]
      exact hlen
  | [.non], e | [.bl _], e | [.int _], e | [.str _], e | [.tup _], e => simp [opF] at e
  | [], e => simp [opF] at e
  | _ :: _ :: _, e => simp [opF] at e
end
end Ev

/-! x[::-1] of lists and tuples. -/
namespace HT
open PySem PySem.Spec PyProof.Rows
section
variable {prog : Program} {w : World} {A : Around} {E : Value → Shared → Prop} {s : Shared}
theorem adjust_rev (n : Nat) : Builtin.Slice.sliceAdjust none none (-1) (n : Int) = ((n : Int) - 1, -1) := by
  unfold Builtin.Slice.sliceAdjust
  simp
theorem places_rev (n : Nat) : Builtin.Slice.slicePlaces ((n : Int) - 1) (-1) (-1) = n := by
  unfold Builtin.Slice.slicePlaces
  simp
  omega
theorem sliceApplied_rev {sl : Addr} {vl vu vs : Value} {n : Nat} {Q : Int × Int × Nat → Shared → Prop} (hs : s.heap.IsSliceOf sl vl vu vs) (pl : IsPart vl none) (pu : IsPart vu none) (ps : IsPart vs (some (-1)))
    (h : Q ((n : Int) - 1, -1, n) s) : wpAny (model prog w) A (Builtin.Slice.sliceApplied (.ref sl) (pure (n : Int))) Q E s := by
  obtain ⟨os, hos, hcs, hds⟩ := id hs
  unfold Builtin.Slice.sliceApplied Builtin.Slice.sliceFields
  refine wpAny_bind (wpAny_bind (wpAny_field hos hds (x := vl) rfl (wpAny_bind (wpAny_field hos hds (x := vu) rfl (wpAny_bind (wpAny_field hos hds (x := vs) rfl (wpAny_pure ?_)))))))
  refine wpAny_bind (slicePart_ ps ?_)
  show wpAny _ _ (if ((-1 : Int) == 0) = true then _ else _) _ _ s
  rw [if_neg (by decide)]
  refine wpAny_bind (slicePart_ pl (wpAny_bind (slicePart_ pu (wpAny_bind (wpAny_pure ?_)))))
  show wpAny _ _ (match Builtin.Slice.sliceAdjust none none (-1) (n : Int) with | (lo, hi) => pure (lo, (-1 : Int), Builtin.Slice.slicePlaces lo hi (-1))) _ _ s
  rw [adjust_rev n]
  show wpAny _ _ (pure ((n : Int) - 1, (-1 : Int), Builtin.Slice.slicePlaces ((n : Int) - 1) (-1) (-1))) _ _ s
  rw [places_rev]
  exact wpAny_pure h
theorem pick_rev (xs : Array Value) : ((List.range xs.size).filterMap fun (m : Nat) => xs[(((xs.size : Nat) : Int) - 1 + (m : Int) * (-1)).toNat]?).toArray = xs.toList.reverse.toArray := by
  congr 1
  have e : ∀ m ∈ List.range xs.size, xs[(((xs.size : Nat) : Int) - 1 + (m : Int) * (-1)).toNat]? = some (xs.toList.reverse.getD m .none) := fun m hm => by
    have hm := List.mem_range.mp hm
    have : (((xs.size : Nat) : Int) - 1 + (m : Int) * (-1)).toNat = xs.size - 1 - m := by omega
    rw [this]
    have h2 : m < xs.toList.length := by simpa using hm
    rw [List.getD_eq_getElem?_getD, List.getElem?_reverse h2]
    simp
    have h3 : xs.size - 1 - m < xs.size := by omega
    simp [h3]
  have e2 : ∀ (l : List Nat), (∀ m ∈ l, xs[(((xs.size : Nat) : Int) - 1 + (m : Int) * (-1)).toNat]? = some (xs.toList.reverse.getD m .none)) → (l.filterMap fun (m : Nat) => xs[(((xs.size : Nat) : Int) - 1 + (m : Int) * (-1)).toNat]?) = l.map fun m => xs.toList.reverse.getD m .none := fun l => by
    induction l with
    | nil => intro _; rfl
    | cons a l ih =>
      intro h
      rw [List.filterMap_cons, h a (List.mem_cons_self ..), List.map_cons, ih fun m hm => h m (List.mem_cons_of_mem _ hm)]
  rw [e2 _ e]
  apply List.ext_getElem
  · simp
  · intro i h1 h2
    simp at h2
    simp [h2]
theorem getItem_tuple_rev {t sl : Addr} {items : Array Value} {vl vu vs : Value} {Q : Value → Shared → Prop} (ht : IsTup s.heap t items) (hs : s.heap.IsSliceOf sl vl vu vs) (pl : IsPart vl none) (pu : IsPart vu none) (ps : IsPart vs (some (-1)))
    (h : Q (.ref s.heap.objs.size) { s with heap := s.heap.push { cls := .type "tuple", data := .seq items.toList.reverse.toArray } })
    (hsz : items.size ≤ sizeLine) : wpAny (model prog w) A (getItem (.ref t) (.ref sl)) Q E s := by
  have htake : sizeOk (.seq items.toList.reverse.toArray) := by
    show items.toList.reverse.toArray.size ≤ sizeLine
    simpa using hsz
  obtain ⟨os, hos, hcs, hds⟩ := id hs
  have hTs : s.TypeIs (.ref sl) "slice" := ⟨os, hos, hcs⟩
  unfold getItem
  try with_reducible refine wpAny_holding ?_
  first | refine wpAny_bind (wpAny_pure ?_) | skip
  refine wpAny_bind (wpAny_sequenceKey ht.typeIs (by decide) ?_)
  refine wpAny_bind (wpAny_callSpecial?_slot (name := Str.ofString "__getitem__") ht.typeIs PyProof.Rows.slot_tuple_getitem
    (wpAny_call_entry PyProof.Rows.slot_tuple_getitem ht.typeIs entry_tuple_getitem ?_ (args_tuple_getitem _ _)))
  show wpAny _ _ (Builtin.Tuple.tupleItemsOf (.ref t) >>= _) _ _ s
  refine wpAny_bind (tupleItemsOf_ ht ?_)
  refine wpAny_bind (wpAny_typeOf hTs ?_)
  rw [if_pos (by decide)]
  refine wpAny_bind (sliceApplied_rev hs pl pu ps ?_)
  have hno : ¬ ((((items.size : Int) - 1) == 0 && (-1 : Int) == 1 && items.size == items.size) = true) := by
    intro q
    rw [Bool.and_eq_true, Bool.and_eq_true] at q
    exact absurd q.1.2 (by decide)
  show wpAny _ _ (if (((items.size : Int) - 1) == 0 && (-1 : Int) == 1 && items.size == items.size) = true then _ else _) _ _ s
  rw [if_neg hno, pick_rev]
  first
    | exact wpAny_bind (m := Builtin.Tuple.tupleExact _) (wpAny_newObj_type (wpAny_pure ⟨_, rfl, wpAny_pure h⟩) htake)
    | exact wpAny_bind (m := Builtin.Tuple.tupleExact _) (wpAny_newObj_type (wpAny_bind (wpAny_pure (wpAny_pure ⟨_, rfl, wpAny_pure h⟩))) htake)
    | exact wpAny_bind (wpAny_bind (m := Builtin.Tuple.tupleExact _) (wpAny_newObj_type (wpAny_pure (wpAny_pure ⟨_, rfl, wpAny_pure h⟩)) htake))
    | exact wpAny_bind (wpAny_bind (m := Builtin.Tuple.tupleExact _) (wpAny_newObj_type (wpAny_pure ⟨_, rfl, wpAny_pure h⟩) htake))
end
end HT
namespace Ev
open PySem PySem.Spec
open PyProof.Rows hiding St
open L2
/-- x[::-1], x a list or a tuple -/
def tRevA (K : PySem.W.Frag) (te : TE) : TE := fun σ H Q => te σ H fun x H1 => ∃ a xs, x = .ref a ∧ ((SqL K H1 a xs ∧ ∀ p, H1 p = none → Q (.ref p) (upd H1 p (.lst xs.reverse))) ∨ (SqT K H1 a xs ∧ ∀ p, H1 p = none → Q (.ref p) (upd H1 p (.tup xs.reverse))))
theorem pe_revA {X : Cx} {e : Expr} {te : TE} {k : Nat} {p1 p2 p3 pos : Pos} (he : PE X e te) : PE X (.Subscript e (.Slice none none (some (.UnaryOp .USub (.Constant (.int 1) k p1) p2)) p3) pos) (tRevA X.K te) := by
  refine ⟨fun pins s σ H Q I h => ?_⟩
  refine Subscript_ (thn (he.run pins s σ H _ I h) fun v s1 ⟨x, H1, I1, r1, q1⟩ => ?_)
  obtain ⟨a, xs, ex, q⟩ := q1
  subst ex
  cases r1
  have hst : PO X (some (.UnaryOp .USub (.Constant (.int 1) k p1) p2)) (tPart (tUn (rU fun i => .int (-i)) (tC (.int 1)))) := po_some (pe_un un_neg pe_int)
  refine wpAny_Slice (thn (po_none.run pins s1 σ H1 (fun o H2 => o = none ∧ H2 = H1) I1 ⟨rfl, rfl⟩) fun vl s2 ⟨l, H2, I2, pl, el, e2⟩ => ?_)
  subst el e2
  refine thn (po_none.run pins s2 σ H2 (fun o H3 => o = none ∧ H3 = H2) I2 ⟨rfl, rfl⟩) fun vu s3 ⟨u, H3, I3, pu, eu, e3⟩ => ?_
  subst eu e3
  refine thn (hst.run pins s3 σ H3 (fun o H4 => o = some (-1) ∧ H4 = H3) I3 ⟨1, rfl, -1, rfl, rfl, rfl⟩) fun vs s4 ⟨o, H4, I4, ps, eo, e4⟩ => ?_
  subst eo e4
  have I5 : Inv X pins σ H4 { s4 with heap := s4.heap.push { cls := .type "slice", data := .fields #[vl, vu, vs] } } := I4.kept (t' := s4.toks) fun b ob q => Heap.get?_push_of_some _ q
  show wpAny (model X.prog X.w) X.A (subscriptTail e (.Slice none none (some (.UnaryOp .USub (.Constant (.int 1) k p1) p2)) p3) (.ref a) (.ref s4.heap.objs.size)) (EP X pins σ Q) X.xe { s4 with heap := s4.heap.push { cls := .type "slice", data := .fields #[vl, vu, vs] } }
  rcases q with ⟨hx, q⟩ | ⟨hx, q⟩
  · obtain ⟨its, r, ht, hz⟩ := I5.list hx
    have hlen := r.length
    refine tail_any (ops := [.ref a, .ref s4.heap.objs.size]) ht.isList.typeIs (PySem.slot_list_getitem.lookup) ?_ (by with_unfolding_all rfl)
    refine wpAny_getItem_list_slice ht.isList (Heap.IsSliceOf.new _ vl vu vs) pl pu ps (by decide) ?_ (by rw [List.size_toArray]; omega)
    rw [PySem.W.krv_pick]
    refine ⟨.ref _, _, I5.laid (t' := s4.toks) (o := .lst xs.reverse) (fun b ob q => Heap.get?_push_of_some _ q) (Nat.le_refl _) ?_, rfl, q _ (I5.hok.fresh (Nat.le_refl _))⟩
    exact ⟨by rw [List.length_reverse]; exact hz, _, 0, r.reverse, Heap.get?_push_size _ rfl⟩
  · obtain ⟨its, r, ht, hz⟩ := I5.tuple hx
    have hlen := r.length
    refine tail_any (ops := [.ref a, .ref s4.heap.objs.size]) ht.typeIs (PyProof.Rows.slot_tuple_getitem.lookup) ?_ (by with_unfolding_all rfl)
    refine HT.getItem_tuple_rev ht (Heap.IsSliceOf.new _ vl vu vs) pl pu ps ?_ (by rw [List.size_toArray]; omega)
    refine ⟨.ref _, _, I5.laid (t' := s4.toks) (o := .tup xs.reverse) (fun b ob q => Heap.get?_push_of_some _ q) (Nat.le_refl _) ?_, rfl, q _ (I5.hok.fresh (Nat.le_refl _))⟩
    exact ⟨by rw [List.length_reverse]; exact hz, _, r.reverse, IsTup.new _ _⟩
end Ev

/-! The text against the core syntax; expressions are sound. -/
namespace Ev
open PySem PySem.Spec
open PyProof.Rows hiding St
open L2
open Evl (Ex)

/-- what a row's text fixes -/
structure Lw where
  T : Nat → Option FD
  gl : Nat → Option D
  nm : Nat → Str
  exm : Nat → Nat → Option Bool

def nmOk (x : Str) : Bool := !(x == ("__debug__" : Str)) && !(x == ("__classdict__" : Str)) && !(x == ("__name__" : Str))
def visB (sc : Scope) (x : Str) : Bool := nmOk x && (match sc.names.lookup x with | some .local => true | some .cell => true | some .free => true | _ => false)
def locB (sc : Scope) (x : Str) : Bool := match sc.names.lookup x with | some .local => true | some .cell => true | _ => false
def gloB (sc : Scope) (x : Str) : Bool := nmOk x && (match sc.names.lookup x with | some .globalImplicit => true | _ => false)
def notStar : Expr → Bool | .Starred .. => false | _ => true
def notSet : Expr → Bool | .Set .. => false | _ => true
def notSlice : Expr → Bool | .Slice .. => false | _ => true
def notComp : Expr → Bool | .ListComp .. => false | .SetComp .. => false | .DictComp .. => false | _ => true
def notCall : Expr → Bool | .Call .. => false | _ => true
def plainT : Expr → Bool | .UnaryOp .Not .. => false | .BoolOp .. => false | .Compare .. => false | .IfExp .. => false | _ => true

def plainOw : Ow → Bool
  | .no => true
  | .own => true
  | _ => false
def oKd : Ow → Kd
  | .own => .C
  | _ => .V
def kd (L : Lw) : E → Kd
  | .bor _ => .B
  | .lst _ | .comp _ _ _ _ | .bin _ _ _ | .sl _ _ _ | .bf _ _ | .mt _ _ _ | .lrng _ | .revs _ => .C
  | .call f _ => match L.T f with
    | some fd => oKd fd.own
    | none => .V
  | _ => .V
def isV (L : Lw) (e : E) : Bool := match e with | .bor _ => false | _ => true
def isC (L : Lw) (e : E) : Bool := match kd L e with | .C => true | _ => false
def Bo.chk (o : Bo) (p : Operator) : Bool := decide (o.py = p)
def Co.chk (o : Co) (p : CmpOp) : Bool := decide (o.py = p)
def isTy : Bf → Bool
  | .isInt | .isBool | .isStr | .isTuple => true
  | _ => false

mutual
def chkE (L : Lw) (N : List Str) : E → Scope → Expr → Bool
  | .var i, sc, e => match e with
    | .Name x _ => decide (N[i]? = some x) && visB sc x
    | _ => false
  | .bor i, sc, e => match e with
    | .Name x _ => decide (N[i]? = some x) && visB sc x
    | _ => false
  | .lit d, _, e => match d, e with
    | .non, .Constant .none _ _ => true
    | .bl b, .Constant (.bool c) _ _ => b == c
    | .int i, .Constant (.int j) _ _ => decide (i = j)
    | .str s, .Constant (.str x) _ _ => decide (x.cps.toList = s) && decide (s.length ≤ line)
    | _, _ => false
  | .glob g, sc, e => match e with
    | .Name x _ => decide (x = L.nm g) && gloB sc x
    | _ => false
  | .tup es, sc, e => match e with
    | .Tuple xs _ _ => chkEs L N es (xs.map fun _ => false) sc xs && decide (xs.length ≤ line)
    | _ => false
  | .lst es, sc, e => match e with
    | .List xs _ => chkEs L N es (xs.map fun _ => false) sc xs && decide (xs.length ≤ line)
    | _ => false
  | .bin o a b, sc, e => match e with
    | .BinOp x p y _ => o.chk p && chkE L N a sc x && chkE L N b sc y
    | _ => false
  | .lrng a, sc, e => match e with
    | .Call (.Name l _) [.Call (.Name x _) [y] [] _] [] _ => decide (l = ("list" : Str)) && gloB sc l && decide (x = ("range" : Str)) && gloB sc x && chkE L N a sc y && notStar y
    | _ => false
  | .revs a, sc, e => match e with
    | .Subscript x (.Slice none none (some (.UnaryOp .USub (.Constant (.int i) _ _) _)) _) _ => decide (i = 1) && chkE L N a sc x
    | _ => false
  | .prt i k, sc, e => match e with
    | .Subscript (.Name x _) (.Constant (.int j) _ _) _ => decide (N[i]? = some x) && visB sc x && decide (j = (k : Int))
    | _ => false
  | .neg a, sc, e => match e with
    | .UnaryOp .USub x _ => chkE L N a sc x
    | _ => false
  | .not a, sc, e => match e with
    | .UnaryOp .Not x _ => chkE L N a sc x && chkT x
    | _ => false
  | .and a b, sc, e => match e with
    | .BoolOp .And (x :: y :: r) pos => chkE L N a sc x && chkT x && (match r with
      | [] => chkE L N b sc y && chkT y
      | _ => (match b with | .and _ _ => true | _ => false) && chkE L N b sc (.BoolOp .And (y :: r) pos))
    | _ => false
  | .or a b, sc, e => match e with
    | .BoolOp .Or (x :: y :: r) pos => chkE L N a sc x && chkT x && (match r with
      | [] => chkE L N b sc y && chkT y
      | _ => (match b with | .or _ _ => true | _ => false) && chkE L N b sc (.BoolOp .Or (y :: r) pos))
    | _ => false
  | .cmp o a b, sc, e => match e with
    | .Compare x [p] [y] _ => o.chk p && chkE L N a sc x && chkE L N b sc y && notSet y
    | _ => false
  | .chain o p a b c, sc, e => match e with
    | .Compare x [q, r] [y, z] _ => o.chk q && p.chk r && chkE L N a sc x && chkE L N b sc y && chkE L N c sc z && notSet y && notSet z
    | _ => false
  | .isN a, sc, e => match e with
    | .Compare x [.Is] [.Constant .none _ _] _ => chkE L N a sc x
    | _ => false
  | .notN a, sc, e => match e with
    | .Compare x [.IsNot] [.Constant .none _ _] _ => chkE L N a sc x
    | _ => false
  | .ife c a b, sc, e => match e with
    | .IfExp t x y _ => chkE L N c sc t && chkT t && chkE L N a sc x && chkE L N b sc y && isV L a && isV L b
    | _ => false
  | .call f es, sc, e => match e with
    | .Call (.Name x _) (y :: ys) [] _ => decide (x = L.nm f) && gloB sc x && (match L.T f with
      | some fd => chkEs L N es fd.ps sc (y :: ys) && plainOw fd.own
      | none => false)
    | _ => false
  | .bf b es, sc, e => match e with
    | .Call (.Name x _) (y :: ys) [] _ => if isTy b then decide (x = ("isinstance" : Str)) && gloB sc x && (match es, ys with
        | .cons a .nil, [.Name t _] => chkE L N a sc y && decide (t = b.py.1) && gloB sc t && notStar y
        | _, _ => false)
      else if b = .sortedSet then decide (x = ("sorted" : Str)) && gloB sc x && (match es, y, ys with
        | .cons a .nil, .Call (.Name t _) [z] [] _, [] => chkE L N a sc z && decide (t = ("set" : Str)) && gloB sc t && notStar z
        | _, _, _ => false)
      else decide (b ≠ .sortedSet) && decide (x = b.py.1) && gloB sc x && chkEs L N es ((y :: ys).map fun _ => true) sc (y :: ys)
    | _ => false
  | .mt m a es, sc, e => match m, e with
    | .join, .Call (.Attribute o n ap) [y] [] p => decide (n = ("join" : Str)) && notCall o && (ap.endLine == p.line) && chkE L N a sc o && chkEs L N es [true] sc [y]
    | .islower, .Call (.Attribute o n ap) [] [] p => decide (n = ("islower" : Str)) && notCall o && (ap.endLine == p.line) && chkE L N a sc o && (match es with | .nil => true | _ => false)
    | .isupper, .Call (.Attribute o n ap) [] [] p => decide (n = ("isupper" : Str)) && notCall o && (ap.endLine == p.line) && chkE L N a sc o && (match es with | .nil => true | _ => false)
    | .isalnum, .Call (.Attribute o n ap) [] [] p => decide (n = ("isalnum" : Str)) && notCall o && (ap.endLine == p.line) && chkE L N a sc o && (match es with | .nil => true | _ => false)
    | _, _ => false
  | .ix a b, sc, e => match e with
    | .Subscript x y _ => chkE L N a sc x && chkE L N b sc y && notSlice y
    | _ => false
  | .sl a lo hi, sc, e => match e with
    | .Subscript x (.Slice l h none _) _ => chkE L N a sc x && (match l with
        | none => isLitNon lo
        | some l => !isLitNon lo && chkE L N lo sc l) && (match h with
        | none => isLitNon hi
        | some h => !isLitNon hi && chkE L N hi sc h)
    | _ => false
  | .comp x it cond elt, sc, e => match e with
    | .ListComp el [⟨.Name t _, iter, ifs, 0⟩] scope _ => decide (N[x]? = some t) && blkC N sc scope [(t, x)] && nmOk t && locB scope t && chkIt L N it sc iter && (match ifs with
        | [] => isLitTrue cond
        | [c] => chkE L N cond (relS scope sc) c && chkT c
        | _ => false) && chkE L N elt (relS scope sc) el && isV L elt
    | _ => false
def chkEs (L : Lw) (N : List Str) : Es → List Bool → Scope → List Expr → Bool
  | .nil, bs, _, xs => bs.isEmpty && xs.isEmpty
  | .cons e es, bs, sc, xs => match bs, xs with
    | b :: bs, x :: xs => chkE L N e sc x && notStar x && (b || isV L e) && chkEs L N es bs sc xs
    | _, _ => false
def chkIt (L : Lw) (N : List Str) : It → Scope → Expr → Bool
  | .seq a, sc, e => chkE L N a sc e && notSet e && isV L a
  | .rng1 a, sc, e => match e with
    | .Call (.Name x _) [y] [] _ => decide (x = ("range" : Str)) && gloB sc x && chkE L N a sc y && notStar y
    | _ => false
  | .rev a, sc, e => match e with
    | .Call (.Name x _) [y] [] _ => decide (x = ("reversed" : Str)) && gloB sc x && chkE L N a sc y && notStar y && isV L a
    | _ => false
  | .revr a, sc, e => match e with
    | .Call (.Name x _) [.Call (.Name r _) [y] [] _] [] _ => decide (x = ("reversed" : Str)) && gloB sc x && decide (r = ("range" : Str)) && gloB sc r && chkE L N a sc y && notStar y
    | _ => false
  | .rng2 a b, sc, e => match e with
    | .Call (.Name x _) [y, z] [] _ => decide (x = ("range" : Str)) && gloB sc x && chkE L N a sc y && notStar y && chkE L N b sc z && notStar z
    | _ => false
/-- may stand as a test -/
def chkT : Expr → Bool
  | .IfExp .. => false
  | _ => true
def isLitTrue : E → Bool
  | .lit (.bl true) => true
  | _ => false
end
end Ev

/-! Expressions are sound. -/
namespace Ev
open PySem PySem.Spec
open PyProof.Rows hiding St
open L2
open Evl (Ex)

def bnames : List Str := ["len", "int", "str", "tuple", "list", "sum", "all", "any", "max", "min", "isinstance", "bool", "range", "sorted", "set", "dict", "reversed", "zip"]
/-- how an error of the wished kind lies -/
def WW (xa : Nat → Addr) (W : WN) : WX := fun cls d σ H => ∃ c, d = none ∧ cls = .ref (xa c) ∧ W c σ H
inductive ArgsR (K : PySem.W.Frag) (H : Hp) : List Bool → List V → List D → Prop
  | nil : ArgsR K H [] [] []
  | cons {b : Bool} {v : V} {d : D} {bs : List Bool} {vs : List V} {ds : List D} : (if b then RepB K H v d else Rep K H v d) → ArgsR K H bs vs ds → ArgsR K H (b :: bs) (v :: vs) (d :: ds)
theorem ArgsR.len {K : PySem.W.Frag} {H : Hp} : ∀ {bs : List Bool} {vs : List V} {ds : List D}, ArgsR K H bs vs ds → vs.length = bs.length ∧ ds.length = bs.length
  | _, _, _, .nil => ⟨rfl, rfl⟩
  | _, _, _, .cons _ r => ⟨congrArg Nat.succ r.len.1, congrArg Nat.succ r.len.2⟩
theorem ArgsR.mono {K : PySem.W.Frag} {H H' : Hp} (e : Ex H H') : ∀ {bs : List Bool} {vs : List V} {ds : List D}, ArgsR K H bs vs ds → ArgsR K H' bs vs ds
  | _, _, _, .nil => .nil
  | b :: _, _, _, .cons h r => .cons (by cases b with
    | true => exact RepB.mono e h
    | false => exact Rep.mono (.of e) h) (ArgsR.mono e r)
theorem ArgsR.bs {K : PySem.W.Frag} {H : Hp} : ∀ {bs : List Bool} {vs : List V} {ds : List D}, ArgsR K H bs vs ds → RepBs K H vs ds
  | _, _, _, .nil => .nil
  | b :: _, _, _, .cons h r => .cons (by cases b with
    | true => exact h
    | false => exact .inl h) (ArgsR.bs r)
theorem ArgsR.reps {K : PySem.W.Frag} {H : Hp} {α : Type} : ∀ {xs : List α} {vs : List V} {ds : List D}, ArgsR K H (xs.map fun _ => false) vs ds → Reps K H vs ds
  | [], _, _, .nil => .nil
  | _ :: _, _, _, .cons h r => .cons h (ArgsR.reps r)
/-- a list whose first item is a new list, its own -/
def PRep (K : PySem.W.Frag) (Hi H : Hp) (v : V) (d : D) : Prop := match d with
  | .lst (.lst xs :: ds) => ∃ a p vs ws, v = .ref a ∧ p ≠ a ∧ Hi a = none ∧ H a = some (.lst (.ref p :: ws)) ∧ Hi p = none ∧ H p = some (.lst vs) ∧ Reps K H vs xs ∧ xs.length ≤ line ∧ Reps K H ws ds ∧ ds.length < line
  | _ => Rep K H v d
/-- what has become of the lists at these places -/
inductive Fins (K : PySem.W.Frag) (H : Hp) : List Addr → List D → Prop
  | nil : Fins K H [] []
  | cons {a : Addr} {us : List V} {xs : List D} {as : List Addr} {ds : List D} : H a = some (.lst us) → Reps K H us xs → xs.length ≤ line → Fins K H as ds → Fins K H (a :: as) (.lst xs :: ds)
/-- all stays but what stands at these places -/
def ExW (Wr : List Addr) (H H' : Hp) : Prop := ∀ a o, H a = some o → a ∉ Wr → H' a = some o
theorem ExW.of {Wr : List Addr} {H H' : Hp} (e : Ex H H') : ExW Wr H H' := fun a o h _ => e a o h
theorem ExW.nil {H H' : Hp} (e : ExW [] H H') : Ex H H' := fun a o h => e a o h (by simp)
/-- slots and their lists -/
abbrev Mp := List (Nat × Addr)
def RetR (own : Ow) (K : PySem.W.Frag) (M : Mp) (H0 H : Hp) (v : V) (d : D) : Prop := match own with
  | .no => Rep K H v d
  | .own => FRep K H0 H v d
  | .prt => PRep K H0 H v d
  | .chg _ => match d with
    | .tup (r :: fs) => Rep K H v r ∧ Fins K H (M.map (·.2)) fs
    | _ => False
/-- which lists a def may change: the arguments at these places -/
def MutA (own : Ow) (K : PySem.W.Frag) (H : Hp) (vs : List V) (ds : List D) (M : Mp) : Prop := match own with
  | .chg l => M.map (·.1) = l ∧ (M.map (·.2)).Nodup ∧ ∀ p ∈ M, vs[p.1]? = some (.ref p.2) ∧ ∃ us xs, H p.2 = some (.lst us) ∧ ds[p.1]? = some (.lst xs) ∧ Reps K H us xs ∧ xs.length ≤ line
  | _ => M = []
/-- what a def promises -/
def spF (K : PySem.W.Frag) (xa : Nat → Addr) (r : List D → Res D) (fd : FD) : Sp := fun vs H Q E => ∃ ds M, ArgsR K H fd.ps vs ds ∧ MutA fd.own K H vs ds M ∧ match r ds with
  | .ok d => ∀ v H', ExW (M.map (·.2)) H H' → RetR fd.own K M H H' v d → Q v H'
  | .exc c => ∀ H', Ex H H' → E (.ref (xa c)) none H'
  | .fail => False
def FnAt (L : Lw) (cf : Nat → List D → Res D) (xa : Nat → Addr) (X : Cx) (f : Nat) (fd : FD) : Prop := ∃ (fa : Addr) (fdt : FuncData) (ps : List Str) (k : Nat), X.mg (L.nm f) = some (.ref fa) ∧ PySem.W.keepIn X.K (.ref fa) = true ∧ Binds X.K fdt ps [] ∧
  Room k X.A ∧ FnOk X.prog X.w X.K X.mg X.base (L2.CX X.prog X.w) k fa fdt ps (spF X.K xa (cf f) fd)
structure CtxOk (L : Lw) (cf : Nat → List D → Res D) (xa : Nat → Addr) (N : List Str) (W : WN) (X : Cx) (sc : Scope) : Prop where
  calm : X.calm = true
  nN : X.N = N
  nd : X.N.Nodup
  scp : X.env.scope = sc
  room : Room 0 X.A
  fns : ∀ f fd, L.T f = some fd → FnAt L cf xa X f fd
  free : ∀ x ∈ bnames, X.mg x = none
  glb : ∀ g d, L.gl g = some d → ∃ u v, X.mg (L.nm g) = some u ∧ RelV v u ∧ ∀ H, Rep X.K H v d
  tk : Takes X (WW xa W)

section
variable {L : Lw} {cf : Nat → List D → Res D} {xa : Nat → Addr} {N : List Str} {W : WN} {X : Cx} {sc : Scope}
theorem nm1 {x : Str} (h : nmOk x = true) : (x == ("__debug__" : Str)) = false ∧ (x == ("__classdict__" : Str)) = false ∧ x ≠ "__name__" := by
  unfold nmOk at h
  simp only [Bool.and_eq_true, Bool.not_eq_true'] at h
  exact ⟨h.1.1, h.1.2, fun z => by rw [z] at h; simp at h⟩
theorem vis_of {x : Str} (h : visB sc x = true) (e : X.env.scope = sc) : Vis X.env.scope x ∧ nmOk x = true := by
  unfold visB at h
  rw [Bool.and_eq_true] at h
  refine ⟨?_, h.1⟩
  rw [e]
  have h2 := h.2
  unfold Vis
  split at h2 <;> simp_all
theorem loc_of {x : Str} (h : locB sc x = true) (e : X.env.scope = sc) : L2.Loc X.env.scope x := by
  unfold locB at h
  rw [e]
  unfold L2.Loc
  split at h <;> simp_all
theorem glo_of {x : Str} (h : gloB sc x = true) (e : X.env.scope = sc) : Gl X x ∧ nmOk x = true := by
  unfold gloB at h
  rw [Bool.and_eq_true] at h
  refine ⟨?_, h.1⟩
  have h2 := h.2
  unfold Gl Env.kindOf
  rw [e]
  split at h2 <;> simp_all
theorem star_of {e : Expr} {es : List Expr} (h : notStar e = true) (env : PySem.Env) : starEach (e :: es) env = (false, eval e env) :: starEach es env := by
  cases e <;> first | rfl | (simp [notStar] at h)
theorem plain_star {es : List Expr} {env : PySem.Env} {pos : Pos} (h : ∀ e ∈ es, notStar e = true) : (backTo pos (starEach es env)).any (·.1) = false := by
  induction es with
  | nil => rfl
  | cons e es ih =>
    rw [star_of (h e (List.mem_cons_self ..))]
    show (false || (backTo pos (starEach es env)).any (·.1)) = false
    rw [ih fun e' he => h e' (List.mem_cons_of_mem _ he)]
    rfl
theorem set_of {e : Expr} (h : notSet e = true) (env : PySem.Env) (x : Value) : foldedSetIterable e env x = pure x := by
  cases e <;> first | rfl | (simp [notSet] at h)
theorem marks_of {e : Expr} (h : notSet e = true) (op : CmpOp) : behindInMarks op e = false := by
  cases e <;> first | rfl | (simp [notSet] at h)
theorem slice_of {e : Expr} (h : notSlice e = true) (o i : Value) : subscripted e false o i = operate [o, i] (getItem o i) := by
  cases e <;> first | rfl | (simp [notSlice] at h)
theorem base_of {e : Expr} (h : notCall e = true) (f : Str) (env : PySem.Env) : attributeBase e f env (eval e env) = eval e env := by
  cases e <;> first | rfl | (simp [notCall] at h)
theorem isTrue_of {e : Expr} (h : plainT e = true) (env : PySem.Env) (whole : Sem Value) : isTrue e env whole = (do let v ← whole; standAt e.pos; holding [v] (truthy v)) := by
  cases e <;> first | rfl | (rename_i o _ _; cases o <;> first | rfl | (simp [plainT] at h)) | (simp [plainT] at h)
theorem swap_of {e : Expr} (h : notComp e = true) (t : Option Expr) (l : Nat) (env : PySem.Env) : swapsWith e t l env = pure false := by
  cases e <;> first | rfl | (simp [notComp] at h)

abbrev SE (L : Lw) (cf : Nat → List D → Res D) (xa : Nat → Addr) (N : List Str) (c : E) : Prop := ∀ (W : WN) (X : Cx) (sc : Scope) (e : Expr), CtxOk L cf xa N W X sc → chkE L N c sc e = true → PE X e (rd (kd L c) X.K W (evE cf L.gl c))
theorem SE.v {c : E} (h : SE L cf xa N c) (hv : isV L c = true) {e : Expr} (C : CtxOk L cf xa N W X sc) (k : chkE L N c sc e = true) : PE X e (rd .V X.K W (evE cf L.gl c)) := by
  have q := h W X sc e C k
  cases z : kd L c with
  | C => rw [z] at q; exact pe_val q
  | V => rw [z] at q; exact q
  | B =>
    cases c <;> simp [kd, isV] at z hv
    rename_i f es
    split at z
    · rename_i fd _
      cases w : fd.own <;> rw [w] at z <;> cases z
    · cases z
theorem SE.b {c : E} (h : SE L cf xa N c) {e : Expr} (C : CtxOk L cf xa N W X sc) (k : chkE L N c sc e = true) : PE X e (rd .B X.K W (evE cf L.gl c)) := pe_b (h W X sc e C k)

theorem room_u (C : CtxOk L cf xa N W X sc) : X.A.units + 160 < cLine := by
  have := C.room.un
  omega

theorem s_var (i : Nat) : SE L cf xa N (.var i) := fun W X sc e C k => by
  unfold chkE at k
  split at k
  · rename_i x p
    rw [Bool.and_eq_true, decide_eq_true_eq] at k
    obtain ⟨v, o⟩ := vis_of k.2 C.scp
    obtain ⟨d1, d2, _⟩ := nm1 o
    refine pe_imp (pe_var (by rw [C.nN]; exact k.1) v d1 d2) fun σ H Q ⟨H0, Wr, ρ, R, g⟩ => ?_
    obtain ⟨d, e, g⟩ := g.o
    obtain ⟨v, hv, r⟩ := R.sh e
    exact ⟨v, hv, g v H (Ex.refl H) r⟩
  · cases k
theorem s_bor (i : Nat) : SE L cf xa N (.bor i) := fun W X sc e C k => by
  unfold chkE at k
  split at k
  · rename_i x p
    rw [Bool.and_eq_true, decide_eq_true_eq] at k
    obtain ⟨v, o⟩ := vis_of k.2 C.scp
    obtain ⟨d1, d2, _⟩ := nm1 o
    refine pe_imp (pe_var (by rw [C.nN]; exact k.1) v d1 d2) fun σ H Q ⟨H0, Wr, ρ, R, g⟩ => ?_
    obtain ⟨d, e, g⟩ := g.o
    obtain ⟨v, hv, r⟩ := R.any e
    exact ⟨v, hv, g v H (Ex.refl H) r⟩
  · cases k
theorem pe_lit {W : WN} {X : Cx} {sc : Scope} {e : Expr} {K : PySem.W.Frag} {r : Env → Res D} (d : D) (k : chkE L N (.lit d) sc e = true) : PE X e (fun σ H Q => ∀ v H', Ex H H' → Rep K H' v d → Q v H') := by
  unfold chkE at k
  split at k
  · exact pe_imp pe_non fun σ H Q g => g _ H (Ex.refl H) .non
  · rename_i b c _ _
    have : b = c := by simpa using k
    subst this
    exact pe_imp pe_bl fun σ H Q g => g _ H (Ex.refl H) (.bl _)
  · rename_i i j _ _
    have : i = j := of_decide_eq_true k
    subst this
    exact pe_imp pe_int fun σ H Q g => g _ H (Ex.refl H) (.int _)
  · rename_i s x _ _
    rw [Bool.and_eq_true, decide_eq_true_eq, decide_eq_true_eq] at k
    obtain ⟨rfl, k⟩ := k
    refine pe_imp pe_str fun σ H Q g => ?_
    have := g (.str (T x.cps.toList)) H (Ex.refl H) (.str _ k)
    rw [T_of] at this
    exact this
  · cases k
theorem s_lit (d : D) : SE L cf xa N (.lit d) := fun W X sc e C k => by
  unfold chkE at k
  split at k
  · exact pe_imp pe_non fun σ H Q ⟨H0, Wr, ρ, R, g⟩ => g _ H (Ex.refl H) .non
  · rename_i b c _ _
    have : b = c := by simpa using k
    subst this
    exact pe_imp pe_bl fun σ H Q ⟨H0, Wr, ρ, R, g⟩ => g _ H (Ex.refl H) (.bl _)
  · rename_i i j _ _
    have : i = j := of_decide_eq_true k
    subst this
    exact pe_imp pe_int fun σ H Q ⟨H0, Wr, ρ, R, g⟩ => g _ H (Ex.refl H) (.int _)
  · rename_i s x _ _
    rw [Bool.and_eq_true, decide_eq_true_eq, decide_eq_true_eq] at k
    obtain ⟨rfl, k⟩ := k
    refine pe_imp pe_str fun σ H Q ⟨H0, Wr, ρ, R, g⟩ => ?_
    have := g (.str (T x.cps.toList)) H (Ex.refl H) (.str _ k)
    rw [T_of] at this
    exact this
  · cases k
theorem s_glob (i : Nat) : SE L cf xa N (.glob i) := fun W X sc e C k => by
  unfold chkE at k
  split at k
  · rename_i x p
    rw [Bool.and_eq_true, decide_eq_true_eq] at k
    obtain ⟨rfl, k⟩ := k
    obtain ⟨gl, o⟩ := glo_of k C.scp
    cases q : L.gl i with
    | none => exact ⟨fun pins s σ H Q I ⟨H0, Wr, ρ, R, g⟩ => by
        have g : Gd W σ H (ofO (L.gl i)) _ := g
        rw [q] at g; exact g.elim⟩
    | some d =>
      obtain ⟨u, v, h1, h2, h3⟩ := C.glb i d q
      refine pe_imp (pe_glob gl h1 h2 (nm1 o).1) fun σ H Q ⟨H0, Wr, ρ, R, g⟩ => ?_
      have g : Gd W σ H (ofO (L.gl i)) _ := g
      rw [q] at g
      exact g v H (Ex.refl H) (h3 H)
  · cases k
theorem s_bin (o : Bo) {a b : E} (ha : SE L cf xa N a) (hb : SE L cf xa N b) : SE L cf xa N (.bin o a b) := fun W X sc e C k => by
  unfold chkE at k
  split at k
  · rename_i x p y pos
    simp only [Bool.and_eq_true] at k
    obtain ⟨⟨k0, k1⟩, k2⟩ := k
    have : o.py = p := of_decide_eq_true k0
    subst this
    refine pe_imp (pe_op (op_B o) (ha.b C k1) (hb.b C k2)) fun σ H Q ⟨H0, Wr, ρ, R, g⟩ => ?_
    have g := g.bind
    refine ⟨H0, Wr, ρ, R, g.mono fun dx g vx H1 e1 rx => ⟨H0, Wr, ρ, R.ex e1, (g.ex e1).bind.mono fun dy g vy H2 e2 ry => ?_⟩⟩
    obtain ⟨d, ed, g⟩ := g.o
    exact ⟨dx, dy, d, rx.mono e2, ry, ed, fun v H3 e3 f => g v H3 ((e1.trans e2).trans e3) (f.back (e1.trans e2))⟩
  · cases k
theorem reps_rg {K : PySem.W.Frag} {H : Hp} (n : Int) : Reps K H (rgV 0 n) (rng 0 n.toNat) := by
  have key : ∀ (l : List Nat), Reps K H (l.map fun i => V.int (0 + (i : Nat))) (l.map fun (k : Nat) => D.int (0 + (k : Int))) := fun l => by
    induction l with
    | nil => exact .nil
    | cons a l ih => exact .cons (.int _) ih
  have e : rgV 0 n = (List.range n.toNat).map fun i => V.int (0 + (i : Nat)) := by
    unfold rgV
    rw [Int.sub_zero]
  rw [e]
  exact key _
theorem s_lrng {a : E} (ha : SE L cf xa N a) : SE L cf xa N (.lrng a) := fun W X sc e C k => by
  unfold chkE at k
  split at k
  · rename_i l lp x xp y rp pos
    simp only [Bool.and_eq_true, decide_eq_true_eq] at k
    obtain ⟨⟨⟨⟨⟨rfl, k1⟩, rfl⟩, k2⟩, k3⟩, k4⟩ := k
    obtain ⟨gl, o⟩ := glo_of k1 C.scp
    obtain ⟨gr, o2⟩ := glo_of k2 C.scp
    refine pe_imp (pe_listRg C.calm gl (C.free _ (by decide)) (prg_1 gr (C.free _ (by decide)) (ha.b C k3) (star_of k4 _)) (star_of rfl _)) fun σ H Q ⟨H0, Wr, ρ, R, g⟩ => ?_
    have g : Gd W σ H (evE cf L.gl a ρ >>= fun x => (ofO (rng1 x)) >>= fun l => Res.ok (D.lst l)) (fun d => ∀ (v : V) (H' : Hp), Ex H H' → RepK (kd L (.lrng a)) X.K H H' v d → Q v H') := g
    refine ⟨H0, Wr, ρ, R, g.bind.mono fun d g v H1 e1 rv => ?_⟩
    obtain ⟨ds, ed, g⟩ := g.bind.o
    cases d <;> simp only [rng1, reduceCtorEq] at ed
    rename_i j
    split at ed <;> cases ed
    rename_i hj
    obtain rfl := rv.int_inv
    have hl : line = 16777216 := by decide
    refine ⟨j, rfl, ⟨by omega, by omega, by omega, by omega, by omega⟩, fun p hp => ?_⟩
    have g : ∀ v H', Ex H H' → RepK (kd L (.lrng a)) X.K H H' v (.lst (rng 0 j.toNat)) → Q v H' := g
    refine g _ _ (e1.trans (Ex.new hp)) (FRep.back e1 (frep_lst hp (reps_rg j) ?_))
    have : (rng 0 j.toNat).length = j.toNat := by unfold rng; simp
    rw [this]
    omega
  · cases k
theorem s_revs {a : E} (ha : SE L cf xa N a) : SE L cf xa N (.revs a) := fun W X sc e C k => by
  unfold chkE at k
  split at k
  · rename_i x i k0 p1 p2 p3 pos
    simp only [Bool.and_eq_true, decide_eq_true_eq] at k
    obtain ⟨rfl, k⟩ := k
    refine pe_imp (pe_revA (ha.b C k)) fun σ H Q ⟨H0, Wr, ρ, R, g⟩ => ?_
    refine ⟨H0, Wr, ρ, R, g.bind.mono fun dx g vx H1 e1 r => ?_⟩
    obtain ⟨d, ed, g⟩ := g.o
    have rev : ∀ {H : Hp} {vs : List V} {ds : List D}, Reps X.K H vs ds → Reps X.K H vs.reverse ds.reverse := fun {H vs ds} r => by
      induction vs generalizing ds with
      | nil => cases r; exact .nil
      | cons v vs ih =>
        cases r with
        | cons h r =>
          rw [List.reverse_cons, List.reverse_cons]
          exact (ih r).append (.one h)
    cases dx <;> simp only [opRev, reduceCtorEq] at ed <;> cases ed
    · rename_i xs g
      have hz := RepB.lenT r
      obtain ⟨a, vs, rfl, h1, rr⟩ := RepB.tup_inv r
      exact ⟨a, vs, rfl, .inr ⟨h1, fun p hp => g _ _ (e1.trans (Ex.new hp)) (rep_tup hp (rev rr) (by rw [List.length_reverse]; exact hz))⟩⟩
    · rename_i xs g
      have hz := RepB.len r
      obtain ⟨a, vs, rfl, h1, rr⟩ := RepB.lst_inv r
      exact ⟨a, vs, rfl, .inl ⟨.inl h1, fun p hp => g _ _ (e1.trans (Ex.new hp)) (FRep.back e1 (frep_lst hp (rev rr) (by rw [List.length_reverse]; exact hz)))⟩⟩
  · cases k
theorem s_prt (i j : Nat) : SE L cf xa N (.prt i j) := fun W X sc e C k => by
  unfold chkE at k
  split at k
  · rename_i x p q k0 p1 pos
    simp only [Bool.and_eq_true, decide_eq_true_eq] at k
    obtain ⟨⟨k1, k2⟩, rfl⟩ := k
    obtain ⟨v, o⟩ := vis_of k2 C.scp
    obtain ⟨d1, d2, _⟩ := nm1 o
    refine pe_imp (pe_ix ix_list (pe_var (by rw [C.nN]; exact k1) v d1 d2) pe_int (slice_of rfl)) fun σ H Q ⟨H0, Wr, ρ, R, g⟩ => ?_
    obtain ⟨d, e, g⟩ := g.o
    obtain ⟨a, ob, vs, w, hs, ha, hk, hz, r⟩ := R.prt e
    refine ⟨_, hs, ?_⟩
    have hj : atI vs (j : Int) = some w := by
      have hl : j < vs.length := (List.getElem?_eq_some_iff.mp hk).1
      have : L2.ixN vs.length (j : Int) = some j := by
        unfold L2.ixN
        rw [if_pos (by omega), if_pos (by omega), Int.toNat_natCast]
      unfold atI
      rw [this]
      exact hk
    exact ⟨_, _, _, _, rfl, rfl, .inl (.inr ⟨_, ha⟩), hj, g w H (Ex.refl H) r⟩
  · cases k
theorem s_neg {a : E} (ha : SE L cf xa N a) : SE L cf xa N (.neg a) := fun W X sc e C k => by
  unfold chkE at k
  split at k
  · rename_i x p
    refine pe_imp (pe_un un_neg (ha.b C k)) fun σ H Q ⟨H0, Wr, ρ, R, g⟩ => ?_
    refine ⟨H0, Wr, ρ, R, g.bind.mono fun dx g vx H1 e1 rx => ?_⟩
    obtain ⟨d, ed, g⟩ := g.o
    cases dx <;> simp only [opNeg, reduceCtorEq] at ed <;> cases ed
    obtain rfl := rx.int_inv
    exact ⟨_, rfl, g _ H1 e1 (.int _)⟩
  · cases k
/-- sound by one reading, as a value and as a test -/
abbrev SM (L : Lw) (cf : Nat → List D → Res D) (xa : Nat → Addr) (N : List Str) (c : E) : Prop := ∀ (W : WN) (X : Cx) (sc : Scope) (e : Expr), CtxOk L cf xa N W X sc → chkE L N c sc e = true →
  ∃ t : TE, PE X e t ∧ PT X e (tTest t) ∧ ∀ σ H Q, rd .V X.K W (evE cf L.gl c) σ H Q → t σ H Q
theorem m_isN {a : E} (ha : SE L cf xa N a) : SM L cf xa N (.isN a) := fun W X sc e C k => by
  unfold chkE at k
  split at k
  · refine ⟨_, pe_cmp (pc_isN (ha.b C k)), pt_cmp (pc_isN (ha.b C k)), fun σ H Q ⟨H0, Wr, ρ, R, g⟩ => ?_⟩
    refine ⟨H0, Wr, ρ, R, g.bind.mono fun dx g vx H1 e1 rx => ?_⟩
    have : decide (vx = V.non) = isNon dx := by
      cases dx with
      | non => rw [rx.non_inv]; rfl
      | bl b => rw [rx.bl_inv]; rfl
      | int b => rw [rx.int_inv]; rfl
      | str b => rw [rx.str_inv.1]; rfl
      | tup b => obtain ⟨_, _, rfl, _⟩ := rx.tup_inv; rfl
      | lst b => obtain ⟨_, _, rfl, _⟩ := rx.lst_inv; rfl
    show Q (V.bl (decide (vx = V.non))) H1
    rw [this]
    exact g _ H1 e1 (.bl _)
  · cases k
theorem m_notN {a : E} (ha : SE L cf xa N a) : SM L cf xa N (.notN a) := fun W X sc e C k => by
  unfold chkE at k
  split at k
  · refine ⟨_, pe_cmp (pc_notN (ha.b C k)), pt_cmp (pc_notN (ha.b C k)), fun σ H Q ⟨H0, Wr, ρ, R, g⟩ => ?_⟩
    refine ⟨H0, Wr, ρ, R, g.bind.mono fun dx g vx H1 e1 rx => ?_⟩
    have : decide (vx = V.non) = isNon dx := by
      cases dx with
      | non => rw [rx.non_inv]; rfl
      | bl b => rw [rx.bl_inv]; rfl
      | int b => rw [rx.int_inv]; rfl
      | str b => rw [rx.str_inv.1]; rfl
      | tup b => obtain ⟨_, _, rfl, _⟩ := rx.tup_inv; rfl
      | lst b => obtain ⟨_, _, rfl, _⟩ := rx.lst_inv; rfl
    show Q (V.bl !decide (vx = V.non)) H1
    rw [this]
    exact g _ H1 e1 (.bl _)
  · cases k
theorem m_cmp (o : Co) {a b : E} (ha : SE L cf xa N a) (hb : SE L cf xa N b) : SM L cf xa N (.cmp o a b) := fun W X sc e C k => by
  unfold chkE at k
  split at k
  · rename_i x p y pos
    simp only [Bool.and_eq_true] at k
    obtain ⟨⟨⟨k0, k1⟩, k2⟩, k3⟩ := k
    have : o.py = p := of_decide_eq_true k0
    subst this
    refine ⟨_, pe_cmpR (op_C (room_u C) o) (ha.b C k1) (hb.b C k2) (marks_of k3 _), pt_cmpR (op_C (room_u C) o) (ha.b C k1) (hb.b C k2) (marks_of k3 _), fun σ H Q ⟨H0, Wr, ρ, R, g⟩ => ?_⟩
    refine ⟨H0, Wr, ρ, R, g.bind.mono fun dx g vx H1 e1 rx => ⟨H0, Wr, ρ, R.ex e1, (g.ex e1).bind.mono fun dy g vy H2 e2 ry => ?_⟩⟩
    obtain ⟨d, ed, g⟩ := g.bind.o
    exact ⟨dx, dy, d, rx.mono e2, ry, ed, g _ H2 (e1.trans e2) (.bl _)⟩
  · cases k
theorem m_chain (o p : Co) {a b c : E} (ha : SE L cf xa N a) (hb : SE L cf xa N b) (hc : SE L cf xa N c) : SM L cf xa N (.chain o p a b c) := fun W X sc e C k => by
  unfold chkE at k
  split at k
  · rename_i x q r y z pos
    simp only [Bool.and_eq_true] at k
    obtain ⟨⟨⟨⟨⟨⟨k0, k0'⟩, k1⟩, k2⟩, k3⟩, k4⟩, k5⟩ := k
    have : o.py = q := of_decide_eq_true k0
    subst this
    have : p.py = r := of_decide_eq_true k0'
    subst this
    refine ⟨_, pe_chain (op_C (room_u C) o) (op_C (room_u C) p) (ha.b C k1) (hb.b C k2) (hc.b C k3) (marks_of k5 _), pt_chain (op_C (room_u C) o) (op_C (room_u C) p) (ha.b C k1) (hb.b C k2) (hc.b C k3) (marks_of k5 _), fun σ H Q ⟨H0, Wr, ρ, R, g⟩ => ?_⟩
    refine ⟨H0, Wr, ρ, R, g.bind.mono fun dx g vx H1 e1 rx => ⟨H0, Wr, ρ, R.ex e1, (g.ex e1).bind.mono fun dy g vy H2 e2 ry => ?_⟩⟩
    obtain ⟨d, ed, g⟩ := g.bind.o
    refine ⟨dx, dy, d, rx.mono e2, ry, ed, d, rfl, ?_⟩
    cases d with
    | false => exact g _ H2 (e1.trans e2) (.bl _)
    | true =>
      refine ⟨H0, Wr, ρ, (R.ex e1).ex e2, ((show Gd W σ H1 _ _ from g).ex e2).bind.mono fun dz g vz H3 e3 rz => ?_⟩
      obtain ⟨d, ed, g⟩ := g.bind.o
      exact ⟨dy, dz, d, ry.mono e3, rz, ed, g _ H3 ((e1.trans e2).trans e3) (.bl _)⟩
  · cases k
theorem s_ix {a b : E} (ha : SE L cf xa N a) (hb : SE L cf xa N b) : SE L cf xa N (.ix a b) := fun W X sc e C k => by
  unfold chkE at k
  split at k
  · rename_i x y pos
    simp only [Bool.and_eq_true] at k
    obtain ⟨⟨k1, k2⟩, k3⟩ := k
    refine pe_imp (pe_ix ix_X (ha.b C k1) (hb.b C k2) (slice_of k3)) fun σ H Q ⟨H0, Wr, ρ, R, g⟩ => ?_
    refine ⟨H0, Wr, ρ, R, g.bind.mono fun dx g vx H1 e1 rx => ⟨H0, Wr, ρ, R.ex e1, (g.ex e1).bind.mono fun dy g vy H2 e2 ry => ?_⟩⟩
    obtain ⟨d, ed, g⟩ := g.o
    exact ⟨dx, dy, d, rx.mono e2, ry, ed, fun v r => g v H2 (e1.trans e2) r⟩
  · cases k
end
end Ev

/-! Tests; and, or, not; calls; comprehensions. -/
namespace Ev
open PySem PySem.Spec
open PyProof.Rows hiding St
open L2
open Evl (Ex)
section
variable {L : Lw} {cf : Nat → List D → Res D} {xa : Nat → Addr} {N : List Str} {W : WN} {X : Cx} {sc : Scope}
def isBo : E → Bool | .and _ _ => true | .or _ _ => true | _ => false
/-- as a test -/
abbrev evT (cf : Nat → List D → Res D) (L : Lw) (c : E) (ρ : Env) : Res Bool := (evE cf L.gl c ρ) >>= fun x => ofO (truth x)
abbrev ST (L : Lw) (cf : Nat → List D → Res D) (xa : Nat → Addr) (N : List Str) (c : E) : Prop := ∀ (W : WN) (X : Cx) (sc : Scope) (e : Expr), CtxOk L cf xa N W X sc → chkE L N c sc e = true → chkT e = true → PT X e (rdT X.K W (evT cf L c))
abbrev SW (L : Lw) (cf : Nat → List D → Res D) (xa : Nat → Addr) (N : List Str) (c : E) : Prop := ∀ (W : WN) (X : Cx) (sc : Scope) (e : Expr), CtxOk L cf xa N W X sc → chkE L N c sc e = true → isBo c = true → PW X e (rdT X.K W (evT cf L c))
structure SX (L : Lw) (cf : Nat → List D → Res D) (xa : Nat → Addr) (N : List Str) (c : E) : Prop where
  e : SE L cf xa N c
  t : ST L cf xa N c
  w : SW L cf xa N c
theorem truth_o {d : D} {k : Bool} (h : truth d = some k) : d = .bl k := by
  cases d <;> simp only [truth, reduceCtorEq] at h
  cases h; rfl
/-- a test whose value is a bool -/
theorem t_plain {c : E} (h : SE L cf xa N c) {e : Expr} (C : CtxOk L cf xa N W X sc) (k : chkE L N c sc e = true) (p : plainT e = true) : PT X e (rdT X.K W (evT cf L c)) := by
  refine pt_imp (pt_val (h.b C k) fun wh => isTrue_of p _ wh) fun σ H Q ⟨H0, Wr, ρ, R, g⟩ => ?_
  refine ⟨H0, Wr, ρ, R, g.bind.mono fun d g v H1 e1 r => ?_⟩
  obtain ⟨b, eb, g⟩ := g.o
  obtain rfl := truth_o eb
  exact ⟨b, r.bl_inv, g H1 e1⟩
def plainC : E → Bool
  | .not _ | .and _ _ | .or _ _ | .cmp _ _ _ | .chain _ _ _ _ _ | .isN _ | .notN _ | .ife _ _ _ => false
  | _ => true
theorem plain_of {c : E} {e : Expr} (h : plainC c = true) (k : chkE L N c sc e = true) : plainT e = true := by
  cases c <;> first | (simp [plainC] at h; done) | (unfold chkE at k; split at k <;> first | rfl | (exact absurd k (by decide)) | (split at k <;> rfl))
theorem x_plain {c : E} (h : SE L cf xa N c) (hp : plainC c = true) : SX L cf xa N c :=
  ⟨h, fun W X sc e C k _ => t_plain h C k (plain_of hp k), fun W X sc e C k m => by cases c <;> first | (simp [isBo] at m; done) | (simp [plainC] at hp)⟩
/-- what is sound by one reading -/
theorem x_one {c : E} (h : SM L cf xa N c) (hk : kd L c = .V) (hm : isBo c = false) : SX L cf xa N c := by
  refine ⟨fun W X sc e C k => ?_, fun W X sc e C k _ => ?_, fun _ _ _ _ _ _ m => by rw [hm] at m; cases m⟩
  · obtain ⟨t, h1, h2, h3⟩ := h W X sc e C k
    rw [hk]
    exact pe_imp h1 h3
  · obtain ⟨t, h1, h2, h3⟩ := h W X sc e C k
    refine pt_imp h2 fun σ H Q ⟨H0, Wr, ρ, R, g⟩ => h3 σ H _ ⟨H0, Wr, ρ, R, g.bind.mono fun d g v H1 e1 r => ?_⟩
    obtain ⟨b, eb, g⟩ := g.o
    obtain rfl := truth_o eb
    exact ⟨b, Rep.bl_inv r, g H1 e1⟩
theorem x_not {a : E} (ha : SX L cf xa N a) : SX L cf xa N (.not a) := by
  refine ⟨fun W X sc e C k => ?_, fun W X sc e C k _ => ?_, fun _ _ _ _ _ _ m => by cases m⟩
  · unfold chkE at k
    split at k
    · rw [Bool.and_eq_true] at k
      refine pe_imp (pe_not (ha.e.b C k.1)) fun σ H Q ⟨H0, Wr, ρ, R, g⟩ => ?_
      refine ⟨H0, Wr, ρ, R, g.bind.mono fun d g v H1 e1 r => ?_⟩
      obtain ⟨b, eb, g⟩ := g.bind.o
      obtain rfl := truth_o eb
      exact ⟨b, r.bl_inv, g _ H1 e1 (.bl _)⟩
    · cases k
  · unfold chkE at k
    split at k
    · rw [Bool.and_eq_true] at k
      refine pt_imp (pt_not (ha.t W X sc _ C k.1 k.2)) fun σ H Q ⟨H0, Wr, ρ, R, g⟩ => ?_
      refine ⟨H0, Wr, ρ, R, ?_⟩
      have g : Gd W σ H ((evE cf L.gl a ρ >>= fun x => ofO (truth x) >>= fun k => Res.ok (D.bl !k)) >>= fun x => ofO (truth x)) fun b => ∀ H', Ex H H' → Q b H' := g
      show Gd W σ H (evE cf L.gl a ρ >>= fun x => ofO (truth x)) fun b => ∀ H', Ex H H' → Q (!b) H'
      cases q : evE cf L.gl a ρ with
      | ok d =>
        rw [q] at g
        cases q2 : truth d with
        | none => simp only [res_bind_ok, q2, ofO_none, res_bind_fail] at g; exact (show False from g).elim
        | some b =>
          simp only [res_bind_ok, q2] at g ⊢
          exact g
      | exc c => rw [q] at g; exact g
      | fail => rw [q] at g; exact g
    · cases k
theorem x_and {a b : E} (ha : SX L cf xa N a) (hb : SX L cf xa N b) : SX L cf xa N (.and a b) := by
  have wt : SW L cf xa N (.and a b) := fun W X sc e C k _ => by
    unfold chkE at k
    split at k
    · rename_i x y r pos
      simp only [Bool.and_eq_true] at k
      obtain ⟨⟨k1, k2⟩, k3⟩ := k
      have hr : PW X (.BoolOp .And (y :: r) pos) (rdT X.K W (evT cf L b)) := by
        split at k3
        · rw [Bool.and_eq_true] at k3
          exact pw_and1 (hb.t W X sc _ C k3.1 k3.2)
        · rw [Bool.and_eq_true] at k3
          refine hb.w W X sc _ C k3.2 ?_
          have := k3.1
          split at this
          · rfl
          · cases this
      refine pw_imp (pw_and (ha.t W X sc _ C k1 k2) hr) fun σ H Q ⟨H0, Wr, ρ, R, g⟩ => ?_
      refine ⟨H0, Wr, ρ, R, ?_⟩
      have g : Gd W σ H ((evE cf L.gl a ρ >>= fun x => ofO (truth x) >>= fun k => if k then (evE cf L.gl b ρ) >>= fun y => (ofO (truth y)) >>= fun k => .ok (.bl k) else .ok (.bl false)) >>= fun x => ofO (truth x)) fun b => ∀ H', Ex H H' → Q b H' := g
      show Gd W σ H (evE cf L.gl a ρ >>= fun x => ofO (truth x)) fun k => ∀ H', Ex H H' → if k = true then rdT X.K W (evT cf L b) σ H' Q else Q false H'
      cases q : evE cf L.gl a ρ with
      | ok d =>
        rw [q] at g
        cases q2 : truth d with
        | none => simp only [res_bind_ok, q2, ofO_none, res_bind_fail] at g; exact (show False from g).elim
        | some k =>
          simp only [res_bind_ok, q2] at g ⊢
          cases k with
          | false => exact fun H' e => g H' e
          | true =>
            intro H' e
            refine ⟨H0, Wr, ρ, R.ex e, ?_⟩
            have g : Gd W σ H ((evE cf L.gl b ρ >>= fun y => ofO (truth y) >>= fun k => Res.ok (D.bl k)) >>= fun x => ofO (truth x)) fun b => ∀ H', Ex H H' → Q b H' := g
            show Gd W σ H' (evE cf L.gl b ρ >>= fun x => ofO (truth x)) fun b => ∀ H2, Ex H' H2 → Q b H2
            cases q3 : evE cf L.gl b ρ with
            | ok d2 =>
              rw [q3] at g
              cases q4 : truth d2 with
              | none => simp only [res_bind_ok, q4, ofO_none, res_bind_fail] at g; exact (show False from g).elim
              | some k =>
                simp only [res_bind_ok, q4] at g ⊢
                exact fun H2 e2 => g H2 (e.trans e2)
            | exc c => rw [q3] at g; exact fun H2 e2 => g H2 (e.trans e2)
            | fail => rw [q3] at g; exact g
      | exc c => rw [q] at g; exact g
      | fail => rw [q] at g; exact g
    · cases k
  refine ⟨fun W X sc e C k => ?_, fun W X sc e C k _ => (wt W X sc e C k rfl).pt, wt⟩
  unfold chkE at k
  split at k
  · rename_i x y r pos
    simp only [Bool.and_eq_true] at k
    obtain ⟨⟨k1, k2⟩, k3⟩ := k
    have hr : PE X (.BoolOp .And (y :: r) pos) (rd .B X.K W (evE cf L.gl b)) := by
      split at k3
      · rw [Bool.and_eq_true] at k3
        exact pe_one (hb.e.b C k3.1)
      · rw [Bool.and_eq_true] at k3
        exact hb.e.b C k3.2
    refine pe_imp (pe_and (ha.e.b C k1) hr) fun σ H Q ⟨H0, Wr, ρ, R, g⟩ => ?_
    refine ⟨H0, Wr, ρ, R, g.bind.mono fun d g v H1 e1 r => ?_⟩
    obtain ⟨k, ek, g2⟩ := g.bind.o
    obtain rfl := truth_o ek
    refine ⟨k, r.bl_inv, ?_⟩
    cases k with
    | false => exact g2 _ H1 e1 (.bl _)
    | true =>
      refine ⟨H0, Wr, ρ, R.ex e1, ((show Gd W σ H _ _ from g2).ex e1).bind.mono fun d2 g v2 H2 e2 r2 => ?_⟩
      obtain ⟨k, ek, g3⟩ := g.bind.o
      obtain rfl := truth_o ek
      rw [r2.bl_inv]
      exact g3 _ H2 (e1.trans e2) (.bl _)
  · cases k
theorem x_or {a b : E} (ha : SX L cf xa N a) (hb : SX L cf xa N b) : SX L cf xa N (.or a b) := by
  have wt : SW L cf xa N (.or a b) := fun W X sc e C k _ => by
    unfold chkE at k
    split at k
    · rename_i x y r pos
      simp only [Bool.and_eq_true] at k
      obtain ⟨⟨k1, k2⟩, k3⟩ := k
      have hr : PW X (.BoolOp .Or (y :: r) pos) (rdT X.K W (evT cf L b)) := by
        split at k3
        · rw [Bool.and_eq_true] at k3
          exact pw_or1 (hb.t W X sc _ C k3.1 k3.2)
        · rw [Bool.and_eq_true] at k3
          refine hb.w W X sc _ C k3.2 ?_
          have := k3.1
          split at this
          · rfl
          · cases this
      refine pw_imp (pw_or (ha.t W X sc _ C k1 k2) hr) fun σ H Q ⟨H0, Wr, ρ, R, g⟩ => ?_
      refine ⟨H0, Wr, ρ, R, ?_⟩
      have g : Gd W σ H ((evE cf L.gl a ρ >>= fun x => ofO (truth x) >>= fun k => if k then .ok (.bl true) else (evE cf L.gl b ρ) >>= fun y => (ofO (truth y)) >>= fun k => .ok (.bl k)) >>= fun x => ofO (truth x)) fun b => ∀ H', Ex H H' → Q b H' := g
      show Gd W σ H (evE cf L.gl a ρ >>= fun x => ofO (truth x)) fun k => ∀ H', Ex H H' → if k = true then Q true H' else rdT X.K W (evT cf L b) σ H' Q
      cases q : evE cf L.gl a ρ with
      | ok d =>
        rw [q] at g
        cases q2 : truth d with
        | none => simp only [res_bind_ok, q2, ofO_none, res_bind_fail] at g; exact (show False from g).elim
        | some k =>
          simp only [res_bind_ok, q2] at g ⊢
          cases k with
          | true => exact fun H' e => g H' e
          | false =>
            intro H' e
            refine ⟨H0, Wr, ρ, R.ex e, ?_⟩
            have g : Gd W σ H ((evE cf L.gl b ρ >>= fun y => ofO (truth y) >>= fun k => Res.ok (D.bl k)) >>= fun x => ofO (truth x)) fun b => ∀ H', Ex H H' → Q b H' := g
            show Gd W σ H' (evE cf L.gl b ρ >>= fun x => ofO (truth x)) fun b => ∀ H2, Ex H' H2 → Q b H2
            cases q3 : evE cf L.gl b ρ with
            | ok d2 =>
              rw [q3] at g
              cases q4 : truth d2 with
              | none => simp only [res_bind_ok, q4, ofO_none, res_bind_fail] at g; exact (show False from g).elim
              | some k =>
                simp only [res_bind_ok, q4] at g ⊢
                exact fun H2 e2 => g H2 (e.trans e2)
            | exc c => rw [q3] at g; exact fun H2 e2 => g H2 (e.trans e2)
            | fail => rw [q3] at g; exact g
      | exc c => rw [q] at g; exact g
      | fail => rw [q] at g; exact g
    · cases k
  refine ⟨fun W X sc e C k => ?_, fun W X sc e C k _ => (wt W X sc e C k rfl).pt, wt⟩
  unfold chkE at k
  split at k
  · rename_i x y r pos
    simp only [Bool.and_eq_true] at k
    obtain ⟨⟨k1, k2⟩, k3⟩ := k
    have hr : PE X (.BoolOp .Or (y :: r) pos) (rd .B X.K W (evE cf L.gl b)) := by
      split at k3
      · rw [Bool.and_eq_true] at k3
        exact pe_one (hb.e.b C k3.1)
      · rw [Bool.and_eq_true] at k3
        exact hb.e.b C k3.2
    refine pe_imp (pe_or (ha.e.b C k1) hr) fun σ H Q ⟨H0, Wr, ρ, R, g⟩ => ?_
    refine ⟨H0, Wr, ρ, R, g.bind.mono fun d g v H1 e1 r => ?_⟩
    obtain ⟨k, ek, g2⟩ := g.bind.o
    obtain rfl := truth_o ek
    refine ⟨k, r.bl_inv, ?_⟩
    cases k with
    | true => exact g2 _ H1 e1 (.bl _)
    | false =>
      refine ⟨H0, Wr, ρ, R.ex e1, ((show Gd W σ H _ _ from g2).ex e1).bind.mono fun d2 g v2 H2 e2 r2 => ?_⟩
      obtain ⟨k, ek, g3⟩ := g.bind.o
      obtain rfl := truth_o ek
      rw [r2.bl_inv]
      exact g3 _ H2 (e1.trans e2) (.bl _)
  · cases k
theorem x_ife {c a b : E} (hc : SX L cf xa N c) (ha : SX L cf xa N a) (hb : SX L cf xa N b) : SX L cf xa N (.ife c a b) := by
  refine ⟨fun W X sc e C k => ?_, fun W X sc e C k t => ?_, fun _ _ _ _ _ _ m => by cases m⟩
  · unfold chkE at k
    split at k
    · simp only [Bool.and_eq_true] at k
      obtain ⟨⟨⟨⟨⟨k1, k2⟩, k3⟩, k4⟩, k5⟩, k6⟩ := k
      refine pe_imp (pe_ifExp (hc.t W X sc _ C k1 k2) (ha.e.v k5 C k3) (hb.e.v k6 C k4)) fun σ H Q ⟨H0, Wr, ρ, R, g⟩ => ?_
      refine ⟨H0, Wr, ρ, R, ?_⟩
      have g : Gd W σ H (evE cf L.gl c ρ >>= fun x => ofO (truth x) >>= fun k => if k then evE cf L.gl a ρ else evE cf L.gl b ρ) fun d => ∀ v H', Ex H H' → Rep X.K H' v d → Q v H' := g
      show Gd W σ H (evE cf L.gl c ρ >>= fun x => ofO (truth x)) fun k => ∀ H', Ex H H' → if k = true then rd .V X.K W (evE cf L.gl a) σ H' Q else rd .V X.K W (evE cf L.gl b) σ H' Q
      cases q : evE cf L.gl c ρ with
      | ok d =>
        rw [q] at g
        cases q2 : truth d with
        | none => simp only [res_bind_ok, q2, ofO_none, res_bind_fail] at g; exact (show False from g).elim
        | some k =>
          simp only [res_bind_ok, q2] at g ⊢
          cases k with
          | true => exact fun H' e => ⟨H0, Wr, ρ, R.ex e, ((show Gd W σ H _ _ from g).ex e).mono fun d g v H2 e2 r => g v H2 (e.trans e2) r⟩
          | false => exact fun H' e => ⟨H0, Wr, ρ, R.ex e, ((show Gd W σ H _ _ from g).ex e).mono fun d g v H2 e2 r => g v H2 (e.trans e2) r⟩
      | exc c => rw [q] at g; exact g
      | fail => rw [q] at g; exact g
    · cases k
  · unfold chkE at k
    split at k
    · simp [chkT] at t
    · cases k
end
end Ev

/-! Argument lists, displays, calls, walks, comprehensions. -/
namespace Ev
open PySem PySem.Spec
open PyProof.Rows hiding St
open L2
open Evl (Ex)
section
variable {L : Lw} {cf : Nat → List D → Res D} {xa : Nat → Addr} {N : List Str} {W : WN} {X : Cx} {sc : Scope}
abbrev rdAs (K : PySem.W.Frag) (W : WN) (bs : List Bool) (r : Env → Res (List D)) : TA := rdA K W r fun vs H ds => ArgsR K H bs vs ds
abbrev SEs (L : Lw) (cf : Nat → List D → Res D) (xa : Nat → Addr) (N : List Str) (es : Es) : Prop := ∀ (W : WN) (X : Cx) (sc : Scope) (bs : List Bool) (xs : List Expr), CtxOk L cf xa N W X sc → chkEs L N es bs sc xs = true →
  PA X xs (rdAs X.K W bs (evEs cf L.gl es)) ∧ ∀ x ∈ xs, notStar x = true
theorem es_nil : SEs L cf xa N .nil := fun W X sc bs xs C k => by
  unfold chkEs at k
  simp only [Bool.and_eq_true, List.isEmpty_iff] at k
  obtain ⟨rfl, rfl⟩ := k
  exact ⟨pa_imp pa_nil fun σ H Q ⟨H0, Wr, ρ, R, g⟩ => g [] H (Ex.refl H) .nil, fun _ h => by cases h⟩
theorem es_cons {e : E} {es : Es} (he : SX L cf xa N e) (hs : SEs L cf xa N es) : SEs L cf xa N (.cons e es) := fun W X sc bs xs C k => by
  unfold chkEs at k
  split at k
  · rename_i b bs x xs
    simp only [Bool.and_eq_true] at k
    obtain ⟨⟨⟨k1, k2⟩, k3⟩, k4⟩ := k
    obtain ⟨hp, hn⟩ := hs W X sc bs xs C k4
    refine ⟨?_, fun y hy => ?_⟩
    · cases b with
      | true =>
        refine pa_imp (pa_cons (he.e.b C k1) hp (star_of k2 _)) fun σ H Q ⟨H0, Wr, ρ, R, g⟩ => ?_
        refine ⟨H0, Wr, ρ, R, g.bind.mono fun d g v H1 e1 r => ⟨H0, Wr, ρ, R.ex e1, (g.ex e1).bind.mono fun ds g vs H2 e2 rs => ?_⟩⟩
        exact g _ H2 (e1.trans e2) (.cons (show RepB _ _ _ _ from RepB.mono e2 r) rs)
      | false =>
        have hv : isV L e = true := by simpa using k3
        refine pa_imp (pa_cons (he.e.v hv C k1) hp (star_of k2 _)) fun σ H Q ⟨H0, Wr, ρ, R, g⟩ => ?_
        refine ⟨H0, Wr, ρ, R, g.bind.mono fun d g v H1 e1 r => ⟨H0, Wr, ρ, R.ex e1, (g.ex e1).bind.mono fun ds g vs H2 e2 rs => ?_⟩⟩
        exact g _ H2 (e1.trans e2) (.cons (show Rep _ _ _ _ from Rep.mono (.of e2) r) rs)
    · rcases List.mem_cons.mp hy with rfl | hy
      · exact k2
      · exact hn y hy
  · cases k
theorem s_tup {es : Es} (hs : SEs L cf xa N es) : SE L cf xa N (.tup es) := fun W X sc e C k => by
  unfold chkE at k
  split at k
  · rename_i xs _ _
    rw [Bool.and_eq_true, decide_eq_true_eq] at k
    obtain ⟨hp, _⟩ := hs W X sc _ xs C k.1
    refine pe_imp (pe_tup hp) fun σ H Q ⟨H0, Wr, ρ, R, g⟩ => ?_
    refine ⟨H0, Wr, ρ, R, g.bind.mono fun ds g vs H1 e1 rs => ?_⟩
    have hl := rs.len.1
    rw [List.length_map] at hl
    exact ⟨by rw [hl]; exact k.2, fun p hp => g _ _ (e1.trans (Ex.new hp)) (rep_tup hp rs.reps (by have := rs.len.2; rw [List.length_map] at this; rw [this]; exact k.2))⟩
  · cases k
theorem s_lst {es : Es} (hs : SEs L cf xa N es) : SE L cf xa N (.lst es) := fun W X sc e C k => by
  unfold chkE at k
  split at k
  · rename_i xs _
    rw [Bool.and_eq_true, decide_eq_true_eq] at k
    obtain ⟨hp, _⟩ := hs W X sc _ xs C k.1
    refine pe_imp (pe_lst hp) fun σ H Q ⟨H0, Wr, ρ, R, g⟩ => ?_
    refine ⟨H0, Wr, ρ, R, g.bind.mono fun ds g vs H1 e1 rs => ?_⟩
    have hl := rs.len.1
    rw [List.length_map] at hl
    exact ⟨by rw [hl]; exact k.2, fun p hp => g _ _ (e1.trans (Ex.new hp)) (FRep.back e1 (frep_lst hp rs.reps (by have := rs.len.2; rw [List.length_map] at this; rw [this]; exact k.2)))⟩
  · cases k
theorem s_call (f : Nat) {es : Es} (hs : SEs L cf xa N es) : SE L cf xa N (.call f es) := fun W X sc e C k => by
  unfold chkE at k
  split at k
  · rename_i x p y ys pos
    simp only [Bool.and_eq_true, decide_eq_true_eq] at k
    obtain ⟨⟨rfl, k1⟩, k2⟩ := k
    split at k2
    · rename_i fd hf
      obtain ⟨gl, o⟩ := glo_of k1 C.scp
      rw [Bool.and_eq_true] at k2
      obtain ⟨hp, hn⟩ := hs W X sc _ _ C k2.1
      obtain ⟨fa, fdt, ps, kk, h1, h2, h3, h4, h5⟩ := C.fns f fd hf
      refine pe_imp (pe_callS h5 h4 gl h1 h2 h3 (fun σ => passAt C.tk σ) hp (nm1 o).1 (star_of (hn y (List.mem_cons_self ..)) _) (plain_star fun e he => hn e (List.mem_cons_of_mem _ he))) fun σ H Q ⟨H0, Wr, ρ, R, g⟩ => ?_
      refine ⟨H0, Wr, ρ, R, g.bind.mono fun ds g vs H1 e1 rs => ⟨ds, [], rs, by cases z : fd.own <;> first | exact rfl | (rw [z] at k2; cases k2.2), ?_⟩⟩
      have hk : kd L (.call f es) = oKd fd.own := by simp only [kd, hf, oKd]
      rw [hk] at g
      cases q : cf f ds with
      | ok d =>
        rw [q] at g
        refine fun v H' e2 r => g v H' (e1.trans e2.nil) ?_
        cases z : fd.own with
        | no => rw [z] at r; exact r
        | own => rw [z] at r; exact FRep.back e1 r
        | prt => rw [z] at k2; cases k2.2
        | chg l => rw [z] at k2; cases k2.2
      | exc c =>
        rw [q] at g
        exact fun H' e2 => ⟨c, rfl, rfl, g H' (e1.trans e2)⟩
      | fail =>
        rw [q] at g
        exact g
    · cases k2
  · cases k
/-- a built-in of one's own name -/
theorem s_bf (b : Bf) {es : Es} (hs : SEs L cf xa N es) (h1 : ∀ a, es = .cons a .nil → SX L cf xa N a) : SE L cf xa N (.bf b es) := fun W X sc e C k => by
  unfold chkE at k
  split at k
  · rename_i x p y ys pos
    split at k
    · rename_i ht
      simp only [Bool.and_eq_true, decide_eq_true_eq] at k
      obtain ⟨⟨rfl, k1⟩, k2⟩ := k
      split at k2
      · rename_i a t pt
        simp only [Bool.and_eq_true, decide_eq_true_eq] at k2
        obtain ⟨⟨⟨k3, k4⟩, k5⟩, k6⟩ := k2
        obtain ⟨gl, o⟩ := glo_of k1 C.scp
        obtain ⟨gt, ot⟩ := glo_of k5 C.scp
        have ha := h1 a rfl
        have main : ∀ n : String, b.py = (Str.ofString n, .type n) → bootBuiltins (Str.ofString n) = some (.type n) → (Str.ofString n) ∈ bnames → ((b = .isInt ∧ n = "int") ∨ (b = .isBool ∧ n = "bool") ∨ (b = .isStr ∧ n = "str") ∨ (b = .isTuple ∧ n = "tuple")) →
            PE X (.Call (.Name "isinstance" p) [y, .Name t pt] [] pos) (rd (kd L (.bf b (.cons a .nil))) X.K W (evE cf L.gl (.bf b (.cons a .nil)))) := fun n e1 e2 e3 e4 => by
          have et : t = Str.ofString n := by rw [k4, e1]
          subst et
          have pt' : PE X (.Name (Str.ofString n) pt) (tC (.ty n)) := pe_bltn gt (C.free _ e3) e2 rfl (nm1 ot).2.2 (nm1 ot).1
          refine pe_imp (pe_callB (call_is e4) gl (C.free _ (by decide)) boot_isinstance (pa_cons (ha.e.b C k3) (pa_cons pt' pa_nil (star_of rfl _)) (star_of k6 _)) (nm1 o).2.2 (nm1 o).1 (star_of k6 _) (plain_star fun e he => by
            rcases List.mem_cons.mp he with rfl | he
            · rfl
            · cases he)) fun σ H Q ⟨H0, Wr, ρ, R, g⟩ => ?_
          have g : Gd W σ H (((evE cf L.gl a ρ) >>= fun x => .ok [x]) >>= fun l => ofO (opF b l)) _ := g
          refine ⟨H0, Wr, ρ, R, g.bind.bind.mono fun d g v H1 e1 r => ?_⟩
          obtain ⟨d', ed, g⟩ := g.o
          obtain ⟨k', rfl⟩ : ∃ k', d' = .bl k' := by
            rcases e4 with ⟨rfl, _⟩ | ⟨rfl, _⟩ | ⟨rfl, _⟩ | ⟨rfl, _⟩ <;> simp only [opF] at ed <;> (cases z : kindOf d <;> rw [z] at ed <;> cases ed <;> exact ⟨_, rfl⟩)
          exact ⟨v, d, k', rfl, r, ed, g _ H1 e1 (.bl _)⟩
        cases b <;> simp only [isTy, Bool.false_eq_true] at ht
        · exact main "int" rfl boot_int (by decide) (.inl ⟨rfl, rfl⟩)
        · exact main "bool" rfl (by decide +kernel) (by decide) (.inr (.inl ⟨rfl, rfl⟩))
        · exact main "str" rfl boot_str (by decide) (.inr (.inr (.inl ⟨rfl, rfl⟩)))
        · exact main "tuple" rfl boot_tuple (by decide) (.inr (.inr (.inr ⟨rfl, rfl⟩)))
      · cases k2
    · rename_i ht
      split at k
      · rename_i hb
        subst hb
        simp only [Bool.and_eq_true, decide_eq_true_eq] at k
        obtain ⟨⟨rfl, k1⟩, k2⟩ := k
        split at k2
        · rename_i a t pt z q0
          simp only [Bool.and_eq_true, decide_eq_true_eq] at k2
          obtain ⟨⟨⟨k3, rfl⟩, k5⟩, k6⟩ := k2
          obtain ⟨gl, o⟩ := glo_of k1 C.scp
          obtain ⟨gt, ot⟩ := glo_of k5 C.scp
          have ha := h1 a rfl
          refine pe_imp (pe_sortedSet C.calm (room_u C) gl (C.free _ (by decide)) gt (C.free _ (by decide)) (ha.e.b C k3) (star_of k6 _)) fun σ H Q ⟨H0, Wr, ρ, R, g⟩ => ?_
          have g : Gd W σ H (((evE cf L.gl a ρ) >>= fun x => .ok [x]) >>= fun l => ofO (opF .sortedSet l)) _ := g
          refine ⟨H0, Wr, ρ, R, g.bind.bind.mono fun d g v H1 e1 r => ?_⟩
          obtain ⟨d2, ed, g⟩ := (show Gd W σ H (ofO (opF .sortedSet [d])) _ from g).o
          exact sortedSet_ok e1 r ed g
        · cases k2
      · rename_i hb
        simp only [Bool.and_eq_true, decide_eq_true_eq] at k
        obtain ⟨⟨⟨k0, rfl⟩, k1⟩, k2⟩ := k
        obtain ⟨gl, o⟩ := glo_of k1 C.scp
        obtain ⟨hp, hn⟩ := hs W X sc _ _ C k2
        have fin : ∀ σ H Q, rd (kd L (.bf b es)) X.K W (evE cf L.gl (.bf b es)) σ H Q → tCB (rF X.K b) (rdAs X.K W ((y :: ys).map fun _ => true) (evEs cf L.gl es)) σ H Q := fun σ H Q ⟨H0, Wr, ρ, R, g⟩ => by
          refine ⟨H0, Wr, ρ, R, g.bind.mono fun ds g vs H1 e1 rs => ?_⟩
          obtain ⟨d, ed, g⟩ := g.o
          exact ⟨ds, d, rs.bs, ed, fun v H2 e2 f => g v H2 (e1.trans e2) (f.back e1)⟩
        have st := star_of (es := ys) (hn y (List.mem_cons_self ..)) X.env
        have pl := plain_star (env := X.env) (pos := pos) fun e he => hn e (List.mem_cons_of_mem _ he)
        have B : ∀ n : String, b.py = (Str.ofString n, .builtin n) → CallR X (.builtin n) (rF X.K b) → bootBuiltins (Str.ofString n) = some (.builtin n) → (Str.ofString n) ∈ bnames → PE X (.Call (.Name b.py.1 p) (y :: ys) [] pos) (rd (kd L (.bf b es)) X.K W (evE cf L.gl (.bf b es))) := fun n e1 hc e2 e3 => by
          rw [e1] at gl o ⊢
          exact pe_imp (pe_callB hc gl (C.free _ e3) e2 hp (nm1 o).2.2 (nm1 o).1 st pl) fin
        have Y : ∀ n : String, b.py = (Str.ofString n, .type n) → CallR X (.type n) (rF X.K b) → bootBuiltins (Str.ofString n) = some (.type n) → (Str.ofString n) ∈ bnames → PE X (.Call (.Name b.py.1 p) (y :: ys) [] pos) (rd (kd L (.bf b es)) X.K W (evE cf L.gl (.bf b es))) := fun n e1 hc e2 e3 => by
          rw [e1] at gl o ⊢
          exact pe_imp (pe_callTy hc gl (C.free _ e3) e2 hp (nm1 o).2.2 (nm1 o).1 st pl) fin
        cases b with
        | len => exact B "len" rfl call_len_ boot_len (by decide)
        | int => exact Y "int" rfl call_int_ boot_int (by decide)
        | str => exact Y "str" rfl call_str_ boot_str (by decide)
        | tuple => exact Y "tuple" rfl call_tuple_ boot_tuple (by decide)
        | list => exact Y "list" rfl call_list_ boot_list (by decide)
        | sum => exact B "sum" rfl (call_sum_ C.calm) boot_sum (by decide)
        | all => exact B "all" rfl (call_all_ C.calm) boot_all (by decide)
        | any => exact B "any" rfl (call_any_ C.calm) boot_any (by decide)
        | max2 => exact B "max" rfl (call_max_ C.calm) boot_max (by decide)
        | min2 => exact B "min" rfl (call_min_ C.calm) (by decide +kernel) (by decide)
        | sortedSet => exact absurd rfl k0
        | sorted => exact B "sorted" rfl (call_sorted_ C.calm (room_u C)) boot_sorted (by decide)
        | isInt => exact absurd rfl ht
        | isBool => exact absurd rfl ht
        | isStr => exact absurd rfl ht
        | isTuple => exact absurd rfl ht
  · cases k
theorem litNon_eq {c : E} (h : isLitNon c = true) : c = .lit .non := by
  unfold isLitNon at h
  split at h
  · rfl
  · cases h
theorem s_sl {a lo hi : E} (ha : SE L cf xa N a) (hlo : SE L cf xa N lo) (hhi : SE L cf xa N hi) : SE L cf xa N (.sl a lo hi) := fun W X sc e C k => by
  unfold chkE at k
  split at k
  · rename_i x l h p2 pos
    simp only [Bool.and_eq_true] at k
    obtain ⟨⟨k1, k2⟩, k3⟩ := k
    have part : ∀ (c : E) (o : Option Expr), SE L cf xa N c → (match o with | none => isLitNon c | some l => !isLitNon c && chkE L N c sc l) = true →
        ∃ t : TO, PO X o t ∧ ∀ σ H H0 Wr ρ (Qo : Option Int → Hp → Prop), REnv X.K H0 Wr H σ ρ → (Gd W σ H (evE cf L.gl c ρ >>= fun d => ofO (ixPart (isLitNon c) d)) fun i => ∀ H', Ex H H' → Qo i H') → t σ H Qo := by
      intro c o hc hk
      cases o with
      | none =>
        refine ⟨_, po_none, fun σ H H0 Wr ρ Qo R g => ?_⟩
        obtain rfl := litNon_eq hk
        exact (show ∀ H', Ex H H' → Qo none H' from g) H (Ex.refl H)
      | some l =>
        simp only [Bool.and_eq_true, Bool.not_eq_true'] at hk
        refine ⟨_, po_some (hc.b C hk.2), fun σ H H0 Wr ρ Qo R g => ⟨H0, Wr, ρ, R, g.bind.mono fun d g v H1 ex r => ?_⟩⟩
        rw [hk.1] at g
        obtain ⟨i, ei, g⟩ := g.o
        cases d <;> simp only [ixPart, Bool.false_eq_true, if_false, reduceCtorEq] at ei <;> cases ei
        exact ⟨_, r.int_inv, g H1 ex⟩
    obtain ⟨tl, pl, ml⟩ := part lo l hlo k2
    obtain ⟨th, ph, mh⟩ := part hi h hhi k3
    refine pe_imp (pe_slice sl_S (ha.b C k1) pl ph) fun σ H Q ⟨H0, Wr, ρ, R, g⟩ => ?_
    refine ⟨H0, Wr, ρ, R, g.bind.mono fun dx g vx H1 e1 rx => ml σ H1 H0 Wr ρ _ (R.ex e1) ?_⟩
    have g : Gd W σ H (evE cf L.gl lo ρ >>= fun y => (ofO (ixPart (isLitNon lo) y)) >>= fun l => (evE cf L.gl hi ρ) >>= fun z => (ofO (ixPart (isLitNon hi) z)) >>= fun h => ofO (opSl dx l h)) fun d => ∀ v H', Ex H H' → FRep X.K H H' v d → Q v H' := g
    have g1 : Gd W σ H ((evE cf L.gl lo ρ >>= fun y => ofO (ixPart (isLitNon lo) y)) >>= fun l => (evE cf L.gl hi ρ >>= fun z => ofO (ixPart (isLitNon hi) z)) >>= fun h => ofO (opSl dx l h)) fun d => ∀ v H', Ex H H' → FRep X.K H H' v d → Q v H' := by
      cases q : evE cf L.gl lo ρ with
      | ok d =>
        rw [q] at g
        simp only [res_bind_ok] at g ⊢
        cases q2 : ofO (ixPart (isLitNon lo) d) with
        | ok i =>
          rw [q2] at g
          simp only [res_bind_ok] at g ⊢
          cases q3 : evE cf L.gl hi ρ with
          | ok d2 =>
            rw [q3] at g
            exact g
          | exc c => rw [q3] at g; exact g
          | fail => rw [q3] at g; exact g
        | exc c => rw [q2] at g; exact g
        | fail => rw [q2] at g; exact g
      | exc c => rw [q] at g; exact g
      | fail => rw [q] at g; exact g
    refine (g1.ex e1).bind.mono fun i g H2 e2 => mh σ H2 H0 Wr ρ _ ((R.ex e1).ex e2) ?_
    refine (g.ex e2).bind.mono fun j g H3 e3 => ?_
    obtain ⟨d, ed, g⟩ := g.o
    exact ⟨dx, d, RepB.mono (e2.trans e3) rx, ed, fun v H4 e4 f => g v H4 (((e1.trans e2).trans e3).trans e4) (FRep.back ((e1.trans e2).trans e3) f)⟩
  · cases k
theorem s_mt (m : Mt) {a : E} {es : Es} (ha : SE L cf xa N a) (hs : SEs L cf xa N es) : SE L cf xa N (.mt m a es) := fun W X sc e C k => by
  unfold chkE at k
  split at k
  · rename_i o n ap y p
    simp only [Bool.and_eq_true, decide_eq_true_eq] at k
    obtain ⟨⟨⟨⟨rfl, k1⟩, k2⟩, k3⟩, k4⟩ := k
    obtain ⟨hp, hn⟩ := hs W X sc _ _ C k4
    have ns := hn y (List.mem_cons_self ..)
    have st := star_of (es := []) ns X.env
    refine pe_imp (pe_bm PySem.F.plainAttrs_str PySem.F.slot_str_join PySem.F.type_str_join mt_join_ (ha.b C k3) hp (base_of k1 _ _) (by rw [st]; rfl) k2 st (plain_star fun e he => by cases he)) fun σ H Q ⟨H0, Wr, ρ, R, g⟩ => ?_
    refine ⟨H0, Wr, ρ, R, g.bind.mono fun dx g vx H1 e1 rx => ?_⟩
    have g := g.bind
    obtain ⟨_, er, g⟩ := g.o
    cases dx <;> simp only [recv, reduceCtorEq] at er
    obtain ⟨rfl, _⟩ := rx.str_inv
    exact ⟨rfl, H0, Wr, ρ, R.ex e1, (g.ex e1).bind.mono fun ds g vs H2 e2 rs => by
      obtain ⟨d, ed, g⟩ := g.o
      exact ⟨_, ds, d, RepB.mono e2 rx, rs.bs, ed, fun v H3 e3 f => g v H3 ((e1.trans e2).trans e3) (FRep.back (e1.trans e2) f)⟩⟩
  · rename_i o n ap p
    simp only [Bool.and_eq_true, decide_eq_true_eq] at k
    obtain ⟨⟨⟨⟨rfl, k1⟩, k2⟩, k3⟩, k4⟩ := k
    cases es with
    | cons _ _ => cases k4
    | nil =>
      refine pe_imp (pe_bm0 PySem.F.plainAttrs_str PySem.F.slot_str_islower PySem.F.type_str_islower mt_low_ (ha.b C k3) (base_of k1 _ _) k2) fun σ H Q ⟨H0, Wr, ρ, R, g⟩ => ?_
      refine ⟨H0, Wr, ρ, R, g.bind.mono fun dx g vx H1 e1 rx => ?_⟩
      have g := g.bind
      obtain ⟨_, er, g⟩ := g.o
      cases dx <;> simp only [recv, reduceCtorEq] at er
      obtain ⟨rfl, _⟩ := rx.str_inv
      obtain ⟨d, ed, g⟩ := (show Gd W σ H (ofO (opM .islower _ [])) _ from g).o
      exact ⟨rfl, _, [], d, rx, .nil, ed, fun v H3 e3 f => g v H3 (e1.trans e3) (FRep.back e1 f)⟩
  · rename_i o n ap p
    simp only [Bool.and_eq_true, decide_eq_true_eq] at k
    obtain ⟨⟨⟨⟨rfl, k1⟩, k2⟩, k3⟩, k4⟩ := k
    cases es with
    | cons _ _ => cases k4
    | nil =>
      refine pe_imp (pe_bm0 PySem.F.plainAttrs_str PySem.F.slot_str_isupper PySem.F.type_str_isupper mt_upp_ (ha.b C k3) (base_of k1 _ _) k2) fun σ H Q ⟨H0, Wr, ρ, R, g⟩ => ?_
      refine ⟨H0, Wr, ρ, R, g.bind.mono fun dx g vx H1 e1 rx => ?_⟩
      have g := g.bind
      obtain ⟨_, er, g⟩ := g.o
      cases dx <;> simp only [recv, reduceCtorEq] at er
      obtain ⟨rfl, _⟩ := rx.str_inv
      obtain ⟨d, ed, g⟩ := (show Gd W σ H (ofO (opM .isupper _ [])) _ from g).o
      exact ⟨rfl, _, [], d, rx, .nil, ed, fun v H3 e3 f => g v H3 (e1.trans e3) (FRep.back e1 f)⟩
  · rename_i o n ap p
    simp only [Bool.and_eq_true, decide_eq_true_eq] at k
    obtain ⟨⟨⟨⟨rfl, k1⟩, k2⟩, k3⟩, k4⟩ := k
    cases es with
    | cons _ _ => cases k4
    | nil =>
      refine pe_imp (pe_bm0 PySem.F.plainAttrs_str PySem.F.slot_str_isalnum PySem.F.type_str_isalnum mt_aln_ (ha.b C k3) (base_of k1 _ _) k2) fun σ H Q ⟨H0, Wr, ρ, R, g⟩ => ?_
      refine ⟨H0, Wr, ρ, R, g.bind.mono fun dx g vx H1 e1 rx => ?_⟩
      have g := g.bind
      obtain ⟨_, er, g⟩ := g.o
      cases dx <;> simp only [recv, reduceCtorEq] at er
      obtain ⟨rfl, _⟩ := rx.str_inv
      obtain ⟨d, ed, g⟩ := (show Gd W σ H (ofO (opM .isalnum _ [])) _ from g).o
      exact ⟨rfl, _, [], d, rx, .nil, ed, fun v H3 e3 f => g v H3 (e1.trans e3) (FRep.back e1 f)⟩
  · cases k
end
end Ev

/-! Walks, comprehensions; all expressions are sound. -/
namespace Ev
open PySem PySem.Spec
open PyProof.Rows hiding St
open L2
open Evl (Ex)
/-- an iterator that gives the items ds, whatever is made meanwhile -/
structure Walks (K : PySem.W.Frag) (J : L2.It) (H : Hp) (ds : List D) : Prop where
  len : ds.length ≤ sizeLine
  go : ∀ H', Pers H H' → ∀ (i : Nat) (d : D), ds[i]? = some d → J.go i H' ∧ ∀ x H3, J.yld i H' x H3 → H3 = H' ∧ Rep K H' x d
  stop : ∀ H', Pers H H' → J.stop ds.length H'
def rdI (K : PySem.W.Frag) (W : WN) (r : Env → Res (List D)) : TI := fun σ H R => ∃ H0 Wr ρ, REnv K H0 Wr H σ ρ ∧ Gd W σ H (r ρ) fun ds => ∀ J H', Ex H H' → Walks K J H' ds → R J H'
theorem rd_pers {H H' : Hp} {a : Addr} {xs : List V} {o : Obj} (p : Pers H H') (h : H a = some (.frz o (.lst xs))) : Rd H' a (.lst xs) := .inr ⟨o, p.2 a o _ h⟩
section
variable {L : Lw} {cf : Nat → List D → Res D} {xa : Nat → Addr} {N : List Str} {W : WN} {X : Cx} {sc : Scope}
theorem pi_imp {tg e : Expr} {t t' : TI} (h : PI X tg e t) (m : ∀ σ H R, t' σ H R → t σ H R) : PI X tg e t' := ⟨fun pins s σ H R I q => h.run pins s σ H R I (m σ H R q)⟩
abbrev SI (L : Lw) (cf : Nat → List D → Res D) (xa : Nat → Addr) (N : List Str) (it : It) : Prop := ∀ (W : WN) (X : Cx) (sc : Scope) (tg e : Expr), CtxOk L cf xa N W X sc → chkIt L N it sc e = true →
  PI X tg e (rdI X.K W (evIt cf L.gl it)) ∧ notSet e = true
theorem rng_get (lo : Int) (n i : Nat) (d : D) (h : (rng lo n)[i]? = some d) : i < n ∧ d = .int (lo + (i : Int)) := by
  unfold rng at h
  rw [List.getElem?_map] at h
  by_cases hi : i < n
  · rw [List.getElem?_range hi] at h
    cases h
    exact ⟨hi, rfl⟩
  · rw [List.getElem?_eq_none (by simpa using hi)] at h; cases h
theorem rng_len (lo : Int) (n : Nat) : (rng lo n).length = n := by unfold rng; simp
theorem walks_rng {K : PySem.W.Frag} {lo : Int} {n : Nat} {H : Hp} (hn : n ≤ sizeLine) : Walks K (Itr lo n) H (rng lo n) := by
  refine ⟨by rw [rng_len]; exact hn, fun H' _ i d h => ?_, fun H' _ => by rw [rng_len]; exact Nat.le_refl _⟩
  obtain ⟨hi, rfl⟩ := rng_get _ _ _ _ h
  exact ⟨hi, fun x H3 y => ⟨y.1, by rw [y.2]; exact .int _⟩⟩
theorem i_rng1 {a : E} (ha : SE L cf xa N a) : SI L cf xa N (.rng1 a) := fun W X sc tg e C k => by
  unfold chkIt at k
  split at k
  · rename_i x p y pos
    simp only [Bool.and_eq_true, decide_eq_true_eq] at k
    obtain ⟨⟨⟨rfl, k1⟩, k2⟩, k3⟩ := k
    obtain ⟨gl, o⟩ := glo_of k1 C.scp
    refine ⟨pi_imp (pi_range1 gl (C.free _ (by decide)) (pa_cons (ha.b C k2) pa_nil (star_of k3 _)) (star_of k3 _)) fun σ H R ⟨H0, Wr, ρ, r, g⟩ => ?_, rfl⟩
    refine ⟨H0, Wr, ρ, r, g.bind.mono fun d g v H1 e1 rv => ?_⟩
    obtain ⟨ds, ed, g⟩ := g.o
    cases d <;> simp only [rng1, reduceCtorEq] at ed
    rename_i j
    split at ed <;> cases ed
    rename_i hj
    obtain rfl := rv.int_inv
    have hl : line = 16777216 := by decide
    have hs : sizeLine = 16777216 := by decide
    have : (2 : Int) ^ 62 = 4611686018427387904 := by decide
    exact ⟨j, rfl, by omega, by omega, g _ H1 e1 (walks_rng (by omega))⟩
  · cases k
theorem i_rng2 {a b : E} (ha : SE L cf xa N a) (hb : SE L cf xa N b) : SI L cf xa N (.rng2 a b) := fun W X sc tg e C k => by
  unfold chkIt at k
  split at k
  · rename_i x p y z pos
    simp only [Bool.and_eq_true, decide_eq_true_eq] at k
    obtain ⟨⟨⟨⟨⟨rfl, k1⟩, k2⟩, k3⟩, k4⟩, k5⟩ := k
    obtain ⟨gl, o⟩ := glo_of k1 C.scp
    have s2 := star_of (es := []) k5 X.env
    have s1 := star_of (es := [z]) k3 X.env
    refine ⟨pi_imp (pi_range2 gl (C.free _ (by decide)) (pa_cons (ha.b C k2) (pa_cons (hb.b C k4) pa_nil s2) s1) (by rw [s1, s2]; rfl) s2) fun σ H R ⟨H0, Wr, ρ, r, g⟩ => ?_, rfl⟩
    refine ⟨H0, Wr, ρ, r, g.bind.mono fun d g v H1 e1 rv => ⟨H0, Wr, ρ, r.ex e1, (g.ex e1).bind.mono fun d2 g v2 H2 e2 rv2 => ?_⟩⟩
    obtain ⟨ds, ed, g⟩ := g.o
    cases d <;> cases d2 <;> simp only [rng2, reduceCtorEq] at ed
    rename_i _ i _ j
    split at ed <;> cases ed
    rename_i hj
    obtain rfl := rv.int_inv
    obtain rfl := rv2.int_inv
    have hl : line = 16777216 := by decide
    have hs : sizeLine = 16777216 := by decide
    have : (2 : Int) ^ 62 = 4611686018427387904 := by decide
    exact ⟨i, j, rfl, ⟨by omega, by omega, by omega, by omega⟩, g _ H2 (e1.trans e2) (walks_rng (by omega))⟩
  · cases k
theorem i_seq {a : E} (ha : SE L cf xa N a) : SI L cf xa N (.seq a) := fun W X sc tg e C k => by
  unfold chkIt at k
  simp only [Bool.and_eq_true] at k
  obtain ⟨⟨k1, k2⟩, k3⟩ := k
  refine ⟨⟨fun pins s σ H R I ⟨H0, Wr, ρ, r, g⟩ => ?_⟩, k2⟩
  have hv := ha.v k3 C k1
  have g : Gd W σ H (evE cf L.gl a ρ >>= fun x => ofO (itemsOf x)) _ := g
  cases q : evE cf L.gl a ρ with
  | ok d =>
    rw [q] at g
    obtain ⟨ds, ed, g⟩ := Gd.o (show Gd W σ H (ofO (itemsOf d)) _ from g)
    cases d <;> simp only [itemsOf, reduceCtorEq] at ed <;> cases ed
    · rename_i xs _
      refine (pi_str hv).run pins s σ H R I ⟨H0, Wr, ρ, r, ?_⟩
      rw [q]
      intro v H1 e1 rv
      obtain ⟨rfl, hl⟩ := Rep.str_inv rv
      refine ⟨_, rfl, g _ H1 e1 ⟨by rw [List.length_map]; exact hl, fun H' _ i d h => ?_, fun H' _ => ?_⟩⟩
      · rw [List.getElem?_map] at h
        cases q2 : xs[i]? with
        | none => rw [q2] at h; cases h
        | some c =>
          rw [q2] at h
          cases h
          have hi := (List.getElem?_eq_some_iff.mp q2).1
          refine ⟨by show i < (T xs).cps.size; simpa [T] using hi, fun x H3 y => ⟨y.1, ?_⟩⟩
          obtain ⟨c', hc, rfl⟩ := y.2
          have : c' = c := by
            have : xs[i]? = some c' := by simpa [T] using hc
            rw [q2] at this; cases this; rfl
          subst this
          exact .str [c'] (by show 1 ≤ line; decide)
      · rw [List.length_map]
        show (T xs).cps.size ≤ xs.length
        simp [T]
    · rename_i xs
      refine (pi_tup hv).run pins s σ H R I ⟨H0, Wr, ρ, r, ?_⟩
      rw [q]
      intro v H1 e1 rv
      have hz := RepB.lenT (.inl rv)
      obtain ⟨a', vs, rfl, h1, rr⟩ := RepB.tup_inv (.inl rv)
      refine ⟨a', rfl, ⟨vs, h1⟩, g _ H1 e1 ⟨?_, fun H' p i d h => ?_, fun H' p => ⟨vs, sqt_pers p h1, by rw [rr.length]; exact Nat.le_refl _⟩⟩⟩
      · exact hz
      · obtain ⟨x, hx, hr⟩ := rr.get h
        refine ⟨⟨vs, x, sqt_pers p h1, hx⟩, fun y H3 yl => ⟨yl.1, ?_⟩⟩
        have := yl.2 vs (sqt_pers p h1)
        rw [hx] at this; cases this
        exact hr.mono p
    · rename_i xs
      refine (pi_list hv).run pins s σ H R I ⟨H0, Wr, ρ, r, ?_⟩
      rw [q]
      intro v H1 e1 rv
      cases rv with
      | lst h1 rr hz =>
        rename_i a' vs o
        have sq : ∀ H', Pers H1 H' → SqL X.K H' a' vs := fun H' p => .inl (rd_pers p h1)
        refine ⟨a', rfl, ⟨vs, sq H1 (Pers.refl _)⟩, g _ H1 e1 ⟨?_, fun H' p i d h => ?_, fun H' p => ⟨vs, sq H' p, by rw [rr.length]; exact Nat.le_refl _⟩⟩⟩
        · exact hz
        · obtain ⟨x, hx, hr⟩ := rr.get h
          refine ⟨⟨vs, x, sq H' p, hx⟩, fun y H3 yl => ⟨yl.1, ?_⟩⟩
          have := yl.2 vs (sq H' p)
          rw [hx] at this; cases this
          exact hr.mono p
  | exc c =>
    rw [q] at g
    refine (pi_str hv).run pins s σ H R I ⟨H0, Wr, ρ, r, ?_⟩
    rw [q]
    exact g
  | fail => rw [q] at g; exact (show False from g).elim

theorem walks_rngR {K : PySem.W.Frag} {n : Nat} {H : Hp} (hn : n ≤ sizeLine) : Walks K (Itc ((n : Int) - 1) (-1) n) H (rng 0 n).reverse := by
  refine ⟨by rw [List.length_reverse, rng_len]; exact hn, fun H' _ i d h => ?_, fun H' _ => by rw [List.length_reverse, rng_len]; exact Nat.le_refl _⟩
  have hi : i < (rng 0 n).length := by
    have := (List.getElem?_eq_some_iff.mp h).1
    simpa using this
  rw [List.getElem?_reverse hi] at h
  rw [rng_len] at hi h
  obtain ⟨_, rfl⟩ := rng_get _ _ _ _ h
  refine ⟨hi, fun x H3 y => ⟨y.1, ?_⟩⟩
  rw [y.2, show (n : Int) - 1 + (i : Nat) * (-1) = 0 + ((n - 1 - i : Nat) : Int) by omega]
  exact .int _
theorem i_revr {a : E} (ha : SE L cf xa N a) : SI L cf xa N (.revr a) := fun W X sc tg e C k => by
  unfold chkIt at k
  split at k
  · rename_i x p r rp y pos2 pos
    simp only [Bool.and_eq_true, decide_eq_true_eq] at k
    obtain ⟨⟨⟨⟨⟨rfl, k1⟩, rfl⟩, k2⟩, k3⟩, k4⟩ := k
    obtain ⟨gl, o⟩ := glo_of k1 C.scp
    obtain ⟨gr, o2⟩ := glo_of k2 C.scp
    refine ⟨pi_imp (pi_revR gl (C.free _ (by decide)) (prg_1 gr (C.free _ (by decide)) (ha.b C k3) (star_of k4 _)) (star_of rfl _)) fun σ H R ⟨H0, Wr, ρ, r, g⟩ => ?_, rfl⟩
    have g : Gd W σ H (evE cf L.gl a ρ >>= fun x => (ofO (rng1 x)) >>= fun l => Res.ok l.reverse) (fun ds => ∀ J H', Ex H H' → Walks X.K J H' ds → R J H') := g
    refine ⟨H0, Wr, ρ, r, g.bind.mono fun d g v H1 e1 rv => ?_⟩
    obtain ⟨ds, ed, g⟩ := g.bind.o
    cases d <;> simp only [rng1, reduceCtorEq] at ed
    rename_i j
    split at ed <;> cases ed
    rename_i hj
    obtain rfl := rv.int_inv
    have hl : line = 16777216 := by decide
    have hs : sizeLine = 16777216 := by decide
    have h62 : (2 : Int) ^ 62 = 4611686018427387904 := by decide
    have g : ∀ J H', Ex H H' → Walks X.K J H' (rng 0 j.toNat).reverse → R J H' := g
    refine ⟨j, rfl, by omega, by omega, by omega, by omega, ?_⟩
    have e : (0 : Int) + (((j - 0).toNat : Nat) : Int) - 1 = ((j.toNat : Nat) : Int) - 1 := by omega
    rw [e, show (j - 0).toNat = j.toNat by omega]
    exact g _ H1 e1 (walks_rngR (by omega))
  · cases k
theorem i_rev {a : E} (ha : SE L cf xa N a) : SI L cf xa N (.rev a) := fun W X sc tg e C k => by
  unfold chkIt at k
  split at k
  · rename_i x p y pos
    simp only [Bool.and_eq_true, decide_eq_true_eq] at k
    obtain ⟨⟨⟨⟨rfl, k1⟩, k2⟩, k3⟩, k4⟩ := k
    obtain ⟨gl, o⟩ := glo_of k1 C.scp
    refine ⟨pi_imp (RT.pi_revA gl (C.free _ (by decide)) (ha.v k4 C k2) (star_of k3 _)) fun σ H R ⟨H0, Wr, ρ, r, g⟩ => ?_, rfl⟩
    refine ⟨H0, Wr, ρ, r, g.bind.mono fun d g v H1 e1 rv => ?_⟩
    obtain ⟨ds, ed, g⟩ := g.o
    have at_ : ∀ {n i : Nat} {vs : List V} {xs : List D} {d : D}, vs.length = xs.length → n = vs.length → xs.reverse[i]? = some d → i < n ∧ xs[n - 1 - i]? = some d := fun {n i vs xs d} hl hn h => by
      have hi : i < xs.length := by
        have := (List.getElem?_eq_some_iff.mp h).1
        simpa using this
      rw [List.getElem?_reverse hi] at h
      exact ⟨by omega, by rw [hn, hl]; exact h⟩
    cases d <;> simp only [revOf, reduceCtorEq] at ed <;> cases ed
    · rename_i xs g
      have hz := RepB.lenT (.inl rv)
      obtain ⟨a', vs, rfl, h1, rr⟩ := RepB.tup_inv (.inl rv)
      refine ⟨a', vs, rfl, .inr ⟨h1, g _ H1 e1 ⟨by rw [List.length_reverse]; exact hz, fun H' p i d h => ?_, fun H' p => ?_⟩⟩⟩
      · obtain ⟨hi, hd⟩ := at_ rr.length rfl h
        obtain ⟨x, hx, hr⟩ := rr.get hd
        refine ⟨⟨hi, vs, x, sqt_pers p h1, hx⟩, fun y H3 yl => ⟨yl.1, ?_⟩⟩
        have := yl.2 vs (sqt_pers p h1)
        rw [hx] at this; cases this
        exact hr.mono p
      · show vs.length ≤ xs.reverse.length
        rw [List.length_reverse, rr.length]
        exact Nat.le_refl _
    · rename_i xs g
      cases rv with
      | lst h1 rr hz =>
        rename_i a' vs o2
        have sq : ∀ H', Pers H1 H' → SqL X.K H' a' vs := fun H' p => .inl (rd_pers p h1)
        refine ⟨a', vs, rfl, .inl ⟨sq H1 (Pers.refl _), g _ H1 e1 ⟨by rw [List.length_reverse]; exact hz, fun H' p i d h => ?_, fun H' p => ?_⟩⟩⟩
        · obtain ⟨hi, hd⟩ := at_ rr.length rfl h
          obtain ⟨x, hx, hr⟩ := rr.get hd
          refine ⟨⟨hi, vs, x, sq H' p, hx⟩, fun y H3 yl => ⟨yl.1, ?_⟩⟩
          have := yl.2 vs (sq H' p)
          rw [hx] at this; cases this
          exact hr.mono p
        · show vs.length ≤ xs.reverse.length
          rw [List.length_reverse, rr.length]
          exact Nat.le_refl _
  · cases k

/-! ### comprehensions -/
theorem ctx_blk {scope : Scope} {s : Shared} {H : Hp} {C : Addr} {cl : List (Str × Addr)} {fp : List Addr} (O : CtxOk L cf xa N W X sc) :
    CtxOk L cf xa N (fun _ _ _ => False) (X.blk s H scope (compEnvC scope cl C X.env) fp) (relS scope sc) where
  calm := O.calm
  nN := O.nN
  nd := O.nd
  scp := by
    have := O.scp
    subst this
    rfl
  room := O.room
  fns := O.fns
  free := O.free
  glb := O.glb
  tk := Takes.imp takes0 fun _ _ _ _ h => by
    obtain ⟨_, _, _, h⟩ := h
    exact h.elim
theorem wipe_set (σ : L2.St) (i : Nat) (v : V) : (wipe σ [i]).set i (some v) = σ.set i (some v) := by
  show (σ.set i none).set i (some v) = _
  rw [List.set_set]
theorem wipe_wipe (σ : L2.St) (i : Nat) (v : V) : wipe (σ.set i (some v)) [i] = wipe σ [i] := by
  show (σ.set i (some v)).set i none = σ.set i none
  rw [List.set_set]
/-- one turn of a comprehension, plainly -/
theorem compL_cons {cond elt : D → Res D} {x : D} {xs r : List D} (h : compL cond elt (x :: xs) = .ok r) : ∃ b, (cond x >>= fun c => ofO (truth c)) = .ok b ∧
    if b = true then ∃ y ys, elt x = .ok y ∧ compL cond elt xs = .ok ys ∧ r = y :: ys else compL cond elt xs = .ok r := by
  unfold compL at h
  cases q : cond x with
  | ok c =>
    rw [q] at h
    simp only [res_bind_ok] at h ⊢
    cases q2 : truth c with
    | none => rw [q2] at h; cases h
    | some b =>
      rw [q2] at h
      simp only [ofO_some, res_bind_ok] at h
      refine ⟨b, rfl, ?_⟩
      cases b with
      | false => simpa using h
      | true =>
        simp only [if_true] at h ⊢
        cases q3 : elt x with
        | ok y =>
          rw [q3] at h
          simp only [res_bind_ok] at h
          cases q4 : compL cond elt xs with
          | ok ys => rw [q4] at h; cases h; exact ⟨y, ys, rfl, rfl, rfl⟩
          | exc c => rw [q4] at h; cases h
          | fail => rw [q4] at h; cases h
        | exc c => rw [q3] at h; cases h
        | fail => rw [q3] at h; cases h
  | exc c => rw [q] at h; cases h
  | fail => rw [q] at h; cases h
theorem isLitTrue_eq {c : E} (h : isLitTrue c = true) : c = .lit (.bl true) := by
  unfold isLitTrue at h
  split at h
  · rfl
  · cases h
/-- what a comprehension is made of, and its reading -/
def CompM (L : Lw) (cf : Nat → List D → Res D) (X : Cx) (W : WN) (c : E) (e : Expr) : Prop := ∃ (el tg iter : Expr) (ifs : List Expr) (scope : Scope) (own : List (Str × Nat)) (pos : Pos) (wi : TI) (g : TG) (tt : TT) (te : TE),
  e = .ListComp el [⟨tg, iter, ifs, 0⟩] scope pos ∧ PI X tg iter wi ∧ BlkOk X.N X.env.scope scope own ∧
  (∀ (s : Shared) (H : Hp) (C : Addr) (cl : List (Str × Addr)) (fp : List Addr), PG (X.blk s H scope (compEnvC scope cl C X.env) fp) tg g) ∧
  (∀ (s : Shared) (H : Hp) (C : Addr) (cl : List (Str × Addr)) (fp : List Addr), PTs (X.blk s H scope (compEnvC scope cl C X.env) fp) ifs tt) ∧
  (∀ (s : Shared) (H : Hp) (C : Addr) (cl : List (Str × Addr)) (fp : List Addr), PE (X.blk s H scope (compEnvC scope cl C X.env) fp) el te) ∧
  (∀ x, foldedSetIterable iter X.env x = pure x) ∧
  ∀ σ H Q, rd .C X.K W (evE cf L.gl c) σ H Q → tLc wi g tt te (own.map (·.2)) σ H Q
theorem m_comp (x : Nat) {it : It} {cond elt : E} (hi : SI L cf xa N it) (hc : SX L cf xa N cond) (he : SX L cf xa N elt) {W : WN} {X : Cx} {sc : Scope} {e : Expr} (O : CtxOk L cf xa N W X sc) (k : chkE L N (.comp x it cond elt) sc e = true) : CompM L cf X W (.comp x it cond elt) e := by
  unfold chkE at k
  split at k
  · rename_i el t p iter ifs scope pos
    simp only [Bool.and_eq_true, decide_eq_true_eq] at k
    obtain ⟨⟨⟨⟨⟨⟨⟨k1, k2⟩, k3⟩, k4⟩, k5⟩, k6⟩, k7⟩, k8⟩ := k
    obtain ⟨pi, ns⟩ := hi W X sc (.Name t p) iter O k5
    -- the test's reading
    have ht : ∃ tt : TT, (∀ (s : Shared) (H : Hp) (C : Addr) (cl : List (Str × Addr)) (fp : List Addr), PTs (X.blk s H scope (compEnvC scope cl C X.env) fp) ifs tt) ∧
        ∀ σ H H0 Wr ρ b (Qo : Bool → Hp → Prop), REnv X.K H0 Wr H σ ρ → evT cf L cond ρ = .ok b → (∀ H', Ex H H' → Qo b H') → tt σ H Qo := by
      split at k6
      · obtain rfl := isLitTrue_eq k6
        refine ⟨tYes, fun _ _ _ _ _ => pts_nil, fun σ H H0 Wr ρ b Qo R e q => ?_⟩
        cases e
        exact q H (Ex.refl H)
      · rename_i c
        rw [Bool.and_eq_true] at k6
        refine ⟨rdT X.K (fun _ _ _ => False) (evT cf L cond), fun s H C cl fp => pts_one (hc.t _ (X.blk s H scope (compEnvC scope cl C X.env) fp) _ c (ctx_blk O) k6.1 k6.2), fun σ H H0 Wr ρ b Qo R e q => ⟨H0, Wr, ρ, R, ?_⟩⟩
        rw [e]
        exact q
      · cases k6
    obtain ⟨tt, pt, mt⟩ := ht
    have lt : (relS scope sc).names.lookup t = some .local ∨ ((relS scope sc).names.lookup t = some .cell ∧ scope.names.lookup t = some .cell) := by
      unfold locB at k4
      split at k4
      · rename_i h
        exact .inl (lookup_relS_keep (by decide) h)
      · rename_i h
        exact .inr ⟨lookup_relS_keep (by decide) h, h⟩
      · cases k4
    refine ⟨el, .Name t p, iter, ifs, scope, [(t, x)], pos, _, gName x, tt, rd .V X.K (fun _ _ _ => False) (evE cf L.gl elt), rfl, pi, blkOk_by (by rw [O.nN, O.scp]; exact k2),
      fun s H C cl fp => pg_name (i := x) O.nd (by rw [O.nN]; exact k1) (by rw [(ctx_blk (s := s) (H := H) (C := C) (cl := cl) (fp := fp) O).scp]; exact lt.elim .inl fun z => .inr z.1) (by rw [(ctx_blk (s := s) (H := H) (C := C) (cl := cl) (fp := fp) O).scp]; exact lt.elim .inr fun z => .inl (by show (scope.names.lookup t == some NameKind.cell) = true; rw [z.2]; rfl)),
      pt, fun s H C cl fp => he.e.v (X := X.blk s H scope (compEnvC scope cl C X.env) fp) k8 (ctx_blk O) k7, set_of ns _, fun σ H Q ⟨H0, Wr, ρ, R, g⟩ => ?_⟩
    · have g : Gd W σ H (evIt cf L.gl it ρ >>= fun l => (noExc (compL (fun d => evE cf L.gl cond (setV ρ x d)) (fun d => evE cf L.gl elt (setV ρ x d)) l)) >>= fun r => .ok (.lst r)) fun d => ∀ v H', Ex H H' → FRep X.K H H' v d → Q v H' := g
      refine ⟨H0, Wr, ρ, R, g.bind.mono fun ds g J H1 e1 wk => ?_⟩
      intro Dl hD
      cases q : compL (fun d => evE cf L.gl cond (setV ρ x d)) (fun d => evE cf L.gl elt (setV ρ x d)) ds with
      | exc c => rw [q] at g; exact (show False from g).elim
      | fail => rw [q] at g; exact (show False from g).elim
      | ok rs =>
        rw [q] at g
        have g : ∀ v H', Ex H H' → FRep X.K H H' v (.lst rs) → Q v H' := g
        have hz : sizeLine = line := rfl
        refine ⟨fun i m H' => m = ds.length - i ∧ i ≤ ds.length ∧ Ex H1 H' ∧ ∃ vs acc rest, H' Dl = some (.lst vs) ∧ Reps X.K H' vs acc ∧ acc.length ≤ i ∧ compL (fun d => evE cf L.gl cond (setV ρ x d)) (fun d => evE cf L.gl elt (setV ρ x d)) (ds.drop i) = .ok rest ∧ rs = acc ++ rest,
          ⟨ds.length, by simp, Nat.zero_le _, Ex.new hD, [], [], rs, upd_same, .nil, Nat.le_refl _, by simpa using q, rfl⟩, ?_⟩
        rintro i m H' ⟨rfl, hil, ex1, vs, acc, rest, hDl, rr, hac, hrest, hrs⟩
        by_cases hlt : i < ds.length
        · have hd : ds[i]? = some ds[i] := by simp [hlt]
          obtain ⟨go, yl⟩ := wk.go H' (.of ex1) i _ hd
          rw [List.drop_eq_getElem_cons hlt] at hrest
          obtain ⟨b, eb, hb⟩ := compL_cons hrest
          refine .inr ⟨go, fun H2 => ∃ m', m' < ds.length - i ∧ (m' = ds.length - (i + 1) ∧ i + 1 ≤ ds.length ∧ Ex H1 H2 ∧ ∃ vs acc rest, H2 Dl = some (.lst vs) ∧ Reps X.K H2 vs acc ∧ acc.length ≤ i + 1 ∧ compL (fun d => evE cf L.gl cond (setV ρ x d)) (fun d => evE cf L.gl elt (setV ρ x d)) (ds.drop (i + 1)) = .ok rest ∧ rs = acc ++ rest), fun H2 h => h, fun xv H2 hy => ?_⟩
          obtain ⟨rfl, rx⟩ := yl xv H2 hy
          have R2 : REnv X.K H0 Wr H2 (σ.set x (some xv)) (setV ρ x ds[i]) := ((R.ex e1).ex ex1).set rx
          show wipe ((wipe σ [x]).set x (some xv)) [x] = wipe σ [x] ∧ tt ((wipe σ [x]).set x (some xv)) H2 _
          rw [wipe_set]
          refine ⟨wipe_wipe σ x xv, mt _ H2 H0 Wr _ b _ R2 eb fun H3 e3 => ?_⟩
          cases b with
          | false =>
            have hb : compL (fun d => evE cf L.gl cond (setV ρ x d)) (fun d => evE cf L.gl elt (setV ρ x d)) (ds.drop (i + 1)) = .ok rest := by simpa using hb
            exact ⟨_, by omega, rfl, hlt, ex1.trans e3, vs, acc, rest, e3 _ _ hDl, rr.mono (.of e3), by omega, hb, hrs⟩
          | true =>
            obtain ⟨y, ys, ey, hys, hr⟩ := (by simpa using hb : ∃ y ys, evE cf L.gl elt (setV ρ x ds[i]) = .ok y ∧ compL (fun d => evE cf L.gl cond (setV ρ x d)) (fun d => evE cf L.gl elt (setV ρ x d)) (ds.drop (i + 1)) = .ok ys ∧ rest = y :: ys)
            have R3 : REnv X.K H0 Wr H3 ((wipe σ [x]).set x (some xv)) (setV ρ x ds[i]) := by rw [wipe_set]; exact R2.ex e3
            refine ⟨H0, Wr, _, R3, ?_⟩
            rw [ey]
            intro yv H4 e4 ry
            have h4 : H4 Dl = some (.lst vs) := e4 _ _ (e3 _ _ hDl)
            have ex4 : Ex H1 H4 := (ex1.trans e3).trans e4
            have P4 : Pers H4 (upd H4 Dl (.lst (vs ++ [yv]))) := (Pers.refl _).mut h4
            have hl := rr.length
            refine ⟨vs, h4, by have := wk.len; omega, _, by omega, rfl, hlt, Ex.mut ex4 hD, vs ++ [yv], acc ++ [y], ys, upd_same, ?_, by rw [List.length_append]; simp; omega, hys, by rw [hrs, hr]; simp⟩
            exact ((rr.mono (.of (e3.trans e4))).append (.one ry)).mono P4
        · have ei : i = ds.length := by omega
          subst ei
          refine .inl ⟨wk.stop H' (.of ex1), ?_⟩
          have : rest = [] := by
            rw [List.drop_length] at hrest
            cases hrest; rfl
          subst this
          rw [List.append_nil] at hrs
          subst hrs
          exact g _ _ (e1.trans ex1) ⟨Dl, vs, rfl, Evl.fresh_back e1 hD, hDl, rr, by have := wk.len; omega⟩
  · cases k
theorem s_comp (x : Nat) {it : It} {cond elt : E} (hi : SI L cf xa N it) (hc : SX L cf xa N cond) (he : SX L cf xa N elt) : SE L cf xa N (.comp x it cond elt) := fun W X sc e O k => by
  obtain ⟨el, tg, iter, ifs, scope, own, pos, wi, g, tt, te, rfl, h1, h2, h3, h4, h5, h6, h7⟩ := m_comp x hi hc he O k
  exact pe_imp (pe_lc O.calm O.nd h1 h2 h3 h4 h5 h6) h7
end
end Ev

/-! All expressions are sound; extend by what is locked. -/
namespace PySem.AutoSeq1
theorem ev_extend_list_tuple (l : Addr) (items : Array Value) (n : Nat) (b : Addr) (items2 : Array Value) (n2 : Nat) (dd2 : Option Addr) (sl2 : Array (Option Value)) (hs0 : ¬(!items.isEmpty && Builtin.List.listTooLong (items.size + items2.size)) = true) (hs1 : items.size ≤ sizeLine) (hs2 : items.size + items2.size ≤ sizeLine + 1) :
    Meets (Builtin.«list.extend» ⟨[.ref l, .ref b], []⟩) (fun _ R s => s.heap.get? l = some { cls := .type "list", dict := none, data := .seq items n, slots := #[] } ∧ s.heap.get? b = some { cls := .type "tuple", dict := dd2, data := .seq items2 n2, slots := sl2 } ∧ R (.ok (.ret Value.none)) { s with heap := s.heap.update l (Obj.mapSeq fun x => x ++ items2), toks := s.toks }) :=
  .of_wp fun prog w A R s h => by
    obtain ⟨hp, g, d, tk, os⟩ := s; obtain ⟨hl, hb, h⟩ := h; have f1 := idx_int; have f2 := sub_tuple_tuple; have f3 := sub_list_list; have f4 := sub_tuple_list; have f5 := sub_list_tuple;
    have hz' : (items ++ items2).size ≤ sizeLine + 1 := by rw [Array.size_append]; exact hs2
    wp_walk using (wpAny_updateSeq hl rfl (hz := hs1) (_hz' := hz')), wpAny_loadPart' hl, wpAny_loadPart' hb; exact ⟨_, rfl, h⟩
end PySem.AutoSeq1
namespace Ev
open PySem PySem.Spec
open PyProof.Rows hiding St
open L2
open Evl (Ex)
section
variable {L : Lw} {cf : Nat → List D → Res D} {xa : Nat → Addr} {N : List Str} {W : WN} {X : Cx} {sc : Scope}
mutual
theorem x_all : ∀ c : E, SX L cf xa N c
  | .var i => x_plain (s_var i) rfl
  | .bor i => x_plain (s_bor i) rfl
  | .lit d => x_plain (s_lit d) rfl
  | .glob g => x_plain (s_glob g) rfl
  | .tup es => x_plain (s_tup (es_all es).1) rfl
  | .lst es => x_plain (s_lst (es_all es).1) rfl
  | .bin o a b => x_plain (s_bin o (x_all a).e (x_all b).e) rfl
  | .neg a => x_plain (s_neg (x_all a).e) rfl
  | .lrng a => x_plain (s_lrng (x_all a).e) rfl
  | .revs a => x_plain (s_revs (x_all a).e) rfl
  | .prt i k => x_plain (s_prt i k) rfl
  | .not a => x_not (x_all a)
  | .and a b => x_and (x_all a) (x_all b)
  | .or a b => x_or (x_all a) (x_all b)
  | .cmp o a b => x_one (m_cmp o (x_all a).e (x_all b).e) rfl rfl
  | .chain o p a b c => x_one (m_chain o p (x_all a).e (x_all b).e (x_all c).e) rfl rfl
  | .isN a => x_one (m_isN (x_all a).e) rfl rfl
  | .notN a => x_one (m_notN (x_all a).e) rfl rfl
  | .ife c a b => x_ife (x_all c) (x_all a) (x_all b)
  | .call f es => x_plain (s_call f (es_all es).1) rfl
  | .bf b es => x_plain (s_bf b (es_all es).1 (es_all es).2) rfl
  | .mt m a es => x_plain (s_mt m (x_all a).e (es_all es).1) rfl
  | .ix a b => x_plain (s_ix (x_all a).e (x_all b).e) rfl
  | .sl a lo hi => x_plain (s_sl (x_all a).e (x_all lo).e (x_all hi).e) rfl
  | .comp x it c e => x_plain (s_comp x (it_all it) (x_all c) (x_all e)) rfl
theorem es_all : ∀ es : Es, SEs L cf xa N es ∧ ∀ a, es = .cons a .nil → SX L cf xa N a
  | .nil => ⟨es_nil, fun _ h => nomatch h⟩
  | .cons e es => ⟨es_cons (x_all e) (es_all es).1, fun a h => by cases h; exact x_all _⟩
theorem it_all : ∀ it : It, SI L cf xa N it
  | .seq a => i_seq (x_all a).e
  | .rng1 a => i_rng1 (x_all a).e
  | .rng2 a b => i_rng2 (x_all a).e (x_all b).e
  | .rev a => i_rev (x_all a).e
  | .revr a => i_revr (x_all a).e
end
/-- xs.extend(ys), ys locked, or a tuple -/
def rExt (K : PySem.W.Frag) : V → List V → Hp → VK → Prop := fun x vs H Q => ∃ l b xs zs, x = .ref l ∧ vs = [.ref b] ∧ H l = some (.lst xs) ∧ (Rd H b (.lst zs) ∨ SqT K H b zs) ∧ xs.length + zs.length ≤ sizeLine ∧ Q .non (upd H l (.lst (xs ++ zs)))
theorem mt_ext : MtM X "list.extend" (rExt X.K) := by
  intro pins s σ H x vs v us Q I rx rv h
  obtain ⟨l, b, xs, zs, rfl, rfl, hH, hB, hz, q⟩ := h
  cases rx
  obtain ⟨u, rfl, ru⟩ := rv.one
  cases ru
  obtain ⟨z, its, n, r, hl, e⟩ := I.lstM hH
  have fin : ∀ its2 : List Value, Vals zs its2 → EP X pins σ Q .none { s with heap := s.heap.update l (Obj.mapSeq fun x => x ++ its2.toArray), toks := s.toks } := fun its2 r2 => by
    refine ⟨.non, _, I.lset (its' := its ++ its2) hH e (by simp) (r.append r2) ?_, rfl, q⟩
    rw [List.length_append]
    omega
  rcases hB with hB | hB
  · obtain ⟨z2, its2, n2, r2, hl2, e2⟩ := rd_lst I hB
    have hsz : its.toArray.size + its2.toArray.size ≤ sizeLine := by rw [List.size_toArray, List.size_toArray]; omega
    have hlong : ¬ (!its.toArray.isEmpty && Builtin.List.listTooLong (its.toArray.size + its2.toArray.size)) = true := by
      rw [notLongL hsz, Bool.and_false]
      exact Bool.false_ne_true
    exact call_meets PySem.F.slot_list_extend ⟨_, e, rfl⟩ PySem.F.entry_list_extend (PySem.F.args_list_extend_2 _ _)
      (AutoSeq1.list_extend_list_list_0 l its.toArray n b its2.toArray n2 hlong (by rw [List.size_toArray]; omega) (by omega)) ⟨e, e2, fin its2 r2⟩
  · obtain ⟨its2, r2, ⟨⟨oc, od, odt, osl⟩, e2, hc, n2, hd⟩, _⟩ := I.tuple hB
    have hl2 := r2.length
    simp only at hc hd
    subst hc hd
    have hsz : its.toArray.size + its2.toArray.size ≤ sizeLine := by rw [List.size_toArray, List.size_toArray]; omega
    have hlong : ¬ (!its.toArray.isEmpty && Builtin.List.listTooLong (its.toArray.size + its2.toArray.size)) = true := by
      rw [notLongL hsz, Bool.and_false]
      exact Bool.false_ne_true
    exact call_meets PySem.F.slot_list_extend ⟨_, e, rfl⟩ PySem.F.entry_list_extend (PySem.F.args_list_extend_2 _ _)
      (AutoSeq1.ev_extend_list_tuple l its.toArray n b its2.toArray n2 _ _ hlong (by rw [List.size_toArray]; omega) (by omega)) ⟨e, e2, fin its2 r2⟩
end
end Ev

/-! Statements: the text against the core syntax; statements are sound. -/
namespace Ev
open PySem PySem.Spec
open PyProof.Rows hiding St
open L2
open Evl (Ex)

/-- a comprehension on the right: may it be stored as it is made (only a local on the same row), or surely not -/
def compSt (sc : Scope) (x : Str) (pos : Pos) : Expr → Bool
  | .ListComp _ _ scope vp => (match sc.kind with | .function => true | _ => false) && (match sc.names.lookup x with
      | some .local => (pos.line == vp.line) && !(scope.names.any fun (n, k) => n == x && (k == .local || k == .cell))
      | _ => false)
  | _ => false
def compNo (sc : Scope) (x : Str) (pos : Pos) : Expr → Bool
  | .ListComp _ _ scope vp => (match sc.names.lookup x with
      | some .cell => true
      | _ => false) || !(pos.line == vp.line)
  | _ => false
/-- a slot that may be stored: none of the lists that are the caller's -/
def okSl (own : Ow) (i : Nat) : Bool := !own.mu.contains i
def locM (own : Ow) (i : Nat) (sc : Scope) (x : Str) : Bool := locB sc x && okSl own i
def plainR : Ow → Bool
  | .chg _ => false
  | _ => true
def chkH (L : Lw) (N : List Str) (own : Ow) (sc : Scope) : Hd → Stmt → Bool
  | .set i d, st => match st with
    | .Assign [.Name x _] v _ => decide (N[i]? = some x) && locM own i sc x && chkE L N (.lit d) sc v && notComp v
    | _ => false
  | .ret d, st => match st with
    | .Return (some v) _ => decide (own = .no) && chkE L N (.lit d) sc v
    | _ => false
  | .pass, st => match st with
    | .Pass _ => true
    | _ => false
/-- names to be stored -/
def chkTg (N : List Str) (own : Ow) (sc : Scope) : List Nat → List Expr → Bool
  | [], es => es.isEmpty
  | i :: is, e :: es => (match e with
    | .Name x _ => decide (N[i]? = some x) && locM own i sc x
    | _ => false) && chkTg N own sc is es
  | _, _ => false
def isCall : Expr → Bool | .Call .. => true | _ => false
def Es.len : Es → Nat
  | .nil => 0
  | .cons _ es => Es.len es + 1
/-- the arguments of a call that changes some: those are slots, told by ms, or new; all others values -/
def chkMs (L : Lw) (N : List Str) (sc : Scope) (mu : List Nat) : Nat → Es → List (Option Nat) → List Expr → Bool
  | _, .nil, ms, es => ms.isEmpty && es.isEmpty
  | k, .cons a as, ms, es => match es with
    | e :: es => notStar e && (if mu.contains k then (match ms with
      | some i :: ms => (match a with
        | .bor j => Nat.beq i j && chkE L N a sc e
        | _ => false) && chkMs L N sc mu (k + 1) as ms es
      | none :: ms => (match a with
        | .lst _ => chkE L N a sc e
        | _ => false) && chkMs L N sc mu (k + 1) as ms es
      | [] => false) else chkE L N a sc e && isV L a && chkMs L N sc mu (k + 1) as ms es)
    | [] => false
def somes : List (Option Nat) → List Nat
  | [] => []
  | some i :: ms => i :: somes ms
  | none :: ms => somes ms
def chkCall (L : Lw) (N : List Str) (sc : Scope) (f : Nat) (es : Es) (ms : List (Option Nat)) : Expr → Bool
  | .Call (.Name x _) ys [] _ => decide (x = L.nm f) && gloB sc x && !ys.isEmpty && decide (somes ms).Nodup && (match L.T f with
    | some fd => (match fd.own with
      | .chg l => chkMs L N sc l 0 es ms ys && decide ((ms.filter Option.isNone).length ≤ 1) && decide (l = (List.range' 0 es.len).filter l.contains) && decide (fd.ps = (List.range' 0 es.len).map l.contains)
      | _ => false)
    | none => false)
  | _ => false
def ownO : Ow → Option (List Nat) → Bool
  | .no, none => true
  | .chg l, some k => decide (l = k)
  | _, _ => false
def lastOf : List Expr → Option (List Expr × Expr)
  | [] => none
  | [e] => some ([], e)
  | e :: f :: es => (lastOf (f :: es)).map fun p => (e :: p.1, p.2)
def chkK (L : Lw) (N : List Str) (own : Ow) (sc : Scope) (k : Km) (f : Nat) (es : Es) (ms : List (Option Nat)) (st : Stmt) : Bool := match k with
  | .drop => (match st with
    | .Expr e _ => chkCall L N sc f es ms e && notComp e
    | _ => false)
  | .asg i => (match st with
    | .Assign [.Name x _] e _ => decide (N[i]? = some x) && locM own i sc x && chkCall L N sc f es ms e && notComp e
    | _ => false)
  | .ret l => (match st with
    | .Return (some e) _ => ownO own l && chkCall L N sc f es ms e
    | _ => false)
  | .app i => (match st with
    | .Expr (.Call (.Attribute (.Name x _) n ap) [y] [] cp) _ => decide (N[i]? = some x) && visB sc x && decide (n = ("append" : Str)) && (ap.endLine == cp.line) && chkCall L N sc f es ms y && notStar y
    | _ => false)
  | .ext i => (match st with
    | .Expr (.Call (.Attribute (.Name x _) n ap) [y] [] cp) _ => decide (N[i]? = some x) && visB sc x && decide (n = ("extend" : Str)) && (ap.endLine == cp.line) && chkCall L N sc f es ms y && notStar y
    | _ => false)
  | .asgT i pre => (match st with
    | .Assign [.Name x _] (.Tuple ys _ _) _ => decide (N[i]? = some x) && locM own i sc x && (match lastOf ys with
      | some p => chkEs L N pre (p.1.map fun _ => false) sc p.1 && chkCall L N sc f es ms p.2 && decide (ys.length < line)
      | none => false)
    | _ => false)
  | .retT l pre => (match st with
    | .Return (some (.Tuple ys _ _)) _ => ownO own l && (match lastOf ys with
      | some p => chkEs L N pre (p.1.map fun _ => false) sc p.1 && chkCall L N sc f es ms p.2 && decide (ys.length < line)
      | none => false)
    | _ => false)
mutual
def chkS (L : Lw) (N : List Str) (xn : Nat → Option Str) (own : Ow) (sc : Scope) : S → Stmt → Bool
  | .pass, st => match st with
    | .Pass _ => true
    | _ => false
  | .expr e, st => match st with
    | .Expr x _ => chkE L N e sc x && notComp x
    | _ => false
  | .assign i e, st => match st with
    | .Assign [.Name x _] v _ => decide (N[i]? = some x) && locM own i sc x && chkE L N e sc v && isV L e && notComp v
    | _ => false
  | .assignF i e, st => match st with
    | .Assign [.Name x p] v _ => decide (N[i]? = some x) && locM own i sc x && chkE L N e sc v && isC L e && (notComp v || compSt sc x p v || compNo sc x p v)
    | _ => false
  | .append i e, st => match st with
    | .Expr (.Call (.Attribute (.Name x _) n ap) [y] [] cp) _ => decide (N[i]? = some x) && visB sc x && decide (n = ("append" : Str)) && (ap.endLine == cp.line) && chkE L N e sc y && isV L e && notStar y
    | _ => false
  | .extend i e, st => match st with
    | .Expr (.Call (.Attribute (.Name x _) n ap) [y] [] cp) _ => decide (N[i]? = some x) && visB sc x && decide (n = ("extend" : Str)) && (ap.endLine == cp.line) && chkE L N e sc y && isV L e && notStar y
    | _ => false
  | .setIx i k e, st => match st with
    | .Assign [.Subscript (.Name x _) y _] v _ => decide (N[i]? = some x) && visB sc x && chkE L N k sc y && notSlice y && chkE L N e sc v && isV L e && notComp v
    | _ => false
  | .ife c a b, st => match st with
    | .If t xs ys _ => chkE L N c sc t && chkT t && chkB L N xn own sc a xs && chkB L N xn own sc b ys
    | _ => false
  | .for_ i it b, st => match st with
    | .For (.Name x _) iter xs [] _ => decide (N[i]? = some x) && locM own i sc x && chkIt L N it sc iter && chkB L N xn own sc b xs
    | _ => false
  | .whil c b, st => match st with
    | .While t xs [] _ => chkE L N c sc t && chkT t && chkB L N xn own sc b xs
    | _ => false
  | .ret e, st => match st with
    | .Return (some x) _ => decide (own = .no) && chkE L N e sc x && isV L e
    | _ => false
  | .retF e, st => match st with
    | .Return (some x) _ => chkE L N e sc x && isC L e && plainOw own
    | _ => false
  | .retOwn i, st => match st with
    | .Return (some (.Name x _)) _ => decide (N[i]? = some x) && visB sc x && plainOw own
    | _ => false
  | .retN, st => match st with
    | .Return none _ => plainR own
    | _ => false
  | .brk, st => match st with
    | .Break _ => true
    | _ => false
  | .cont, st => match st with
    | .Continue _ => true
    | _ => false
  | .raise c, st => match st with
    | .Raise (some (.Call (.Name x _) [.Constant (.str _) _ _] [] _)) none _ => decide (xn c = some x) && gloB sc x
    | _ => false
  | .unpack is e, st => match st with
    | .Assign [.Tuple es _ _] v _ => chkTg N own sc is es && isCall v && chkE L N e sc v && isV L e
    | _ => false
  | .pop x i, st => match st with
    | .Assign [.Name y _] (.Call (.Attribute (.Name z _) n ap) [] [] cp) _ => decide (N[x]? = some y) && locM own x sc y && decide (N[i]? = some z) && visB sc z && decide (n = ("pop" : Str)) && (ap.endLine == cp.line)
    | _ => false
  | .popU is i, st => match st with
    | .Assign [.Tuple es _ _] (.Call (.Attribute (.Name z _) n ap) [] [] cp) _ => chkTg N own sc is es && decide (N[i]? = some z) && visB sc z && decide (n = ("pop" : Str)) && (ap.endLine == cp.line)
    | _ => false
  | .retP i es, st => match st with
    | .Return (some (.List (.Name x _ :: xs) _)) _ => decide (own = .prt) && decide (N[i]? = some x) && visB sc x && chkEs L N es (xs.map fun _ => false) sc xs && decide (xs.length < line)
    | _ => false
  | .retM l e, st => match st with
    | .Return (some x) _ => decide (own = .chg l) && chkE L N e sc x && isV L e
    | _ => false
  | .retMN l, st => match st with
    | .Return none _ => decide (own = .chg l)
    | _ => false
  | .callM k f es ms, st => chkK L N own sc k f es ms st
  | .try_ b yes no c h, st => match st with
    | .Try body [.ExceptHandler (some (.Name x _)) none [h₀] _] [] [] _ => decide (xn c = some x) && gloB sc x && (yes.all fun y => decide (L.exm y c = some true)) && (no.all fun y => decide (L.exm y c = some false)) &&
        chkB L N xn own sc b body && chkH L N own sc h h₀
    | _ => false
def chkB (L : Lw) (N : List Str) (xn : Nat → Option Str) (own : Ow) (sc : Scope) : B → List Stmt → Bool
  | .nil, l => l.isEmpty
  | .cons s b, l => match l with
    | st :: r => chkS L N xn own sc s st && chkB L N xn own sc b r
    | [] => false
  | .freeze i b, l => okSl own i && chkB L N xn own sc b l
  | .pair i j f es b, l => match l with
    | .Assign [.Name x _] (.Call (.Name g _) (y :: ys) [] _) _ :: .Assign [.Name z _] (.Subscript (.Name x' _) (.Constant (.int k) _ _) _) _ :: r => decide (N[i]? = some x) && locM own i sc x && visB sc x && decide (g = L.nm f) && gloB sc g && (match L.T f with
        | some fd => chkEs L N es fd.ps sc (y :: ys) && decide (fd.own = .prt)
        | none => false) && decide (N[j]? = some z) && locM own j sc z && decide (x' = x) && decide (k = 0) && decide (i ≠ j) && chkB L N xn own sc b r
    | _ => false
end

/-- the slots stand for ρ, the caller's lists in theirs -/
structure RE (K : PySem.W.Frag) (H0 : Hp) (M : Mp) (H : Hp) (σ : L2.St) (ρ : Env) : Prop where
  r : REnv K H0 (M.map (·.2)) H σ ρ
  mp : ∀ p ∈ M, σ[p.1]? = some (some (.ref p.2))
def MFst (own : Ow) (M : Mp) : Prop := match own with
  | .chg l => M.map (·.1) = l
  | _ => M = []
section
variable {K : PySem.W.Frag} {H0 H H' : Hp} {M : Mp} {σ : L2.St} {ρ : Env} {v : V} {d : D} {i : Nat} {own : Ow}
theorem sl_of (h : okSl own i = true) (m : MFst own M) : ∀ p ∈ M, p.1 ≠ i := fun p hp e => by
  unfold okSl at h
  cases own with
  | chg l =>
    have m : M.map (·.1) = l := m
    have : i ∈ l := by rw [← m, ← e]; exact List.mem_map_of_mem hp
    have h : (!l.contains i) = true := h
    have : l.contains i = true := by simpa using this
    rw [this] at h
    cases h
  | _ => have m : M = [] := m; subst m; cases hp
theorem locM_of {env : Scope} {x : Str} (h : locM own i env x = true) : locB env x = true ∧ okSl own i = true := by
  unfold locM at h
  rw [Bool.and_eq_true] at h
  exact h
theorem RE.ex (R : RE K H0 M H σ ρ) (e : Ex H H') : RE K H0 M H' σ ρ := ⟨R.r.ex e, R.mp⟩
theorem RE.exw (R : RE K H0 M H σ ρ) : ExW (M.map (·.2)) H0 H := fun a o h n => R.r.gr a o h n
theorem RE.ex0 (R : RE K H0 M H σ ρ) (m : M = []) : Ex H0 H := by subst m; exact fun a o h => R.r.gr a o h (by simp)
theorem RE.tr (R : RE K H0 M H σ ρ) (e : Ex H H') : ExW (M.map (·.2)) H0 H' := fun a o h n => e a o (R.exw a o h n)
theorem RE.keep (R : RE K H0 M H σ ρ) (n : ∀ p ∈ M, p.1 ≠ i) : ∀ p ∈ M, (σ.set i (some v))[p.1]? = some (some (.ref p.2)) := fun p hp => by
  rw [List.getElem?_set_ne (fun e => n p hp e.symm)]
  exact R.mp p hp
theorem RE.set (R : RE K H0 M H σ ρ) (n : ∀ p ∈ M, p.1 ≠ i) (h : Rep K H v d) : RE K H0 M H (σ.set i (some v)) (setV ρ i d) := ⟨R.r.set h, R.keep n⟩
theorem RE.setVs : ∀ {is : List Nat} {vs : List V} {ds : List D} {σ : L2.St} {ρ : Env}, RE K H0 M H σ ρ → (∀ i ∈ is, ∀ p ∈ M, p.1 ≠ i) → Reps K H vs ds → RE K H0 M H (setSs is vs σ) (Ev.setVs is ds ρ)
  | [], _, _, _, _, R, _, _ => by unfold setSs Ev.setVs; exact R
  | i :: is, _, _, _, _, R, _, .nil => R
  | i :: is, _, _, _, _, R, n, .cons h r => RE.setVs (is := is) (R.set (n i (List.mem_cons_self ..)) h) (fun j hj => n j (List.mem_cons_of_mem _ hj)) r
theorem RE.setF {Hi : Hp} {xs : List D} (R : RE K H0 M Hi σ ρ) (n : ∀ p ∈ M, p.1 ≠ i) (e : Ex Hi H) (h : FRep K Hi H v (.lst xs)) : RE K H0 M H (σ.set i (some v)) (setOwn ρ i xs) := ⟨R.r.setF e h, R.keep n⟩
theorem RE.setP {a : Addr} {o : Obj} {x : V} {vs : List V} {ds : List D} (R : RE K H0 M H σ ρ) (n : ∀ p ∈ M, p.1 ≠ i) (h : H a = some (.frz o (.lst (x :: vs)))) (r : Reps K H vs ds) (z : ds.length < line) : RE K H0 M H (σ.set i (some (.ref a))) (setPrt ρ i ds) := ⟨R.r.setP h r z, R.keep n⟩
theorem RE.write {a : Addr} {vs ws : List V} {xs ys : List D} (R : RE K H0 M H σ ρ) (h : getOwn ρ i = some xs) (hs : σ[i]? = some (some (.ref a))) (ha : H a = some (.lst vs)) (r : Reps K H ws ys) (hz : ys.length ≤ line) :
    RE K H0 M (upd H a (.lst ws)) σ (setOwn ρ i ys) ∧ Pers H (upd H a (.lst ws)) := ⟨⟨(R.r.write h hs ha r hz).1, R.mp⟩, (R.r.write h hs ha r hz).2⟩
theorem RE.lock {a : Addr} {vs : List V} {xs : List D} {o : Obj} (R : RE K H0 M H σ ρ) (h : getOwn ρ i = some xs) (hs : σ[i]? = some (some (.ref a))) (ha : H a = some (.lst vs)) (r : Reps K H vs xs) :
    RE K H0 M (upd H a (.frz o (.lst vs))) σ (setV ρ i (.lst xs)) ∧ Pers H (upd H a (.frz o (.lst vs))) := ⟨⟨(R.r.lock h hs ha r).1, R.mp⟩, (R.r.lock h hs ha r).2⟩
end
/-- what is good of a flow -/
def GS (own : Ow) (K : PySem.W.Frag) (W : WN) (H0 : Hp) (M : Mp) (H : Hp) (E : Ends) : Res Flow → Prop
  | .ok (.nx ρ) => ∀ σ' H', RE K H0 M H' σ' ρ → Pers H H' → E.nx σ' H'
  | .ok (.brk ρ) => ∀ σ' H', RE K H0 M H' σ' ρ → Pers H H' → E.bk σ' H'
  | .ok (.cont ρ) => ∀ σ' H', RE K H0 M H' σ' ρ → Pers H H' → E.ct σ' H'
  | .ok (.ret d) => ∀ v H', ExW (M.map (·.2)) H0 H' → Pers H H' → RetR own K M H0 H' v d → E.rt v H'
  | .ok (.exc c ρ) => ∀ σ' H', RE K H0 M H' σ' ρ → Pers H H' → W c σ' H'
  | .exc _ => False
  | .fail => False
theorem GS.pers {own : Ow} {K : PySem.W.Frag} {W : WN} {H0 H H' : Hp} {M : Mp} {E : Ends} {r : Res Flow} (p : Pers H H') (h : GS own K W H0 M H E r) : GS own K W H0 M H' E r := by
  unfold GS at h ⊢
  split at h
  · exact fun σ' H2 R q => h σ' H2 R (p.trans q)
  · exact fun σ' H2 R q => h σ' H2 R (p.trans q)
  · exact fun σ' H2 R q => h σ' H2 R (p.trans q)
  · exact fun v H2 e q => h v H2 e (p.trans q)
  · exact fun σ' H2 R q => h σ' H2 R (p.trans q)
  · exact h
  · exact h
def rdS (own : Ow) (K : PySem.W.Frag) (W : WN) (r : Env → Res Flow) : TS := fun E σ H => ∃ H0 M ρ, MFst own M ∧ RE K H0 M H σ ρ ∧ GS own K W H0 M H E (r ρ)
/-- an expression ahead -/
theorem GS.withE {own : Ow} {K : PySem.W.Frag} {W : WN} {H0 H : Hp} {M : Mp} {E : Ends} {α : Type} {r : Res α} {ρ : Env} {σ : L2.St} {f : α → Res Flow} (R : RE K H0 M H σ ρ) (h : GS own K W H0 M H E (Ev.withE r ρ f)) : Gd W σ H r fun a => GS own K W H0 M H E (f a) := by
  cases r with
  | ok a => exact h
  | exc c => exact fun H' e => h σ H' (R.ex e) (.of e)
  | fail => exact h
theorem GS.o {own : Ow} {K : PySem.W.Frag} {W : WN} {H0 H : Hp} {M : Mp} {E : Ends} {α : Type} {o : Option α} {f : α → Res Flow} (h : GS own K W H0 M H E (ofO o >>= f)) : ∃ a, o = some a ∧ GS own K W H0 M H E (f a) := by
  cases o with
  | none => exact h.elim
  | some a => exact ⟨a, rfl, h⟩

/-- an error's class, as the top has it -/
structure XcAt (X : Cx) (x : Str) (C : Addr) : Prop where
  g : X.mg x = some (.ref C)
  ex : PySem.W.excIn X.K C [.type "ValueError", .type "Exception", .type "BaseException", .type "object"] "ValueError.__new__" = true
  kp : PySem.W.keepIn X.K (.ref C) = true
  sb : PySem.W.subIn X.K (.ref C) (.type "BaseException") = some true
  ty : PySem.W.typeIn X.K (.ref C) = some (.type "type")
structure SCtx (L : Lw) (cf : Nat → List D → Res D) (xa : Nat → Addr) (xn : Nat → Option Str) (N : List Str) (W : WN) (X : Cx) (sc : Scope) : Prop extends CtxOk L cf xa N W X sc where
  pass : PassesOwn (model X.prog X.w) X.A X.env X.xe
  fn : ∀ x, X.fn x = true
  xc : ∀ c x, xn c = some x → XcAt X x (xa c)
  ems : ∀ y c b, L.exm y c = some b → PySem.W.exmOne X.K (.ref (xa y)) (.ref (xa c)) = some b
  hs : X.stack = X.env :: X.outer
  hf : X.env.frame = some X.env.locals
section
variable {L : Lw} {cf : Nat → List D → Res D} {xa : Nat → Addr} {xn : Nat → Option Str} {N : List Str} {W : WN} {X : Cx} {sc : Scope} {own : Ow}
theorem ps_imp {st : Stmt} {t t' : TS} (h : PS X st t) (m : ∀ E σ H, t' E σ H → t E σ H) : PS X st t' := ⟨fun pins s σ H E I q => h.run pins s σ H E I (m E σ H q)⟩
theorem pss_imp {sts : List Stmt} {t t' : TS} (h : PSs X sts t) (m : ∀ E σ H, t' E σ H → t E σ H) : PSs X sts t' := ⟨fun pins s σ H E I q => h.run pins s σ H E I (m E σ H q)⟩
abbrev SS (L : Lw) (cf : Nat → List D → Res D) (xa : Nat → Addr) (xn : Nat → Option Str) (N : List Str) (own : Ow) (s : S) : Prop := ∀ (W : WN) (X : Cx) (sc : Scope) (st : Stmt), SCtx L cf xa xn N W X sc → chkS L N xn own sc s st = true → PS X st (rdS own X.K W (evS cf L.gl s))
abbrev SB (L : Lw) (cf : Nat → List D → Res D) (xa : Nat → Addr) (xn : Nat → Option Str) (N : List Str) (own : Ow) (b : B) : Prop := ∀ (W : WN) (X : Cx) (sc : Scope) (sts : List Stmt), SCtx L cf xa xn N W X sc → chkB L N xn own sc b sts = true → PSs X sts (rdS own X.K W (evB cf L.gl b))
theorem ss_pass : SS L cf xa xn N own .pass := fun W X sc st C k => by
  unfold chkS at k
  split at k
  · exact ps_imp ps_pass fun E σ H ⟨H0, M, ρ, mm, R, g⟩ => g σ H R (Pers.refl H)
  · cases k
theorem ss_brk : SS L cf xa xn N own .brk := fun W X sc st C k => by
  unfold chkS at k
  split at k
  · exact ps_imp ps_break fun E σ H ⟨H0, M, ρ, mm, R, g⟩ => g σ H R (Pers.refl H)
  · cases k
theorem ss_cont : SS L cf xa xn N own .cont := fun W X sc st C k => by
  unfold chkS at k
  split at k
  · exact ps_imp ps_continue fun E σ H ⟨H0, M, ρ, mm, R, g⟩ => g σ H R (Pers.refl H)
  · cases k
theorem ss_retN : SS L cf xa xn N own .retN := fun W X sc st C k => by
  unfold chkS at k
  split at k
  · refine ps_imp ps_retN fun E σ H ⟨H0, M, ρ, mm, R, g⟩ => g _ H R.exw (Pers.refl H) ?_
    cases own with
    | chg l => cases k
    | _ => exact .non
  · cases k
theorem ss_expr (e : E) : SS L cf xa xn N own (.expr e) := fun W X sc st C k => by
  unfold chkS at k
  split at k
  · rw [Bool.and_eq_true] at k
    refine ps_imp (ps_expr ((x_all e).e.b C.toCtxOk k.1) (swap_of k.2 _ _ _)) fun E σ H ⟨H0, M, ρ, mm, R, g⟩ => ⟨H0, _, ρ, R.r, (g.withE R).mono fun d g v H1 e1 r => ?_⟩
    exact g σ H1 (R.ex e1) (.of e1)
  · cases k
theorem ss_assign (i : Nat) (e : E) : SS L cf xa xn N own (.assign i e) := fun W X sc st C k => by
  unfold chkS at k
  split at k
  · simp only [Bool.and_eq_true, decide_eq_true_eq] at k
    obtain ⟨⟨⟨⟨k1, k2⟩, k3⟩, k4⟩, k5⟩ := k
    refine ps_imp (ps_set C.nd (by rw [C.nN]; exact k1) (loc_of (locM_of k2).1 C.scp) ((x_all e).e.v k4 C.toCtxOk k3) (swap_of k5 _ _ _) (.inl (C.fn _))) fun E σ H ⟨H0, M, ρ, mm, R, g⟩ => ⟨H0, _, ρ, R.r, (g.withE R).mono fun d g v H1 e1 r => ?_⟩
    exact g _ H1 ((R.ex e1).set (sl_of (locM_of k2).2 mm) r) (.of e1)
  · cases k
theorem ss_assignF (i : Nat) (e : E) : SS L cf xa xn N own (.assignF i e) := fun W X sc st C k => by
  unfold chkS at k
  split at k
  · rename_i x p v pos
    simp only [Bool.and_eq_true, decide_eq_true_eq, Bool.or_eq_true] at k
    obtain ⟨⟨⟨⟨k1, k2⟩, k3⟩, k4⟩, k5⟩ := k
    have hk : kd L e = .C := by
      unfold isC at k4
      split at k4
      · assumption
      · cases k4
    have pe := (x_all (cf := cf) (xa := xa) e).e W X sc v C.toCtxOk k3
    rw [hk] at pe
    have fin : ∀ {t : TE} {E σ H}, (∀ σ H Q, rd .C X.K W (evE cf L.gl e) σ H Q → t σ H Q) → rdS own X.K W (evS cf L.gl (.assignF i e)) E σ H → tAsg t (gName i) E σ H := fun {t E σ H} m ⟨H0, M, ρ, mm, R, g⟩ => m σ H _ ⟨H0, _, ρ, R.r, (g.withE R).mono fun d g v H1 e1 r => by
      obtain ⟨xs, ed, g⟩ := g.o
      cases d <;> simp only [listOf, reduceCtorEq] at ed <;> cases ed
      exact g _ H1 (R.setF (sl_of (locM_of k2).2 mm) e1 r) (.of e1)⟩
    have plain : (∀ env', env' = X.env → swapsWith v (some (.Name x p)) pos.line env' = pure false) → PS X (.Assign [.Name x p] v pos) (rdS own X.K W (evS cf L.gl (.assignF i e))) := fun hs =>
      ps_imp (ps_set C.nd (by rw [C.nN]; exact k1) (loc_of (locM_of k2).1 C.scp) pe (hs _ rfl) (.inl (C.fn _))) fun E σ H h => fin (fun _ _ _ q => q) h
    rcases k5 with (k5 | k5) | k5
    · exact plain fun env' _ => swap_of k5 _ _ _
    · -- as it is made
      cases v <;> simp only [compSt, Bool.false_eq_true] at k5
      rename_i el gens scope vp
      cases e <;> first | (simp [kd] at hk; done) | (unfold chkE at k3; simp at k3; done) | skip
      · rename_i y it cond elt
        obtain ⟨el', tg, iter, ifs, scope', own', pos', wi, g, tt, te, he, h1, h2, h3, h4, h5, h6, h7⟩ := m_comp y (it_all it) (x_all cond) (x_all elt) C.toCtxOk k3
        cases he
        simp only [Bool.and_eq_true] at k5
        obtain ⟨q1, q2⟩ := k5
        have kf : X.env.scope.kind = .function := by
          rw [C.scp]
          split at q1
          · assumption
          · cases q1
        split at q2
        · rename_i hl
          simp only [Bool.and_eq_true, Bool.not_eq_true'] at q2
          refine ps_imp (ps_setLc C.calm C.nd (by rw [C.nN]; exact k1) (by rw [C.scp]; exact hl) (sw_true kf (by rw [C.scp]; exact hl) q2.1 q2.2) h1 h2 h3 h4 h5 h6) fun E σ H h => fin h7 h
        · cases q2
    · cases v <;> simp only [compNo, Bool.false_eq_true] at k5
      rename_i el gens scope vp
      refine plain fun env' he => ?_
      unfold swapsWith
      simp only [Expr.pos]
      rw [Bool.or_eq_true] at k5
      have : (env'.blockKind == ScopeKind.function && env'.kindOf x == some NameKind.local && p.line == vp.line && !(scope.names.any fun x_1 => x_1.fst == x && (x_1.snd == NameKind.local || x_1.snd == NameKind.cell))) = false := by
        rcases k5 with k5 | k5
        · split at k5
          · rename_i hl
            have : env'.kindOf x = some .cell := by
              rw [he]
              unfold Env.kindOf
              rw [C.scp]
              exact hl
            rw [this]
            simp
          · cases k5
        · have : (p.line == vp.line) = false := by simpa using k5
          rw [this]
          simp
      first
        | (rw [this] <;> rfl)
        | (simp only [this] <;> rfl)
  · cases k
theorem ss_append (i : Nat) (e : E) : SS L cf xa xn N own (.append i e) := fun W X sc st C k => by
  unfold chkS at k
  split at k
  · simp only [Bool.and_eq_true, decide_eq_true_eq] at k
    obtain ⟨⟨⟨⟨⟨⟨k1, k2⟩, rfl⟩, k3⟩, k4⟩, k5⟩, k6⟩ := k
    obtain ⟨v, o⟩ := vis_of k2 C.scp
    obtain ⟨d1, d2, _⟩ := nm1 o
    have st := star_of (es := []) k6 X.env
    refine ps_imp (ps_expr (pe_bm PySem.F.plainAttrs_list PySem.F.slot_list_append PySem.F.type_list_append mt_append (pe_var (by rw [C.nN]; exact k1) v d1 d2) (pa_cons ((x_all e).e.v k5 C.toCtxOk k4) pa_nil st) rfl (by rw [st]; rfl) k3 st (plain_star fun e he => by cases he))) fun E σ H ⟨H0, M, ρ, mm, R, g⟩ => ?_
    obtain ⟨xs, ex, g⟩ := g.o
    obtain ⟨a, vs, hs, ha, rr, w, hz⟩ := R.r.own ex
    refine ⟨_, hs, .inl ⟨rfl, _, .inl (.inl ha)⟩, H0, _, ρ, R.r, (g.withE R).mono fun d g v H1 e1 r => ?_⟩
    obtain ⟨ys, ey, g⟩ := g.o
    unfold appL at ey
    split at ey <;> cases ey
    rename_i hl
    have h1 := e1 _ _ ha
    have rr1 := rr.mono (.of e1)
    refine ⟨a, vs, v, rfl, rfl, h1, by rw [rr.length]; exact hl, ?_⟩
    obtain ⟨R2, P2⟩ := (R.ex e1).write ex hs h1 (rr1.append (.one r)) (by rw [List.length_append]; simp; omega)
    exact g σ _ R2 ((Pers.of e1).trans P2)
  · cases k
theorem ss_extend (i : Nat) (e : E) : SS L cf xa xn N own (.extend i e) := fun W X sc st C k => by
  unfold chkS at k
  split at k
  · simp only [Bool.and_eq_true, decide_eq_true_eq] at k
    obtain ⟨⟨⟨⟨⟨⟨k1, k2⟩, rfl⟩, k3⟩, k4⟩, k5⟩, k6⟩ := k
    obtain ⟨v, o⟩ := vis_of k2 C.scp
    obtain ⟨d1, d2, _⟩ := nm1 o
    have st := star_of (es := []) k6 X.env
    refine ps_imp (ps_expr (pe_bm PySem.F.plainAttrs_list PySem.F.slot_list_extend PySem.F.type_list_extend mt_ext (pe_var (by rw [C.nN]; exact k1) v d1 d2) (pa_cons ((x_all e).e.v k5 C.toCtxOk k4) pa_nil st) rfl (by rw [st]; rfl) k3 st (plain_star fun e he => by cases he))) fun E σ H ⟨H0, M, ρ, mm, R, g⟩ => ?_
    obtain ⟨xs, ex, g⟩ := g.o
    obtain ⟨a, vs, hs, ha, rr, w, hz⟩ := R.r.own ex
    refine ⟨_, hs, .inl ⟨rfl, _, .inl (.inl ha)⟩, H0, _, ρ, R.r, (g.withE R).mono fun d g v H1 e1 r => ?_⟩
    obtain ⟨ys, ey, g⟩ := g.o
    obtain ⟨zs, ez, g⟩ := g.o
    unfold extL at ez
    split at ez <;> cases ez
    rename_i hl
    have h1 := e1 _ _ ha
    have rr1 := rr.mono (.of e1)
    have hz : ∃ b ws, v = .ref b ∧ (Rd H1 b (.lst ws) ∨ SqT X.K H1 b ws) ∧ Reps X.K H1 ws ys := by
      have r : Rep X.K H1 v d := r
      cases d <;> simp only [seqOf, reduceCtorEq] at ey <;> cases ey
      · obtain ⟨b, ws, e1, e2, e3⟩ := RepB.tup_inv (.inl r)
        exact ⟨b, ws, e1, .inr e2, e3⟩
      · obtain ⟨b, ws, e1, e2, e3⟩ := RepB.lst_inv (.inl r)
        exact ⟨b, ws, e1, .inl e2, e3⟩
    obtain ⟨b, ws, rfl, hb, rw'⟩ := hz
    refine ⟨a, b, vs, ws, rfl, rfl, h1, hb, by rw [rr.length, rw'.length]; exact hl, ?_⟩
    obtain ⟨R2, P2⟩ := (R.ex e1).write ex hs h1 (rr1.append rw') (by rw [List.length_append]; exact hl)
    exact g σ _ R2 ((Pers.of e1).trans P2)
  · cases k
theorem assign_sub {o y : Expr} {py : Pos} {env : PySem.Env} {w : Value} (h : notSlice y = true) : assign (.Subscript o y py) env w = (do
    let ov ← holding [w] (eval o env)
    let iv ← holding [w, ov] (eval y env)
    standAt py
    holding [w, ov, iv] (setItem ov iv w)
    release [w, ov, iv] []) := by
  cases y <;> first | rfl | (simp [notSlice] at h)
theorem ss_setIx (i : Nat) (kx e : E) : SS L cf xa xn N own (.setIx i kx e) := fun W X sc st C k => by
  unfold chkS at k
  split at k
  · rename_i x px y py val pos
    simp only [Bool.and_eq_true, decide_eq_true_eq] at k
    obtain ⟨⟨⟨⟨⟨⟨k1, k2⟩, k3⟩, k4⟩, k5⟩, k6⟩, k7⟩ := k
    obtain ⟨v, o⟩ := vis_of k2 C.scp
    obtain ⟨d1, d2, _⟩ := nm1 o
    have sw : swapsWithSole [.Subscript (.Name x px) y py] val pos.line X.env = pure false := by
      unfold swapsWithSole
      exact swap_of k7 _ _ _
    refine ps_imp (ps_asg ((x_all e).e.v k6 C.toCtxOk k5) (pg_sub (pe_var (by rw [C.nN]; exact k1) v d1 d2) ((x_all kx).e.b C.toCtxOk k3) set_list (fun w => assign_sub k4)) sw) fun E σ H ⟨H0, M, ρ, mm, R, g⟩ => ?_
    obtain ⟨xs, ex, g⟩ := g.o
    obtain ⟨a, vs, hs, ha, rr, w, hz⟩ := R.r.own ex
    refine ⟨H0, _, ρ, R.r, (g.withE R).mono fun d g v H1 e1 r => ⟨_, hs, H0, _, ρ, (R.ex e1).r, ?_⟩⟩
    refine ((g.withE R).ex e1).mono fun kd g v2 H2 e2 r2 => ?_
    obtain ⟨ys, ey, g⟩ := g.o
    cases kd <;> simp only [setL, reduceCtorEq] at ey
    rename_i j
    cases q : ixN xs.length j with
    | none => rw [q] at ey; cases ey
    | some n =>
      rw [q] at ey
      cases ey
      obtain rfl := r2.int_inv
      have h2 := e2 _ _ (e1 _ _ ha)
      refine ⟨a, vs, j, n, rfl, rfl, h2, by rw [rr.length]; exact q, ?_⟩
      have r' : Rep X.K H2 v d := Rep.mono (.of e2) r
      obtain ⟨R2, P2⟩ := ((R.ex e1).ex e2).write ex hs h2 (Reps.set r' n (rr.mono (.of (e1.trans e2)))) (by rw [List.length_set]; exact hz)
      exact g σ _ R2 ((Pers.of (e1.trans e2)).trans P2)
  · cases k
theorem ss_ife (c : E) {a b : B} (ha : SB L cf xa xn N own a) (hb : SB L cf xa xn N own b) : SS L cf xa xn N own (.ife c a b) := fun W X sc st C k => by
  unfold chkS at k
  split at k
  · simp only [Bool.and_eq_true] at k
    obtain ⟨⟨⟨k1, k2⟩, k3⟩, k4⟩ := k
    refine ps_imp (ps_if ((x_all c).t W X sc _ C.toCtxOk k1 k2) (ha W X sc _ C k3) (hb W X sc _ C k4)) fun E σ H ⟨H0, M, ρ, mm, R, g⟩ => ⟨H0, _, ρ, R.r, ?_⟩
    have g : Gd W σ H (evE cf L.gl c ρ) fun x => GS own X.K W H0 M H E ((ofO (truth x)) >>= fun k => if k then evB cf L.gl a ρ else evB cf L.gl b ρ) := GS.withE R g
    show Gd W σ H (evE cf L.gl c ρ >>= fun x => ofO (truth x)) _
    cases q : evE cf L.gl c ρ with
    | ok d =>
      rw [q] at g
      obtain ⟨k, ek, g⟩ := GS.o g
      simp only [res_bind_ok, ek]
      show ∀ H', Ex H H' → _
      intro H' e
      cases k with
      | true => exact ⟨H0, M, ρ, mm, R.ex e, GS.pers (.of e) g⟩
      | false => exact ⟨H0, M, ρ, mm, R.ex e, GS.pers (.of e) g⟩
    | exc c => rw [q] at g; exact g
    | fail => rw [q] at g; exact g
  · cases k
theorem ss_ret (e : E) : SS L cf xa xn N own (.ret e) := fun W X sc st C k => by
  unfold chkS at k
  split at k
  · simp only [Bool.and_eq_true, decide_eq_true_eq] at k
    obtain ⟨⟨rfl, k2⟩, k3⟩ := k
    refine ps_imp (ps_ret ((x_all e).e.v k3 C.toCtxOk k2)) fun E σ H ⟨H0, M, ρ, mm, R, g⟩ => ⟨H0, _, ρ, R.r, (g.withE R).mono fun d g v H1 e1 r => ?_⟩
    exact g v H1 (R.tr e1) (.of e1) r
  · cases k
theorem ss_retF (e : E) : SS L cf xa xn N own (.retF e) := fun W X sc st C k => by
  unfold chkS at k
  split at k
  · simp only [Bool.and_eq_true, decide_eq_true_eq] at k
    obtain ⟨⟨k2, k3⟩, k4⟩ := k
    have hk : kd L e = .C := by
      unfold isC at k3
      split at k3
      · assumption
      · cases k3
    have pe := (x_all (cf := cf) (xa := xa) e).e W X sc _ C.toCtxOk k2
    rw [hk] at pe
    cases own with
    | prt => cases k4
    | chg l => cases k4
    | own =>
      refine ps_imp (ps_ret pe) fun E σ H ⟨H0, M, ρ, mm, R, g⟩ => ⟨H0, _, ρ, R.r, (g.withE R).mono fun d g v H1 e1 r => ?_⟩
      exact g v H1 (R.tr e1) (.of e1) (FRep.back (R.ex0 mm) r)
    | no =>
      refine ps_imp (ps_ret (pe_val pe)) fun E σ H ⟨H0, M, ρ, mm, R, g⟩ => ⟨H0, _, ρ, R.r, (g.withE R).mono fun d g v H1 e1 r => ?_⟩
      exact g v H1 (R.tr e1) (.of e1) r
  · cases k
theorem ss_retOwn (i : Nat) : SS L cf xa xn N own (.retOwn i) := fun W X sc st C k => by
  unfold chkS at k
  split at k
  · simp only [Bool.and_eq_true, decide_eq_true_eq] at k
    obtain ⟨⟨k1, k2⟩, k4⟩ := k
    obtain ⟨v, o⟩ := vis_of k2 C.scp
    obtain ⟨d1, d2, _⟩ := nm1 o
    refine ps_imp (ps_ret (pe_lk (pe_var (by rw [C.nN]; exact k1) v d1 d2))) fun E σ H ⟨H0, M, ρ, mm, R, g⟩ => ?_
    obtain ⟨xs, ex, g⟩ := g.o
    obtain ⟨a, vs, hs, ha, rr, w, hz⟩ := R.r.own ex
    cases own with
    | prt => cases k4
    | chg l => cases k4
    | own =>
      have mm : M = [] := mm
      subst mm
      have n0 : H0 a = none := w.elim id fun w => by cases w
      exact ⟨_, hs, .inr (g _ H R.exw (Pers.refl H) ⟨a, vs, rfl, n0, ha, rr, hz⟩)⟩
    | no =>
      have mm : M = [] := mm
      subst mm
      have n0 : H0 a = none := w.elim id fun w => by cases w
      have P2 : ∀ o, Pers H (upd H a (.frz o (.lst vs))) := fun o => (Pers.refl H).mut ha
      exact ⟨_, hs, .inl ⟨a, vs, rfl, ha, fun o => g _ _ (.of (Evl.Ex.mut (R.ex0 rfl) n0)) (P2 o) (.lst upd_same (rr.mono (P2 o)) hz)⟩⟩
  · cases k
/-- stored one behind the other -/
def tNames : List Nat → TGs
  | [] => gNil
  | i :: is => gCons (gName i) (tNames is)
theorem tNames_of : ∀ {is : List Nat} {vs : List V} {σ : L2.St} {H : Hp} {Q : L2.St → Hp → Prop}, vs.length = is.length → Q (setSs is vs σ) H → tNames is vs σ H Q
  | [], vs, σ, H, Q, hl, q => by
    have : vs = [] := List.length_eq_zero_iff.mp hl
    subst this
    exact ⟨rfl, q⟩
  | i :: is, v :: vs, σ, H, Q, hl, q => ⟨v, vs, rfl, tNames_of (is := is) (by simpa using hl) q⟩
theorem pgs_names (C : SCtx L cf xa xn N W X sc) : ∀ {is : List Nat} {es : List Expr}, chkTg N own sc is es = true → PGs X es (tNames is) ∧ (assignEach es X.env).length = is.length ∧ (assignEach es X.env).findIdx? (·.1) = none ∧ ∀ i ∈ is, okSl own i = true
  | [], es, k => by
    unfold chkTg at k
    rw [List.isEmpty_iff] at k
    subst k
    exact ⟨pgs_nil, rfl, rfl, fun i h => by cases h⟩
  | i :: is, e :: es, k => by
    unfold chkTg at k
    rw [Bool.and_eq_true] at k
    obtain ⟨k1, k2⟩ := k
    split at k1
    · simp only [Bool.and_eq_true, decide_eq_true_eq] at k1
      obtain ⟨h1, h2, h3, h4⟩ := pgs_names C k2
      refine ⟨pgs_cons (pg_name C.nd (by rw [C.nN]; exact k1.1) (loc_of (locM_of k1.2).1 C.scp) (.inl (C.fn _))) h1 rfl, ?_, ?_, ?_⟩
      · exact congrArg Nat.succ h2
      · show List.findIdx? (·.1) ((false, _) :: assignEach es X.env) = none
        rw [List.findIdx?_cons]
        simp only [Bool.false_eq_true, if_false, h3]
        rfl
      · intro j hj
        rcases List.mem_cons.mp hj with rfl | hj
        · exact (locM_of k1.2).2
        · exact h4 j hj
    · cases k1
theorem ss_unpack (is : List Nat) (e : E) : SS L cf xa xn N own (.unpack is e) := fun W X sc st C k => by
  unfold chkS at k
  split at k
  · rename_i es _ _ v pos
    simp only [Bool.and_eq_true] at k
    obtain ⟨⟨⟨k1, k2⟩, k3⟩, k4⟩ := k
    obtain ⟨h1, h2, h3, hsl⟩ := pgs_names C k1
    cases v <;> first | (simp [isCall] at k2; done) | skip
    refine ps_imp (ps_asg ((x_all e).e.v k4 C.toCtxOk k3) (pg_tup C.calm h1 h2 h3)) fun E σ H ⟨H0, M, ρ, mm, R, g⟩ => ⟨H0, _, ρ, R.r, (g.withE R).mono fun d g v H1 e1 r => ?_⟩
    obtain ⟨ds, ed, g2⟩ := g.o
    cases d <;> simp only [tupN, reduceCtorEq] at ed
    split at ed <;> cases ed
    rename_i hl
    obtain ⟨a, vs, rfl, h4, rr⟩ := RepB.tup_inv (.inl r)
    exact ⟨a, vs, rfl, h4, rr.length.trans hl, tNames_of (rr.length.trans hl) (g2 _ H1 ((R.ex e1).setVs (fun i hi => sl_of (hsl i hi) mm) rr) (.of e1))⟩
  · cases k
theorem popL_some {xs ys : List D} {d : D} (h : popL xs = some (ys, d)) : ys = xs.dropLast ∧ xs[xs.length - 1]? = some d := by
  unfold popL at h
  cases q : xs[xs.length - 1]? with
  | none => rw [q] at h; cases h
  | some x => rw [q] at h; cases h; exact ⟨rfl, rfl⟩
theorem reps_init {K : PySem.W.Frag} {H : Hp} {vs : List V} {ds : List D} (r : Reps K H vs ds) : Reps K H vs.dropLast ds.dropLast := by
  rw [List.dropLast_eq_take, List.dropLast_eq_take, r.length]
  exact r.take _
theorem ss_pop (x i : Nat) : SS L cf xa xn N own (.pop x i) := fun W X sc st C k => by
  unfold chkS at k
  split at k
  · simp only [Bool.and_eq_true, decide_eq_true_eq] at k
    obtain ⟨⟨⟨⟨⟨k1, k2⟩, k3⟩, k4⟩, rfl⟩, k6⟩ := k
    obtain ⟨v, o⟩ := vis_of k4 C.scp
    obtain ⟨d1, d2, _⟩ := nm1 o
    refine ps_imp (ps_set C.nd (by rw [C.nN]; exact k1) (loc_of (locM_of k2).1 C.scp) (pe_bm0 PySem.F.plainAttrs_list PySem.F.slot_list_pop PySem.F.type_list_pop mt_pop (pe_var (by rw [C.nN]; exact k3) v d1 d2) rfl k6) rfl (.inl (C.fn _))) fun E σ H ⟨H0, M, ρ, mm, R, g⟩ => ?_
    obtain ⟨xs, ex, g⟩ := g.o
    obtain ⟨⟨ys, d⟩, ep, g⟩ := g.o
    obtain ⟨rfl, hd⟩ := popL_some ep
    obtain ⟨a, vs, hs, ha, rr, w, hz⟩ := R.r.own ex
    obtain ⟨y, hy, ry⟩ := rr.get hd
    obtain ⟨R2, P2⟩ := R.write ex hs ha (reps_init rr) (by rw [List.length_dropLast]; omega)
    refine ⟨_, hs, .inl ⟨rfl, _, .inl (.inl ha)⟩, a, vs, y, rfl, rfl, ha, by rw [rr.length]; exact hy, ?_⟩
    exact g _ _ (R2.set (sl_of (locM_of k2).2 mm) (ry.mono P2)) P2
  · cases k
theorem ss_popU (is : List Nat) (i : Nat) : SS L cf xa xn N own (.popU is i) := fun W X sc st C k => by
  unfold chkS at k
  split at k
  · simp only [Bool.and_eq_true, decide_eq_true_eq] at k
    obtain ⟨⟨⟨⟨k1, k3⟩, k4⟩, rfl⟩, k6⟩ := k
    obtain ⟨v, o⟩ := vis_of k4 C.scp
    obtain ⟨d1, d2, _⟩ := nm1 o
    obtain ⟨h1, h2, h3, hsl⟩ := pgs_names C k1
    refine ps_imp (ps_asg (pe_bm0 PySem.F.plainAttrs_list PySem.F.slot_list_pop PySem.F.type_list_pop mt_pop (pe_var (by rw [C.nN]; exact k3) v d1 d2) rfl k6) (pg_tup C.calm h1 h2 h3)) fun E σ H ⟨H0, M, ρ, mm, R, g⟩ => ?_
    obtain ⟨xs, ex, g⟩ := g.o
    obtain ⟨⟨ys, d⟩, ep, g⟩ := g.o
    obtain ⟨ds, ed, g2⟩ := g.o
    obtain ⟨rfl, hd⟩ := popL_some ep
    obtain ⟨a, vs, hs, ha, rr, w, hz⟩ := R.r.own ex
    obtain ⟨y, hy, ry⟩ := rr.get hd
    obtain ⟨R2, P2⟩ := R.write ex hs ha (reps_init rr) (by rw [List.length_dropLast]; omega)
    refine ⟨_, hs, .inl ⟨rfl, _, .inl (.inl ha)⟩, a, vs, y, rfl, rfl, ha, by rw [rr.length]; exact hy, ?_⟩
    cases d <;> simp only [tupN, reduceCtorEq] at ed
    split at ed <;> cases ed
    rename_i hl
    obtain ⟨b, ws, rfl, h4, rw'⟩ := RepB.tup_inv (.inl (ry.mono P2))
    exact ⟨b, ws, rfl, h4, rw'.length.trans hl, tNames_of (rw'.length.trans hl) (g2 _ _ (R2.setVs (fun i hi => sl_of (hsl i hi) mm) rw') P2)⟩
  · cases k
theorem ss_retP (i : Nat) (es : Es) : SS L cf xa xn N own (.retP i es) := fun W X sc st C k => by
  unfold chkS at k
  split at k
  · rename_i x p xs pos pos2
    simp only [Bool.and_eq_true, decide_eq_true_eq] at k
    obtain ⟨⟨⟨⟨rfl, k1⟩, k2⟩, k3⟩, k4⟩ := k
    obtain ⟨v, o⟩ := vis_of k2 C.scp
    obtain ⟨d1, d2, _⟩ := nm1 o
    obtain ⟨hp, _⟩ := (es_all (cf := cf) (xa := xa) es).1 W X sc _ xs C.toCtxOk k3
    refine ps_imp (ps_ret (pe_lst (pa_cons (pe_var (by rw [C.nN]; exact k1) v d1 d2) hp rfl))) fun E σ H ⟨H0, M, ρ, mm, R, g⟩ => ?_
    obtain ⟨ys, ex, g⟩ := g.o
    obtain ⟨p, vs, hs, hh, rr, w, hz⟩ := R.r.own ex
    have mm : M = [] := mm
    subst mm
    have n0 : H0 p = none := w.elim id fun w => by cases w
    have ex0 := R.ex0 rfl
    refine ⟨_, hs, H0, _, ρ, R.r, (g.withE R).mono fun ds g ws H1 e1 rs => ?_⟩
    have hl := rs.len.1
    have hl2 := rs.len.2
    rw [List.length_map] at hl hl2
    have lv : sizeLine = line := rfl
    refine ⟨by rw [List.length_cons, hl]; omega, fun a ha => ?_⟩
    have h1 := e1 _ _ hh
    have ne : p ≠ a := fun z => by rw [z, ha] at h1; cases h1
    have e2 : Ex H (upd H1 a (.lst (.ref p :: ws))) := e1.trans (Ex.new ha)
    exact g _ _ (.of (ex0.trans e2)) (.of e2) ⟨a, p, vs, ws, rfl, ne, Evl.fresh_back (ex0.trans e1) ha, upd_same, n0, by rw [upd_ne ne]; exact h1, rr.mono (.of e2), hz, rs.reps.mono (.of (Ex.new ha)), by rw [hl2]; exact k4⟩
  · cases k
theorem ss_raise (c : Nat) : SS L cf xa xn N own (.raise c) := fun W X sc st C k => by
  unfold chkS at k
  split at k
  · simp only [Bool.and_eq_true, decide_eq_true_eq] at k
    obtain ⟨gl, o⟩ := glo_of k.2 C.scp
    have x := C.xc _ _ k.1
    refine ps_imp (ps_raise C.calm C.tk (pmk_own PySem.F.excBase_ValueError x.ex x.g x.kp (raises_own x.sb x.ty) gl (nm1 o).1)) fun E σ H ⟨H0, M, ρ, mm, R, g⟩ => ?_
    exact ⟨c, rfl, rfl, g σ H R (Pers.refl H)⟩
  · cases k
theorem SCtx.tr (C : SCtx L cf xa xn N W X sc) {W2 : WN} {pn : List (Addr × Obj)} {xe : Value → Shared → Prop} (tk : Takes (X.tr pn xe) (WW xa W2)) (ps : PassesOwn (model X.prog X.w) X.A X.env xe) : SCtx L cf xa xn N W2 (X.tr pn xe) sc :=
  { calm := C.calm, nN := C.nN, nd := C.nd, scp := C.scp, room := C.room, fns := fun f fd h => C.fns f fd h, free := C.free, glb := C.glb, tk := tk, pass := ps, fn := C.fn,
    xc := fun c x h => ⟨(C.xc c x h).g, (C.xc c x h).ex, (C.xc c x h).kp, (C.xc c x h).sb, (C.xc c x h).ty⟩, ems := C.ems, hs := C.hs, hf := C.hf }
theorem ss_hd (C : SCtx L cf xa xn N W X sc) (h : Hd) {h₀ : Stmt} (k : chkH L N own sc h h₀ = true) (a : Addr) (pn : List (Addr × Obj)) : PSs (X.suite a pn) [h₀] (rdS own X.K W fun ρ => .ok (evH h ρ)) := by
  cases h with
  | set i d =>
    simp only [chkH] at k
    split at k
    · simp only [Bool.and_eq_true, decide_eq_true_eq] at k
      obtain ⟨⟨⟨k1, k2⟩, k3⟩, k5⟩ := k
      refine pss_imp (pss_one (ps_set (X := X.suite a pn) C.nd (by show X.N[_]? = _; rw [C.nN]; exact k1) (loc_of (locM_of k2).1 (show (X.suite a pn).env.scope = sc from C.scp)) (pe_lit (K := X.K) (W := W) (r := fun _ => .fail) d k3) (swap_of k5 _ _ _) (.inl (C.fn _)))) fun E σ H ⟨H0, M, ρ, mm, R, g⟩ => ?_
      exact fun v H1 e1 r => (show ∀ σ' H', RE X.K H0 M H' σ' (setV ρ i d) → Pers H H' → E.nx σ' H' from g) _ H1 ((R.ex e1).set (sl_of (locM_of k2).2 mm) r) (.of e1)
    · cases k
  | ret d =>
    simp only [chkH] at k
    split at k
    · simp only [Bool.and_eq_true, decide_eq_true_eq] at k
      obtain ⟨rfl, k3⟩ := k
      refine pss_imp (pss_one (ps_ret (X := X.suite a pn) (pe_lit (K := X.K) (W := W) (r := fun _ => .fail) d k3))) fun E σ H ⟨H0, M, ρ, mm, R, g⟩ => ?_
      exact fun v H1 e1 r => (show ∀ v H', ExW (M.map (·.2)) H0 H' → Pers H H' → RetR .no X.K M H0 H' v d → E.rt v H' from g) v H1 (R.tr e1) (.of e1) r
    · cases k
  | pass =>
    simp only [chkH] at k
    split at k
    · exact pss_imp (pss_one ps_pass) fun E σ H ⟨H0, M, ρ, mm, R, g⟩ => (show ∀ σ' H', RE X.K H0 M H' σ' ρ → Pers H H' → E.nx σ' H' from g) σ H R (Pers.refl H)
    · cases k
theorem ss_try {b : B} (yes no : List Nat) (c : Nat) (h : Hd) (hb : SB L cf xa xn N own b) : SS L cf xa xn N own (.try_ b yes no c h) := fun W X sc st C k => by
  unfold chkS at k
  split at k
  · rename_i body x np h₀ pos' pos
    simp only [Bool.and_eq_true, decide_eq_true_eq, List.all_eq_true] at k
    obtain ⟨⟨⟨⟨⟨k1, k2⟩, k3⟩, k4⟩, k5⟩, k6⟩ := k
    obtain ⟨gl, o⟩ := glo_of k2 C.scp
    have x0 := C.xc _ _ k1
    refine ps_imp (ps_try_only (c := .ref (xa c)) (Wout := WW xa W) (tb := fun W' D σ H => ∃ W2 : WN, (∀ y σ H, W2 y σ H → W' (.ref (xa y)) none σ H) ∧ rdS own X.K W2 (evB cf L.gl b) D σ H) (ts := fun _ _ _ => rdS own X.K W fun ρ => .ok (evH h ρ))
      C.hs C.hf ⟨gl, (nm1 o).1, .inl x0.g⟩ C.tk (fun W' pn xe tk ps => ⟨fun pins s σ H D I ⟨W2, hW, q⟩ => ?_⟩) (fun a oe cls d pn _ _ => ss_hd C h k6 a _)) fun D σ H ⟨H0, M, ρ, mm, R, g⟩ => ?_
    · refine (hb W2 (X.tr pn xe) sc body (C.tr (tk.imp fun cl d σ H hw => ?_) ps) k5).run pins s σ H D I q
      obtain ⟨y, rfl, rfl, hw⟩ := hw
      exact hW y σ H hw
    · refine ⟨fun y σ' H' => ∃ bb, PySem.W.exmOne X.K (.ref (xa y)) (.ref (xa c)) = some bb ∧ (bb = true → rdS own X.K W (fun ρ => .ok (evH h ρ)) D σ' H') ∧ (bb = false → W y σ' H'), fun y σ' H' ⟨bb, e, h1, h2⟩ => ⟨bb, e, fun z a _ => h1 z, fun z => ⟨y, rfl, rfl, h2 z⟩⟩, H0, M, ρ, mm, R, ?_⟩
      have g : GS own X.K W H0 M H D (evB cf L.gl b ρ >>= fun fl => match fl with
        | .exc x ρ' => if yes.contains x then .ok (evH h ρ') else if no.contains x then .ok (.exc x ρ') else .fail
        | f => .ok f) := g
      cases q : evB cf L.gl b ρ with
      | exc c => rw [q] at g; exact g
      | fail => rw [q] at g; exact g
      | ok fl =>
        rw [q] at g
        cases fl with
        | nx ρ2 => exact g
        | cont ρ2 => exact g
        | brk ρ2 => exact g
        | ret d => exact g
        | exc y ρ2 =>
          have g : GS own X.K W H0 M H D (if yes.contains y then .ok (evH h ρ2) else if no.contains y then .ok (.exc y ρ2) else .fail) := g
          intro σ' H' R' p
          by_cases hy : yes.contains y = true
          · rw [if_pos hy] at g
            have e := C.ems y c true (k3 y (by simpa using hy))
            exact ⟨true, e, fun _ => ⟨H0, M, ρ2, mm, R', g.pers p⟩, fun z => by cases z⟩
          · rw [if_neg hy] at g
            by_cases hn : no.contains y = true
            · rw [if_pos hn] at g
              have e := C.ems y c false (k4 y (by simpa using hn))
              exact ⟨false, e, (fun z => by cases z), fun _ => (show ∀ σ' H', RE X.K H0 M H' σ' ρ2 → Pers H H' → W y σ' H' from g) σ' H' R' p⟩
            · rw [if_neg hn] at g
              exact (show False from g).elim
  · cases k
/-! ### lists that are the caller's -/
theorem fins_of {K : PySem.W.Frag} {H0 H : Hp} {M : Mp} {σ : L2.St} {ρ : Env} (R : RE K H0 M H σ ρ) : ∀ (N : Mp) (fs : List D), (∀ p ∈ N, p ∈ M) → collect (N.map (·.1)) ρ = some fs → Fins K H (N.map (·.2)) fs
  | [], fs, _, h => by
    cases h
    exact .nil
  | p :: N, fs, hs, h => by
    simp only [List.map_cons, collect] at h
    cases q : getOwn ρ p.1 with
    | none => rw [q] at h; cases h
    | some xs =>
      rw [q, Option.bind_some] at h
      cases q2 : collect (N.map (·.1)) ρ with
      | none => rw [q2] at h; cases h
      | some gs =>
        rw [q2] at h
        cases h
        obtain ⟨a, vs, e, ha, rr, _, hz⟩ := R.r.own q
        have e2 := R.mp p (hs p (List.mem_cons_self ..))
        rw [e] at e2
        cases e2
        exact .cons ha rr hz (fins_of R N gs (fun x hx => hs x (List.mem_cons_of_mem _ hx)) q2)
theorem hand_of {K : PySem.W.Frag} {H0 H : Hp} {M : Mp} {σ : L2.St} {ρ : Env} {l : List Nat} {d r : D} {v : V} (R : RE K H0 M H σ ρ) (m : MFst (.chg l) M) (h : handM l d ρ = some r) (hv : Rep K H v d) : RetR (.chg l) K M H0 H v r := by
  have m : M.map (·.1) = l := m
  unfold handM at h
  rw [← m] at h
  cases q : collect (M.map (·.1)) ρ with
  | none => rw [q] at h; cases h
  | some fs =>
    rw [q] at h
    cases h
    exact ⟨hv, fins_of R M fs (fun _ h => h) q⟩
theorem ss_retM (l : List Nat) (e : E) : SS L cf xa xn N own (.retM l e) := fun W X sc st C k => by
  unfold chkS at k
  split at k
  · simp only [Bool.and_eq_true, decide_eq_true_eq] at k
    obtain ⟨⟨rfl, k2⟩, k3⟩ := k
    refine ps_imp (ps_ret ((x_all e).e.v k3 C.toCtxOk k2)) fun E σ H ⟨H0, M, ρ, mm, R, g⟩ => ⟨H0, _, ρ, R.r, (g.withE R).mono fun d g v H1 e1 r => ?_⟩
    obtain ⟨x, ex, g⟩ := GS.o g
    exact g v H1 (R.tr e1) (.of e1) (hand_of (R.ex e1) mm ex r)
  · cases k
theorem ss_retMN (l : List Nat) : SS L cf xa xn N own (.retMN l) := fun W X sc st C k => by
  unfold chkS at k
  split at k
  · have k := of_decide_eq_true k
    subst k
    refine ps_imp ps_retN fun E σ H ⟨H0, M, ρ, mm, R, g⟩ => ?_
    obtain ⟨x, ex, g⟩ := GS.o g
    exact g _ H R.exw (Pers.refl H) (hand_of R mm ex .non)
  · cases k
end
end Ev

/-! Loops, blocks; all statements are sound; defs. -/
namespace Ev
open PySem PySem.Spec
open PyProof.Rows hiding St
open L2
open Evl (Ex)
section
variable {L : Lw} {cf : Nat → List D → Res D} {xa : Nat → Addr} {xn : Nat → Option Str} {N : List Str} {W : WN} {X : Cx} {sc : Scope} {own : Ow}
theorem ss_for (i : Nat) (it : It) {b : B} (hb : SB L cf xa xn N own b) : SS L cf xa xn N own (.for_ i it b) := fun W X sc st C k => by
  unfold chkS at k
  split at k
  · rename_i x px iter xs pos
    simp only [Bool.and_eq_true, decide_eq_true_eq] at k
    obtain ⟨⟨⟨k1, k2⟩, k3⟩, k4⟩ := k
    obtain ⟨pi, ns⟩ := it_all (cf := cf) (xa := xa) it W X sc (.Name x px) iter C.toCtxOk k3
    refine ps_imp (ps_for C.pass C.calm pi (pg_name (i := i) C.nd (by rw [C.nN]; exact k1) (loc_of (locM_of k2).1 C.scp) (.inl (C.fn _))) (hb W X sc xs C k4) (set_of ns _)) fun E σ H ⟨H0, M, ρ, mm, R, g⟩ => ?_
    refine ⟨H0, _, ρ, R.r, (g.withE R).mono fun ds g J H1 e1 wk => ?_⟩
    refine ⟨fun n m σ' H' => m = ds.length - n ∧ n ≤ ds.length ∧ Pers H1 H' ∧ ∃ ρ', RE X.K H0 M H' σ' ρ' ∧ GS own X.K W H0 M H' E (forL i (fun ρ => evB cf L.gl b ρ) (ds.drop n) ρ'),
      ⟨ds.length, by simp, Nat.zero_le _, Pers.refl _, ρ, R.ex e1, by rw [List.drop_zero]; exact g.pers (.of e1)⟩, ?_⟩
    rintro n m σ' H' ⟨rfl, hn, p, ρ', R', g⟩
    by_cases hlt : n < ds.length
    · have hd : ds[n]? = some ds[n] := by simp [hlt]
      obtain ⟨go, yl⟩ := wk.go H' p n _ hd
      rw [List.drop_eq_getElem_cons hlt] at g
      refine .inr ⟨go, fun σ2 H2 => ∃ m', m' < ds.length - n ∧ (m' = ds.length - (n + 1) ∧ n + 1 ≤ ds.length ∧ Pers H1 H2 ∧ ∃ ρ2, RE X.K H0 M H2 σ2 ρ2 ∧ GS own X.K W H0 M H2 E (forL i (fun ρ => evB cf L.gl b ρ) (ds.drop (n + 1)) ρ2)), fun _ _ h => h, fun xv H2 hy => ?_⟩
      obtain ⟨rfl, rx⟩ := yl xv H2 hy
      refine ⟨H0, M, _, mm, R'.set (sl_of (locM_of k2).2 mm) rx, ?_⟩
      have g : GS own X.K W H0 M H2 E (evB cf L.gl b (setV ρ' i ds[n]) >>= fun fl => match fl with
        | .nx ρ' => forL i (fun ρ => evB cf L.gl b ρ) (ds.drop (n + 1)) ρ'
        | .cont ρ' => forL i (fun ρ => evB cf L.gl b ρ) (ds.drop (n + 1)) ρ'
        | .brk ρ' => .ok (.nx ρ')
        | .ret d => .ok (.ret d)
        | .exc c ρ' => .ok (.exc c ρ')) := g
      have nxt : ∀ ρ2, GS own X.K W H0 M H2 E (forL i (fun ρ => evB cf L.gl b ρ) (ds.drop (n + 1)) ρ2) → ∀ σ3 H3, RE X.K H0 M H3 σ3 ρ2 → Pers H2 H3 →
          ∃ m', m' < ds.length - n ∧ (m' = ds.length - (n + 1) ∧ n + 1 ≤ ds.length ∧ Pers H1 H3 ∧ ∃ ρ2, RE X.K H0 M H3 σ3 ρ2 ∧ GS own X.K W H0 M H3 E (forL i (fun ρ => evB cf L.gl b ρ) (ds.drop (n + 1)) ρ2)) :=
        fun ρ2 g σ3 H3 R3 p3 => ⟨_, by omega, rfl, hlt, p.trans p3, ρ2, R3, g.pers p3⟩
      cases q : evB cf L.gl b (setV ρ' i ds[n]) with
      | exc c => rw [q] at g; exact g
      | fail => rw [q] at g; exact g
      | ok fl =>
        rw [q] at g
        cases fl with
        | nx ρ2 => exact nxt ρ2 g
        | cont ρ2 => exact nxt ρ2 g
        | brk ρ2 => exact g
        | ret d => exact g
        | exc c ρ2 => exact g
    · have en : n = ds.length := by omega
      subst en
      rw [List.drop_length] at g
      exact .inl ⟨wk.stop H' p, (show ∀ σ2 H2, RE X.K H0 M H2 σ2 ρ' → Pers H' H2 → E.nx σ2 H2 from g) σ' H' R' (Pers.refl _)⟩
  · cases k
theorem ss_whil (c : E) {b : B} (hb : SB L cf xa xn N own b) : SS L cf xa xn N own (.whil c b) := fun W X sc st C k => by
  unfold chkS at k
  split at k
  · rename_i t xs pos
    simp only [Bool.and_eq_true] at k
    obtain ⟨⟨k1, k2⟩, k3⟩ := k
    refine ps_imp (ps_while C.pass ((x_all c).t W X sc t C.toCtxOk k1 k2) (hb W X sc xs C k3)) fun E σ H ⟨H0, M, ρ, mm, R, g⟩ => ?_
    refine ⟨fun m σ' H' => ∃ ρ', RE X.K H0 M H' σ' ρ' ∧ GS own X.K W H0 M H' E (whileL (fun ρ => evE cf L.gl c ρ) (fun ρ => evB cf L.gl b ρ) m ρ'), ⟨turns, ρ, R, g⟩, ?_⟩
    rintro m σ' H' ⟨ρ', R', g⟩
    cases m with
    | zero => exact (show False from g).elim
    | succ m =>
      refine ⟨H0, _, ρ', R'.r, ?_⟩
      show Gd W σ' H' (evE cf L.gl c ρ' >>= fun x => ofO (truth x)) _
      unfold whileL at g
      cases q : evE cf L.gl c ρ' with
      | exc c => rw [q] at g; exact fun H2 e => g σ' H2 (R'.ex e) (.of e)
      | fail => rw [q] at g; exact g
      | ok d =>
        rw [q] at g
        obtain ⟨k, ek, g⟩ := GS.o g
        simp only [res_bind_ok, ek]
        show ∀ H2, Ex H' H2 → _
        intro H2 e
        have R2 := R'.ex e
        cases k with
        | false =>
          rw [if_neg Bool.false_ne_true]
          exact (show ∀ σ3 H3, RE X.K H0 M H3 σ3 ρ' → Pers H' H3 → E.nx σ3 H3 from g) σ' H2 R2 (.of e)
        | true =>
          rw [if_pos rfl]
          have g : GS own X.K W H0 M H2 E (evB cf L.gl b ρ' >>= fun fl => match fl with
            | .nx ρ' => whileL (fun ρ => evE cf L.gl c ρ) (fun ρ => evB cf L.gl b ρ) m ρ'
            | .cont ρ' => whileL (fun ρ => evE cf L.gl c ρ) (fun ρ => evB cf L.gl b ρ) m ρ'
            | .brk ρ' => .ok (.nx ρ')
            | .ret d => .ok (.ret d)
            | .exc c ρ' => .ok (.exc c ρ')) := g.pers (.of e)
          refine ⟨fun σ3 H3 => ∃ m', m' < m + 1 ∧ ∃ ρ2, RE X.K H0 M H3 σ3 ρ2 ∧ GS own X.K W H0 M H3 E (whileL (fun ρ => evE cf L.gl c ρ) (fun ρ => evB cf L.gl b ρ) m' ρ2), fun _ _ h => h, H0, M, ρ', mm, R2, ?_⟩
          have nxt : ∀ ρ2, GS own X.K W H0 M H2 E (whileL (fun ρ => evE cf L.gl c ρ) (fun ρ => evB cf L.gl b ρ) m ρ2) → ∀ σ3 H3, RE X.K H0 M H3 σ3 ρ2 → Pers H2 H3 →
              ∃ m', m' < m + 1 ∧ ∃ ρ2, RE X.K H0 M H3 σ3 ρ2 ∧ GS own X.K W H0 M H3 E (whileL (fun ρ => evE cf L.gl c ρ) (fun ρ => evB cf L.gl b ρ) m' ρ2) :=
            fun ρ2 g σ3 H3 R3 p3 => ⟨m, Nat.lt_succ_self _, ρ2, R3, g.pers p3⟩
          cases q2 : evB cf L.gl b ρ' with
          | exc c => rw [q2] at g; exact g
          | fail => rw [q2] at g; exact g
          | ok fl =>
            rw [q2] at g
            cases fl with
            | nx ρ2 => exact nxt ρ2 g
            | cont ρ2 => exact nxt ρ2 g
            | brk ρ2 => exact g
            | ret d => exact g
            | exc c ρ2 => exact g
  · cases k
theorem sb_nil : SB L cf xa xn N own .nil := fun W X sc sts C k => by
  unfold chkB at k
  rw [List.isEmpty_iff] at k
  subst k
  exact pss_imp pss_nil fun E σ H ⟨H0, M, ρ, mm, R, g⟩ => g σ H R (Pers.refl H)
theorem sb_cons {s : S} {b : B} (hs : SS L cf xa xn N own s) (hb : SB L cf xa xn N own b) : SB L cf xa xn N own (.cons s b) := fun W X sc sts C k => by
  unfold chkB at k
  split at k
  · rw [Bool.and_eq_true] at k
    refine pss_imp (pss_cons (hs W X sc _ C k.1) (hb W X sc _ C k.2)) fun E σ H ⟨H0, M, ρ, mm, R, g⟩ => ⟨H0, M, ρ, mm, R, ?_⟩
    have g : GS own X.K W H0 M H E (evS cf L.gl s ρ >>= fun fl => match fl with
      | .nx ρ' => evB cf L.gl b ρ'
      | f => .ok f) := g
    cases q : evS cf L.gl s ρ with
    | exc c => rw [q] at g; exact g
    | fail => rw [q] at g; exact g
    | ok fl =>
      rw [q] at g
      cases fl with
      | nx ρ2 => exact fun σ3 H3 R3 p3 => ⟨H0, M, ρ2, mm, R3, g.pers p3⟩
      | cont ρ2 => exact g
      | brk ρ2 => exact g
      | ret d => exact g
      | exc c ρ2 => exact g
  · cases k
theorem sb_freeze (i : Nat) {b : B} (hb : SB L cf xa xn N own b) : SB L cf xa xn N own (.freeze i b) := fun W X sc sts C k => by
  unfold chkB at k
  rw [Bool.and_eq_true] at k
  refine ⟨fun pins s σ H E I ⟨H0, M, ρ, mm, R, g⟩ => ?_⟩
  obtain ⟨xs, ex, g⟩ := g.o
  obtain ⟨a, vs, hs, ha, rr, w, hz⟩ := R.r.own ex
  obtain ⟨od, I2⟩ := I.lock ha trivial
  obtain ⟨R2, P2⟩ := R.lock (o := od) ex hs ha rr
  exact (hb W X sc sts C k.2).run pins s σ _ E I2 ⟨H0, M, _, mm, R2, g.pers P2⟩
theorem sb_pair (i j f : Nat) (es : Es) {b : B} (hb : SB L cf xa xn N own b) : SB L cf xa xn N own (.pair i j f es b) := fun W X sc sts C k => by
  unfold chkB at k
  split at k
  · rename_i x xp g gp y ys cp ap z zp x' xp' k0 kk kp sp ap2 r
    simp only [Bool.and_eq_true, decide_eq_true_eq] at k
    obtain ⟨⟨⟨⟨⟨⟨⟨⟨⟨⟨⟨k1, k2⟩, k3⟩, rfl⟩, k5⟩, k6⟩, k7⟩, k8⟩, rfl⟩, rfl⟩, k11⟩, k12⟩ := k
    split at k6
    · rename_i fd hf
      rw [Bool.and_eq_true, decide_eq_true_eq] at k6
      obtain ⟨gl, o⟩ := glo_of k5 C.scp
      obtain ⟨vx, ox⟩ := vis_of k3 C.scp
      obtain ⟨d1, d2, _⟩ := nm1 ox
      obtain ⟨hp, hn⟩ := (es_all (cf := cf) (xa := xa) es).1 W X sc _ _ C.toCtxOk k6.1
      obtain ⟨fa, fdt, ps, kf, h1, h2, h3, h4, h5⟩ := C.fns f fd hf
      have pe1 := pe_lk (pe_callS (p := gp) (pos := cp) h5 h4 gl h1 h2 h3 (fun σ => passAt C.tk σ) hp (nm1 o).1 (star_of (hn y (List.mem_cons_self ..)) _) (plain_star fun e he => hn e (List.mem_cons_of_mem _ he)))
      have ps1 := ps_set (pos := ap) (pos' := xp) C.nd (by rw [C.nN]; exact k1) (loc_of (locM_of k2).1 C.scp) pe1 rfl (.inl (C.fn _))
      have ps2 := ps_set (pos := ap2) (pos' := zp) C.nd (by rw [C.nN]; exact k7) (loc_of (locM_of k8).1 C.scp) (pe_ix (pos := sp) ix_list (pe_var (pos := xp') (by rw [C.nN]; exact k1) vx d1 d2) (pe_int (i := 0) (j := kk) (pos := kp)) (slice_of (by rfl))) rfl (.inl (C.fn _))
      refine pss_imp (pss_cons ps1 (pss_cons ps2 (hb W X sc _ C k12))) fun E σ H ⟨H0, M, ρ, mm, R, g⟩ => ?_
      have g := GS.withE R g
      refine ⟨H0, _, ρ, R.r, g.bind.mono fun ds g vs H1 e1 rs => ⟨ds, [], rs, by rw [k6.2]; rfl, ?_⟩⟩
      cases q : cf f ds with
      | ok d =>
        rw [q] at g
        refine fun v H' e2 rr => ?_
        obtain ⟨⟨xs, d2s⟩, ep, g2⟩ := GS.o (show GS own X.K W H0 M H E (ofO (if i < ρ.length then pairOf d else none) >>= fun p => evB cf L.gl b (setPrt (setOwn ρ j p.1) i p.2)) from g)
        split at ep
        · rename_i hi
          unfold pairOf at ep
          split at ep
          · rename_i xs' ds'
            cases ep
            rw [k6.2] at rr
            have e2 : Ex H1 H' := e2.nil
            obtain ⟨a, p, vs, ws, rfl, ne, ha0, ha, hp0, hp, rx, hz, rw', hz2⟩ := rr
            refine .inl ⟨a, _, rfl, ha, fun ob => ?_⟩
            have eH : Ex H1 (upd H' a (.frz ob (.lst (.ref p :: ws)))) := Evl.Ex.mut e2 ha0
            have eH0 := e1.trans eH
            have P' : Pers H' (upd H' a (.frz ob (.lst (.ref p :: ws)))) := (Pers.refl H').mut ha
            have fr : FRep X.K H (upd H' a (.frz ob (.lst (.ref p :: ws)))) (.ref p) (.lst xs) := ⟨p, vs, rfl, Evl.fresh_back e1 hp0, by rw [upd_ne ne]; exact hp, rx.mono P', hz⟩
            have R2 := (R.setF (i := j) (sl_of (locM_of k8).2 mm) eH0 fr).setP (i := i) (sl_of (locM_of k2).2 mm) upd_same (rw'.mono P') hz2
            have hiσ : i < σ.length := by rw [R.r.len]; exact hi
            have hj : atI (V.ref p :: ws) 0 = some (.ref p) := by
              unfold atI L2.ixN
              rw [if_pos (by omega), if_pos (by rw [List.length_cons]; omega)]
              rfl
            refine ⟨.ref a, by rw [List.getElem?_set_self hiσ], a, _, 0, .ref p, rfl, rfl, .inl (.inr ⟨ob, upd_same⟩), hj, ?_⟩
            rw [List.set_comm _ _ (Ne.symm k11)] at R2
            exact ⟨H0, M, _, mm, R2, GS.pers (.of eH0) g2⟩
          · cases ep
        · cases ep
      | exc c =>
        rw [q] at g
        exact fun H' e2 => ⟨c, rfl, rfl, (show ∀ H', Ex H H' → W c σ H' from g) H' (e1.trans e2)⟩
      | fail =>
        rw [q] at g
        exact g
    · cases k6
  · cases k
/-! ### calls that change their arguments -/
/-- the arguments: at a place of mu a slot's list or a new one -/
inductive MArgs (K : PySem.W.Frag) (σ : L2.St) (ρ : Env) (H H1 : Hp) (mu : List Nat) : Nat → List (Option Nat) → List V → List D → Mp → Prop
  | nil (k : Nat) : MArgs K σ ρ H H1 mu k [] [] [] []
  | val {k : Nat} {ms : List (Option Nat)} {v : V} {d : D} {vs : List V} {ds : List D} {M : Mp} : mu.contains k = false → Rep K H1 v d → MArgs K σ ρ H H1 mu (k + 1) ms vs ds M → MArgs K σ ρ H H1 mu k ms (v :: vs) (d :: ds) M
  | slot {k i : Nat} {ms : List (Option Nat)} {a : Addr} {us : List V} {xs : List D} {vs : List V} {ds : List D} {M : Mp} : mu.contains k = true → σ[i]? = some (some (.ref a)) → getOwn ρ i = some xs → H a = some (.lst us) → H1 a = some (.lst us) → Reps K H1 us xs → xs.length ≤ line → MArgs K σ ρ H H1 mu (k + 1) ms vs ds M →
      MArgs K σ ρ H H1 mu k (some i :: ms) (.ref a :: vs) (.lst xs :: ds) ((k, a) :: M)
  | new {k : Nat} {ms : List (Option Nat)} {a : Addr} {us : List V} {xs : List D} {vs : List V} {ds : List D} {M : Mp} : mu.contains k = true → H a = none → H1 a = some (.lst us) → Reps K H1 us xs → xs.length ≤ line → MArgs K σ ρ H H1 mu (k + 1) ms vs ds M →
      MArgs K σ ρ H H1 mu k (none :: ms) (.ref a :: vs) (.lst xs :: ds) ((k, a) :: M)
section
variable {K : PySem.W.Frag} {σ : L2.St} {ρ : Env} {H H1 H2 H' : Hp} {mu : List Nat}
theorem MArgs.back (e : Ex H H1) (hs : ∀ (i : Nat) (a : Addr) (xs : List D), σ[i]? = some (some (.ref a)) → getOwn ρ i = some xs → ∃ us, H a = some (.lst us)) : ∀ {k : Nat} {ms : List (Option Nat)} {vs : List V} {ds : List D} {M : Mp}, MArgs K σ ρ H1 H2 mu k ms vs ds M → MArgs K σ ρ H H2 mu k ms vs ds M
  | _, _, _, _, _, .nil k => .nil k
  | _, _, _, _, _, .val h1 h2 r => .val h1 h2 (MArgs.back e hs r)
  | _, _, _, _, _, .slot h1 h2 h3 h4 h5 h6 h7 r => by
    obtain ⟨us, hu⟩ := hs _ _ _ h2 h3
    have := e _ _ hu
    rw [this] at h4
    cases h4
    exact .slot h1 h2 h3 hu h5 h6 h7 (MArgs.back e hs r)
  | _, _, _, _, _, .new h1 h2 h3 h4 h5 r => .new h1 (Evl.fresh_back e h2) h3 h4 h5 (MArgs.back e hs r)
theorem MArgs.args : ∀ {k : Nat} {ms : List (Option Nat)} {vs : List V} {ds : List D} {M : Mp}, MArgs K σ ρ H H1 mu k ms vs ds M → ArgsR K H1 ((List.range' k vs.length).map mu.contains) vs ds
  | _, _, _, _, _, .nil k => .nil
  | k, _, _ :: vs, _, _, .val h1 h2 r => by
    rw [List.length_cons, List.range'_succ, List.map_cons, h1]
    exact .cons h2 (MArgs.args r)
  | k, _, _ :: vs, _, _, .slot h1 h2 h3 h4 h5 h6 h7 r => by
    rw [List.length_cons, List.range'_succ, List.map_cons, h1]
    exact .cons (show RepB _ _ _ _ from .inr ⟨_, _, _, rfl, rfl, h5, h6, h7⟩) (MArgs.args r)
  | k, _, _ :: vs, _, _, .new h1 h2 h3 h4 h5 r => by
    rw [List.length_cons, List.range'_succ, List.map_cons, h1]
    exact .cons (show RepB _ _ _ _ from .inr ⟨_, _, _, rfl, rfl, h3, h4, h5⟩) (MArgs.args r)
theorem MArgs.fst : ∀ {k : Nat} {ms : List (Option Nat)} {vs : List V} {ds : List D} {M : Mp}, MArgs K σ ρ H H1 mu k ms vs ds M → M.map (·.1) = (List.range' k vs.length).filter mu.contains
  | _, _, _, _, _, .nil k => rfl
  | k, _, _ :: vs, _, _, .val h1 h2 r => by
    rw [List.length_cons, List.range'_succ, List.filter_cons_of_neg (by rw [h1]; decide)]
    exact MArgs.fst r
  | k, _, _ :: vs, _, _, .slot h1 h2 h3 h4 h5 h6 h7 r => by
    rw [List.length_cons, List.range'_succ, List.filter_cons_of_pos h1, List.map_cons, MArgs.fst r]
  | k, _, _ :: vs, _, _, .new h1 h2 h3 h4 h5 r => by
    rw [List.length_cons, List.range'_succ, List.filter_cons_of_pos h1, List.map_cons, MArgs.fst r]
theorem MArgs.at_ : ∀ {k : Nat} {ms : List (Option Nat)} {vs : List V} {ds : List D} {M : Mp}, MArgs K σ ρ H H1 mu k ms vs ds M → ∀ p ∈ M, k ≤ p.1 ∧ vs[p.1 - k]? = some (.ref p.2) ∧ ∃ us xs, H1 p.2 = some (.lst us) ∧ ds[p.1 - k]? = some (.lst xs) ∧ Reps K H1 us xs ∧ xs.length ≤ line
  | _, _, _, _, _, .nil k => fun p h => by cases h
  | k, _, _ :: vs, _, _, .val h1 h2 r => fun p h => by
    obtain ⟨a, b, us, xs, c, d, e⟩ := MArgs.at_ r p h
    have : p.1 - k = (p.1 - (k + 1)) + 1 := by omega
    exact ⟨by omega, by rw [this]; simpa using b, us, xs, c, by rw [this]; simpa using d, e⟩
  | k, _, _ :: vs, _, _, .slot h1 h2 h3 h4 h5 h6 h7 r => fun p h => by
    rcases List.mem_cons.mp h with rfl | h
    · exact ⟨Nat.le_refl _, by simp, _, _, h5, by simp, h6, h7⟩
    · obtain ⟨a, b, us, xs, c, d, e⟩ := MArgs.at_ r p h
      have : p.1 - k = (p.1 - (k + 1)) + 1 := by omega
      exact ⟨by omega, by rw [this]; simpa using b, us, xs, c, by rw [this]; simpa using d, e⟩
  | k, _, _ :: vs, _, _, .new h1 h2 h3 h4 h5 r => fun p h => by
    rcases List.mem_cons.mp h with rfl | h
    · exact ⟨Nat.le_refl _, by simp, _, _, h3, by simp, h4, h5⟩
    · obtain ⟨a, b, us, xs, c, d, e⟩ := MArgs.at_ r p h
      have : p.1 - k = (p.1 - (k + 1)) + 1 := by omega
      exact ⟨by omega, by rw [this]; simpa using b, us, xs, c, by rw [this]; simpa using d, e⟩
/-- which lists: a slot's, or a new one -/
inductive MSl (σ : L2.St) (ρ : Env) (H : Hp) : List (Option Nat) → List Addr → Prop
  | nil : MSl σ ρ H [] []
  | slot {i : Nat} {ms : List (Option Nat)} {a : Addr} {us : List V} {xs : List D} {as : List Addr} : σ[i]? = some (some (.ref a)) → getOwn ρ i = some xs → H a = some (.lst us) → MSl σ ρ H ms as → MSl σ ρ H (some i :: ms) (a :: as)
  | new {ms : List (Option Nat)} {a : Addr} {as : List Addr} : H a = none → MSl σ ρ H ms as → MSl σ ρ H (none :: ms) (a :: as)
theorem MArgs.sl : ∀ {k : Nat} {ms : List (Option Nat)} {vs : List V} {ds : List D} {M : Mp}, MArgs K σ ρ H H1 mu k ms vs ds M → MSl σ ρ H ms (M.map (·.2))
  | _, _, _, _, _, .nil k => .nil
  | _, _, _, _, _, .val h1 h2 r => MArgs.sl r
  | _, _, _, _, _, .slot h1 h2 h3 h4 h5 h6 h7 r => .slot h2 h3 h4 (MArgs.sl r)
  | _, _, _, _, _, .new h1 h2 h3 h4 h5 r => .new h2 (MArgs.sl r)
theorem MSl.mem : ∀ {ms : List (Option Nat)} {as : List Addr}, MSl σ ρ H ms as → ∀ a ∈ as, (∃ i xs us, some i ∈ ms ∧ σ[i]? = some (some (.ref a)) ∧ getOwn ρ i = some xs ∧ H a = some (.lst us)) ∨ (none ∈ ms ∧ H a = none)
  | _, _, .nil, a, h => by cases h
  | _, _, .slot h1 h2 h3 r, a, h => by
    rcases List.mem_cons.mp h with rfl | h
    · exact .inl ⟨_, _, _, List.mem_cons_self .., h1, h2, h3⟩
    · rcases MSl.mem r a h with ⟨i, xs, us, a1, a2⟩ | ⟨a1, a2⟩
      · exact .inl ⟨i, xs, us, List.mem_cons_of_mem _ a1, a2⟩
      · exact .inr ⟨List.mem_cons_of_mem _ a1, a2⟩
  | _, _, .new h1 r, a, h => by
    rcases List.mem_cons.mp h with rfl | h
    · exact .inr ⟨List.mem_cons_self .., h1⟩
    · rcases MSl.mem r a h with ⟨i, xs, us, a1, a2⟩ | ⟨a1, a2⟩
      · exact .inl ⟨i, xs, us, List.mem_cons_of_mem _ a1, a2⟩
      · exact .inr ⟨List.mem_cons_of_mem _ a1, a2⟩
theorem mem_somes {i : Nat} : ∀ {ms : List (Option Nat)}, some i ∈ ms → i ∈ somes ms
  | some j :: ms, h => by
    rcases List.mem_cons.mp h with e | h
    · cases e; exact List.mem_cons_self ..
    · exact List.mem_cons_of_mem _ (mem_somes h)
  | none :: ms, h => by
    rcases List.mem_cons.mp h with e | h
    · cases e
    · show i ∈ somes ms
      exact mem_somes h
theorem MSl.nodup {H0 : Hp} {Wr : List Addr} (R : REnv K H0 Wr H σ ρ) : ∀ {ms : List (Option Nat)} {as : List Addr}, MSl σ ρ H ms as → (somes ms).Nodup → (ms.filter Option.isNone).length ≤ 1 → as.Nodup
  | _, _, .nil, _, _ => List.nodup_nil
  | _, _, @MSl.slot _ _ _ i ms a us xs as h1 h2 h3 r, hn, hm => by
    have hn := List.nodup_cons.mp (show (i :: somes ms).Nodup from hn)
    refine List.nodup_cons.mpr ⟨fun hmem => ?_, MSl.nodup R r hn.2 hm⟩
    rcases MSl.mem r a hmem with ⟨j, ys, vs, b1, b2, b3, b4⟩ | ⟨_, b⟩
    · have : i ≠ j := fun e => hn.1 (e ▸ mem_somes b1)
      exact R.dist i j _ _ this (getOwn_some h2) (getOwn_some b3) (h1.trans b2.symm)
    · rw [h3] at b; cases b
  | _, _, @MSl.new _ _ _ ms a as h1 r, hn, hm => by
    have hm2 : (ms.filter Option.isNone).length = 0 := by
      rw [List.filter_cons_of_pos (by rfl), List.length_cons] at hm
      omega
    refine List.nodup_cons.mpr ⟨fun hmem => ?_, MSl.nodup R r hn (by omega)⟩
    rcases MSl.mem r a hmem with ⟨j, ys, vs, b1, b2, b3, b4⟩ | ⟨b, _⟩
    · rw [h1] at b4; cases b4
    · have : none ∈ ms.filter Option.isNone := List.mem_filter.mpr ⟨b, rfl⟩
      rw [List.length_eq_zero_iff.mp hm2] at this
      cases this
end
def tMs (K : PySem.W.Frag) (W : WN) (cf : Nat → List D → Res D) (gl : Nat → Option D) (mu : List Nat) (k : Nat) (es : Es) (ms : List (Option Nat)) : TA := fun σ H Q => ∃ H0 Wr ρ, REnv K H0 Wr H σ ρ ∧ (∀ i, some i ∈ ms → ∃ xs, getOwn ρ i = some xs) ∧ Gd W σ H (evEs cf gl es ρ) fun ds => ∀ vs M H', Ex H H' → MArgs K σ ρ H H' mu k ms vs ds M → Q vs H'
theorem own_any {ρ : Env} {i : Nat} {xs : List D} (h : getOwn ρ i = some xs) : getAny ρ i = some (.lst xs) := by
  unfold getAny
  rw [getOwn_some h]
theorem pa_ms (C : CtxOk L cf xa N W X sc) (mu : List Nat) : ∀ (es : Es) (k : Nat) (ms : List (Option Nat)) (xs : List Expr), chkMs L N sc mu k es ms xs = true → PA X xs (tMs X.K W cf L.gl mu k es ms) ∧ ∀ x ∈ xs, notStar x = true
  | .nil, k, ms, xs, h => by
    unfold chkMs at h
    simp only [Bool.and_eq_true, List.isEmpty_iff] at h
    obtain ⟨rfl, rfl⟩ := h
    exact ⟨pa_imp pa_nil fun σ H Q ⟨H0, Wr, ρ, R, ho, g⟩ => g [] [] H (Ex.refl H) (.nil k), fun _ h => by cases h⟩
  | .cons a as, k, ms, xs, h => by
    unfold chkMs at h
    split at h
    · rename_i e es
      rw [Bool.and_eq_true] at h
      obtain ⟨ns, h⟩ := h
      have back : ∀ {H0 Wr H H1 ρ σ}, REnv X.K H0 Wr H σ ρ → Ex H H1 → ∀ (i : Nat) (a : Addr) (xs : List D), σ[i]? = some (some (.ref a)) → getOwn ρ i = some xs → ∃ us, H a = some (.lst us) := fun R e i a xs h1 h2 => by
        obtain ⟨b, us, e1, e2, _⟩ := R.own h2
        rw [h1] at e1
        cases e1
        exact ⟨us, e2⟩
      by_cases hk : mu.contains k = true
      · rw [if_pos hk] at h
        split at h
        · rename_i i ms'
          rw [Bool.and_eq_true] at h
          obtain ⟨h1, h2⟩ := h
          split at h1
          · rename_i j
            rw [Bool.and_eq_true] at h1
            have ej := Nat.eq_of_beq_eq_true h1.1
            subst ej
            obtain ⟨hp, hn⟩ := pa_ms C mu as (k + 1) ms' es h2
            refine ⟨?_, fun y hy => ?_⟩
            · have h3 := h1.2
              unfold chkE at h3
              split at h3
              · rename_i x p
                rw [Bool.and_eq_true, decide_eq_true_eq] at h3
                obtain ⟨v, o⟩ := vis_of h3.2 C.scp
                obtain ⟨d1, d2, _⟩ := nm1 o
                refine pa_imp (pa_cons (pe_var (by rw [C.nN]; exact h3.1) v d1 d2) hp (star_of ns _)) fun σ H Q ⟨H0, Wr, ρ, R, ho, g⟩ => ?_
                obtain ⟨xs, hx⟩ := ho i (List.mem_cons_self ..)
                obtain ⟨a, us, e1, e2, rr, _, hz⟩ := R.own hx
                have g : Gd W σ H (evEs cf L.gl as ρ >>= fun l => .ok (.lst xs :: l)) fun ds => ∀ vs M H', Ex H H' → MArgs X.K σ ρ H H' mu k (some i :: ms') vs ds M → Q vs H' := by
                  have : evEs cf L.gl (.cons (.bor i) as) ρ = (evEs cf L.gl as ρ >>= fun l => .ok (.lst xs :: l)) := by
                    show (ofO (getAny ρ i) >>= fun x => evEs cf L.gl as ρ >>= fun l => .ok (x :: l)) = _
                    rw [own_any hx]
                    rfl
                  rw [← this]
                  exact g
                refine ⟨.ref a, e1, H0, Wr, ρ, R, fun j hj => ho j (List.mem_cons_of_mem _ hj), g.bind.mono fun ds g vs M H1 ex ma => ?_⟩
                exact g _ _ H1 ex (.slot hk e1 hx e2 (ex _ _ e2) (rr.mono (.of ex)) hz ma)
              · cases h3
            · rcases List.mem_cons.mp hy with rfl | hy
              · exact ns
              · exact hn y hy
          · cases h1
        · rename_i ms'
          rw [Bool.and_eq_true] at h
          obtain ⟨h1, h2⟩ := h
          split at h1
          · rename_i bs
            obtain ⟨hp, hn⟩ := pa_ms C mu as (k + 1) ms' es h2
            refine ⟨?_, fun y hy => ?_⟩
            · refine pa_imp (pa_cons ((x_all (cf := cf) (xa := xa) (.lst bs)).e W X sc e C h1) hp (star_of ns _)) fun σ H Q ⟨H0, Wr, ρ, R, ho, g⟩ => ?_
              refine ⟨H0, Wr, ρ, R, ?_⟩
              have g : Gd W σ H (evE cf L.gl (.lst bs) ρ >>= fun x => evEs cf L.gl as ρ >>= fun l => .ok (x :: l)) fun ds => ∀ vs M H', Ex H H' → MArgs X.K σ ρ H H' mu k (none :: ms') vs ds M → Q vs H' := g
              have g := g.bind
              cases q : evE cf L.gl (.lst bs) ρ with
              | fail => rw [q] at g; exact g
              | exc c => rw [q] at g; exact g
              | ok d =>
                rw [q] at g
                obtain ⟨xs, rfl⟩ : ∃ xs, d = .lst xs := by
                  have q : (evEs cf L.gl bs ρ >>= fun l => Res.ok (D.lst l)) = .ok d := q
                  cases q2 : evEs cf L.gl bs ρ with
                  | ok l => rw [q2] at q; cases q; exact ⟨l, rfl⟩
                  | exc c => rw [q2] at q; cases q
                  | fail => rw [q2] at q; cases q
                refine fun v H1 e1 r => ?_
                obtain ⟨a, us, rfl, na, ha, rr, hz⟩ : ∃ a us, v = .ref a ∧ H a = none ∧ H1 a = some (.lst us) ∧ Reps X.K H1 us xs ∧ xs.length ≤ line := r
                refine ⟨H0, Wr, ρ, R.ex e1, fun j hj => ho j (List.mem_cons_of_mem _ hj), ((show Gd W σ H (evEs cf L.gl as ρ >>= fun l => .ok (.lst xs :: l)) _ from g).ex e1).bind.mono fun ds g vs M H2 e2 ma => ?_⟩
                exact g _ _ H2 (e1.trans e2) (.new hk na (e2 _ _ ha) (rr.mono (.of e2)) hz (ma.back e1 (back R e1)))
            · rcases List.mem_cons.mp hy with rfl | hy
              · exact ns
              · exact hn y hy
          · cases h1
        · cases h
      · rw [if_neg hk] at h
        simp only [Bool.and_eq_true] at h
        obtain ⟨⟨h1, h2⟩, h3⟩ := h
        obtain ⟨hp, hn⟩ := pa_ms C mu as (k + 1) ms es h3
        refine ⟨?_, fun y hy => ?_⟩
        · refine pa_imp (pa_cons ((x_all (cf := cf) (xa := xa) a).e.v h2 C h1) hp (star_of ns _)) fun σ H Q ⟨H0, Wr, ρ, R, ho, g⟩ => ?_
          refine ⟨H0, Wr, ρ, R, g.bind.mono fun d g v H1 e1 r => ⟨H0, Wr, ρ, R.ex e1, ho, (g.ex e1).bind.mono fun ds g vs M H2 e2 ma => ?_⟩⟩
          exact g _ _ H2 (e1.trans e2) (.val (by simpa using hk) (Rep.mono (.of e2) r) (ma.back e1 (back R e1)))
        · rcases List.mem_cons.mp hy with rfl | hy
          · exact ns
          · exact hn y hy
    · cases h
theorem setOwns_other {j : Nat} : ∀ (ms : List (Option Nat)) (ls : List (List D)) (ρ : Env), j ∉ somes ms → (setOwns ms ls ρ)[j]? = ρ[j]?
  | [], ls, ρ, _ => by cases ls <;> rfl
  | some i :: ms, [], ρ, _ => rfl
  | none :: ms, [], ρ, _ => rfl
  | some i :: ms, xs :: ls, ρ, h => by
    have h1 : j ≠ i := fun e => h (e ▸ List.mem_cons_self ..)
    have h2 : j ∉ somes ms := fun e => h (List.mem_cons_of_mem _ e)
    show (setOwns ms ls (setOwn ρ i xs))[j]? = _
    rw [setOwns_other ms ls _ h2]
    unfold setOwn
    rw [List.getElem?_set_ne (Ne.symm h1)]
  | none :: ms, xs :: ls, ρ, h => by
    show (setOwns ms ls ρ)[j]? = _
    exact setOwns_other ms ls ρ h
theorem setOwns_len : ∀ (ms : List (Option Nat)) (ls : List (List D)) (ρ : Env), (setOwns ms ls ρ).length = ρ.length
  | [], ls, ρ => by cases ls <;> rfl
  | some i :: ms, [], ρ => rfl
  | none :: ms, [], ρ => rfl
  | some i :: ms, xs :: ls, ρ => by
    show (setOwns ms ls (setOwn ρ i xs)).length = _
    rw [setOwns_len]
    unfold setOwn
    simp
  | none :: ms, xs :: ls, ρ => by
    show (setOwns ms ls ρ).length = _
    rw [setOwns_len]
theorem setOwns_at {K : PySem.W.Frag} {σ : L2.St} {ρ0 : Env} {H H' : Hp} : ∀ {ms : List (Option Nat)} {as : List Addr} {fs : List D} {ls : List (List D)}, MSl σ ρ0 H ms as → Fins K H' as fs → lists fs = some ls → (somes ms).Nodup → ∀ (ρ' : Env), ρ'.length = ρ0.length → ∀ j ∈ somes ms,
    ∃ a xs us, σ[j]? = some (some (.ref a)) ∧ a ∈ as ∧ (setOwns ms ls ρ')[j]? = some (some (.own, .lst xs)) ∧ H' a = some (.lst us) ∧ Reps K H' us xs ∧ xs.length ≤ line
  | _, _, _, _, .nil, _, _, _, ρ', _, j, hj => by cases hj
  | _, _, _, _, @MSl.slot _ _ _ i ms a us xs as h1 h2 h3 r, @Fins.cons _ _ _ vs ys _ fs f1 f2 f3 fr, hl, hn, ρ', hρ, j, hj => by
    have hn := List.nodup_cons.mp (show (i :: somes ms).Nodup from hn)
    unfold lists at hl
    cases q : lists fs with
    | none => rw [q] at hl; cases hl
    | some ls' =>
      rw [q] at hl
      cases hl
      rcases List.mem_cons.mp (show j ∈ i :: somes ms from hj) with rfl | hj
      · refine ⟨a, ys, vs, h1, List.mem_cons_self .., ?_, f1, f2, f3⟩
        show (setOwns ms ls' (setOwn ρ' j ys))[j]? = _
        rw [setOwns_other ms ls' _ hn.1]
        unfold setOwn
        rw [List.getElem?_set_self]
        rw [hρ]
        exact lt_of_get (getOwn_some h2)
      · obtain ⟨b, zs, ws, b1, b2, b3⟩ := setOwns_at r fr q hn.2 (setOwn ρ' i ys) (by unfold setOwn; simpa using hρ) j hj
        exact ⟨b, zs, ws, b1, List.mem_cons_of_mem _ b2, b3⟩
  | _, _, _, _, @MSl.new _ _ _ ms a as h1 r, @Fins.cons _ _ _ vs ys _ fs f1 f2 f3 fr, hl, hn, ρ', hρ, j, hj => by
    unfold lists at hl
    cases q : lists fs with
    | none => rw [q] at hl; cases hl
    | some ls' =>
      rw [q] at hl
      cases hl
      obtain ⟨b, zs, ws, b1, b2, b3⟩ := setOwns_at r fr q hn ρ' hρ j hj
      exact ⟨b, zs, ws, b1, List.mem_cons_of_mem _ b2, b3⟩
theorem somes_mem {i : Nat} : ∀ {ms : List (Option Nat)}, i ∈ somes ms → some i ∈ ms
  | some j :: ms, h => by
    rcases List.mem_cons.mp (show i ∈ j :: somes ms from h) with rfl | h
    · exact List.mem_cons_self ..
    · exact List.mem_cons_of_mem _ (somes_mem h)
  | none :: ms, h => List.mem_cons_of_mem _ (somes_mem (show i ∈ somes ms from h))
theorem RE.over {K : PySem.W.Frag} {H0 H H1 H' : Hp} {M : Mp} {σ : L2.St} {ρ : Env} {ms : List (Option Nat)} {as : List Addr} {fs : List D} {ls : List (List D)} (R : RE K H0 M H σ ρ) (ho : ∀ i, some i ∈ ms → ∃ xs, getOwn ρ i = some xs) (e1 : Ex H H1) (sl : MSl σ ρ H ms as) (nd : (somes ms).Nodup)
    (hx : ExW as H1 H') (hl1 : ∀ a ∈ as, ∃ us, H1 a = some (.lst us)) (fin : Fins K H' as fs) (hls : lists fs = some ls) : RE K H0 M H' σ (setOwns ms ls ρ) ∧ Pers H1 H' := by
  have na : ∀ {b : Addr} {u : HO}, H1 b = some u → (∀ us, u ≠ .lst us) → b ∉ as := fun h hu hb => by
    obtain ⟨us, e⟩ := hl1 _ hb
    rw [e] at h
    cases h
    exact hu _ rfl
  have P : Pers H1 H' := ⟨fun a xs h => hx a _ h (na h fun _ z => by cases z), fun a o u h => hx a _ h (na h fun _ z => by cases z)⟩
  have R1 := R.r.ex e1
  have at1 := setOwns_at sl fin hls nd ρ rfl
  have notin : ∀ {b : Addr} {u : HO}, H b = some u → (∀ i, some i ∈ ms → σ[i]? ≠ some (some (.ref b))) → b ∉ as := fun {b u} h hs hb => by
    rcases MSl.mem sl b hb with ⟨i, xs, us, b1, b2, _⟩ | ⟨_, b2⟩
    · exact hs i b1 b2
    · rw [h] at b2; cases b2
  have ownOf : ∀ (i : Nat) (d : D), (setOwns ms ls ρ)[i]? = some (some (.own, d)) → ∃ d', ρ[i]? = some (some (.own, d')) := fun i d h => by
    by_cases hi : i ∈ somes ms
    · obtain ⟨xs, hx⟩ := ho i (somes_mem hi)
      exact ⟨_, getOwn_some hx⟩
    · rw [setOwns_other ms ls ρ hi] at h
      exact ⟨_, h⟩
  have memW : ∀ {b : Addr}, b ∈ as → H0 b = none ∨ b ∈ M.map (·.2) := fun {b} hb => by
    rcases MSl.mem sl b hb with ⟨i, xs, us, b1, b2, b3, b4⟩ | ⟨_, b2⟩
    · obtain ⟨a, vs, e, _, _, w, _⟩ := R.r.own b3
      rw [b2] at e
      cases e
      exact w
    · refine .inl ?_
      cases q : H0 b with
      | none => rfl
      | some o =>
        by_cases hw : b ∈ M.map (·.2)
        · obtain ⟨u, hu⟩ := R.r.wrH b hw
          rw [b2] at hu; cases hu
        · have := R.r.gr b o q hw
          rw [b2] at this; cases this
  refine ⟨⟨⟨by rw [setOwns_len]; exact R.r.len, fun i f d h => ?_, fun i j d d' hij h1 h2 => ?_, fun a o h hw => ?_, R.r.wr, fun a hw => ?_⟩, R.mp⟩, P⟩
  · by_cases hi : i ∈ somes ms
    · obtain ⟨a, xs, us, b1, b2, b3, b4, b5, b6⟩ := at1 i hi
      rw [b3] at h
      cases h
      exact ⟨.ref a, b1, a, us, xs, rfl, rfl, b4, b5, memW b2, b6⟩
    · rw [setOwns_other ms ls ρ hi] at h
      obtain ⟨v, hv, s⟩ := R1.at_ i f d h
      refine ⟨v, hv, ?_⟩
      cases f with
      | sh => exact Rep.mono P s
      | own =>
        obtain ⟨a, vs, xs, rfl, rfl, h5, rr, w, hz⟩ := s
        obtain ⟨v0, hv0, s0⟩ := R.r.at_ i _ _ h
        rw [hv] at hv0
        cases hv0
        obtain ⟨a0, vs0, xs0, e0, _, h50, _⟩ := s0
        cases e0
        refine ⟨a, vs, xs, rfl, rfl, hx a _ h5 (notin h50 fun j hj e => ?_), rr.mono P, w, hz⟩
        obtain ⟨ys, hy⟩ := ho j hj
        have : i ≠ j := fun e => hi (e ▸ mem_somes hj)
        exact R.r.dist i j _ _ this h (getOwn_some hy) (hv.trans e.symm)
      | bor => exact s
      | prt =>
        obtain ⟨a, o, x, vs, xs, e1, e2, h5, rr, hz⟩ := s
        exact ⟨a, o, x, vs, xs, e1, e2, P.2 _ _ _ h5, rr.mono P, hz⟩
  · obtain ⟨_, q1⟩ := ownOf i d h1
    obtain ⟨_, q2⟩ := ownOf j d' h2
    exact R.r.dist i j _ _ hij q1 q2
  · have h1 := R.r.gr a o h hw
    refine hx a o (e1 a o h1) fun hb => ?_
    rcases memW hb with z | z
    · rw [z] at h; cases h
    · exact hw z
  · obtain ⟨u, hu⟩ := R1.wrH a hw
    by_cases hb : a ∈ as
    · have : ∀ {as : List Addr} {fs : List D}, Fins K H' as fs → ∀ b ∈ as, ∃ u, H' b = some u := fun {as fs} f => by
        induction f with
        | nil => intro b h; cases h
        | cons f1 _ _ _ ih =>
          intro b h
          rcases List.mem_cons.mp h with rfl | h
          · exact ⟨_, f1⟩
          · exact ih b h
      exact this fin a hb
    · exact ⟨u, hx a u hu hb⟩
theorem ownsAt_ho : ∀ {ms : List (Option Nat)} {ρ : Env} {u : Unit}, ownsAt ms ρ = some u → ∀ i, some i ∈ ms → ∃ xs, getOwn ρ i = some xs
  | [], _, _, _, i, h => by cases h
  | some j :: ms, ρ, u, h, i, hi => by
    unfold ownsAt at h
    cases q : getOwn ρ j with
    | none => rw [q] at h; cases h
    | some xs =>
      rw [q] at h
      rcases List.mem_cons.mp hi with e | hi
      · cases e; exact ⟨xs, q⟩
      · exact ownsAt_ho h i hi
  | none :: ms, ρ, u, h, i, hi => by
    unfold ownsAt at h
    rcases List.mem_cons.mp hi with e | hi
    · cases e
    · exact ownsAt_ho h i hi
theorem evEs_len {ρ : Env} {gl : Nat → Option D} : ∀ {es : Es} {ds : List D}, evEs cf gl es ρ = .ok ds → ds.length = es.len
  | .nil, ds, h => by cases h; rfl
  | .cons e es, ds, h => by
    have h : (evE cf gl e ρ >>= fun x => evEs cf gl es ρ >>= fun l => Res.ok (x :: l)) = .ok ds := h
    cases q : evE cf gl e ρ with
    | exc c => rw [q] at h; cases h
    | fail => rw [q] at h; cases h
    | ok x =>
      rw [q, res_bind_ok] at h
      cases q2 : evEs cf gl es ρ with
      | exc c => rw [q2] at h; cases h
      | fail => rw [q2] at h; cases h
      | ok l =>
        rw [q2] at h
        cases h
        rw [List.length_cons, evEs_len q2]
        rfl
theorem MArgs.len {K : PySem.W.Frag} {σ : L2.St} {ρ : Env} {H H1 : Hp} {mu : List Nat} : ∀ {k : Nat} {ms : List (Option Nat)} {vs : List V} {ds : List D} {M : Mp}, MArgs K σ ρ H H1 mu k ms vs ds M → vs.length = ds.length
  | _, _, _, _, _, .nil k => rfl
  | _, _, _, _, _, .val _ _ r => congrArg Nat.succ (MArgs.len r)
  | _, _, _, _, _, .slot _ _ _ _ _ _ _ r => congrArg Nat.succ (MArgs.len r)
  | _, _, _, _, _, .new _ _ _ _ _ r => congrArg Nat.succ (MArgs.len r)
def tCallM (K : PySem.W.Frag) (W : WN) (cf : Nat → List D → Res D) (gl : Nat → Option D) (f : Nat) (es : Es) (ms : List (Option Nat)) : TE := fun σ H Q => ∃ H0 M ρ, RE K H0 M H σ ρ ∧ (∀ i, some i ∈ ms → ∃ xs, getOwn ρ i = some xs) ∧ Gd W σ H (evEs cf gl es ρ >>= fun l => cf f l) fun d =>
  ∃ p, mutRes ms.length d = some p ∧ ∀ v H', RE K H0 M H' σ (setOwns ms p.2 ρ) → Pers H H' → Rep K H' v p.1 → Q v H'
theorem pe_callM (C : SCtx L cf xa xn N W X sc) {f : Nat} {es : Es} {ms : List (Option Nat)} {e : Expr} (h : chkCall L N sc f es ms e = true) : PE X e (tCallM X.K W cf L.gl f es ms) ∧ notStar e = true ∧ notComp e = true := by
  unfold chkCall at h
  split at h
  · rename_i x p ys pos
    simp only [Bool.and_eq_true, decide_eq_true_eq] at h
    obtain ⟨⟨⟨⟨rfl, h2⟩, h3⟩, h4⟩, h5⟩ := h
    split at h5
    · rename_i fd hf
      split at h5
      · rename_i l hl
        simp only [Bool.and_eq_true, decide_eq_true_eq] at h5
        obtain ⟨⟨⟨k1, k2⟩, k3⟩, k4⟩ := h5
        obtain ⟨gl, o⟩ := glo_of h2 C.scp
        obtain ⟨hp, hn⟩ := pa_ms C.toCtxOk l es 0 ms ys k1
        obtain ⟨fa, fdt, ps, kk, f1, f2, f3, f4, f5⟩ := C.fns f fd hf
        cases ys with
        | nil => simp at h3
        | cons y ys =>
          refine ⟨pe_imp (pe_callS f5 f4 gl f1 f2 f3 (fun σ => passAt C.tk σ) hp (nm1 o).1 (star_of (hn y (List.mem_cons_self ..)) _) (plain_star fun e he => hn e (List.mem_cons_of_mem _ he))) fun σ H Q ⟨H0, M, ρ, R, ho, g⟩ => ?_, rfl, rfl⟩
          refine ⟨H0, _, ρ, R.r, ho, ?_⟩
          have g := g.bind
          cases q : evEs cf L.gl es ρ with
          | fail => rw [q] at g; exact g
          | exc c => rw [q] at g; exact g
          | ok ds =>
            rw [q] at g
            refine fun vs Mc H1 e1 ma => ?_
            have hlen : vs.length = es.len := ma.len.trans (evEs_len q)
            have hfst : Mc.map (·.1) = l := by rw [ma.fst, hlen]; exact k3.symm
            have hat := ma.at_
            refine ⟨ds, Mc, by rw [k4, ← hlen]; exact ma.args, ?_, ?_⟩
            · rw [hl]
              refine ⟨hfst, MSl.nodup R.r ma.sl h4 k2, fun p hp => ?_⟩
              obtain ⟨_, a2, us, xs, a3, a4, a5, a6⟩ := hat p hp
              exact ⟨by simpa using a2, us, xs, a3, by simpa using a4, a5, a6⟩
            · have g : Gd W σ H (cf f ds) _ := g
              cases q2 : cf f ds with
              | fail => rw [q2] at g; exact g
              | exc c =>
                rw [q2] at g
                exact fun H' e2 => ⟨c, rfl, rfl, g H' (e1.trans e2)⟩
              | ok d =>
                rw [q2] at g
                obtain ⟨⟨r, ls⟩, em, g⟩ := g
                refine fun v H' hx rr => ?_
                rw [hl] at rr
                cases d <;> simp only [mutRes, reduceCtorEq] at em
                rename_i ts
                cases ts with
                | nil => cases em
                | cons r0 fs =>
                  simp only at em
                  split at em
                  · rename_i hle
                    cases q3 : lists fs with
                    | none => rw [q3] at em; cases em
                    | some ls0 =>
                      rw [q3] at em
                      cases em
                      obtain ⟨hv, fin⟩ : Rep X.K H' v r ∧ Fins X.K H' (Mc.map fun p : Nat × Addr => p.2) fs := rr
                      obtain ⟨R2, P2⟩ := R.over ho e1 ma.sl h4 hx (fun a ha => by
                        obtain ⟨p, hp, rfl⟩ := List.mem_map.mp ha
                        obtain ⟨_, _, us, xs, a3, _⟩ := hat p hp
                        exact ⟨us, a3⟩) fin q3
                      exact g v H' R2 ((Pers.of e1).trans P2) hv
                  · cases em
      · cases h5
    · cases h5
  · cases h
/-- what a call's flow tells -/
theorem callM_flow {H0 H : Hp} {M : Mp} {E : Ends} {σ : L2.St} {ρ : Env} {f : Nat} {es : Es} {ms : List (Option Nat)} {gl : Nat → Option D} {F : D × List (List D) → Res Flow} {K : PySem.W.Frag} (R : RE K H0 M H σ ρ)
    (g : GS own K W H0 M H E ((ofO (ownsAt ms ρ)) >>= fun _ => withE (evEs cf gl es ρ >>= fun l => cf f l) ρ fun d => (ofO (mutRes ms.length d)) >>= F)) :
    (∀ i, some i ∈ ms → ∃ xs, getOwn ρ i = some xs) ∧ Gd W σ H (evEs cf gl es ρ >>= fun l => cf f l) fun d => ∃ p, mutRes ms.length d = some p ∧ GS own K W H0 M H E (F p) := by
  obtain ⟨u, eu, g⟩ := GS.o g
  refine ⟨ownsAt_ho eu, (GS.withE R g).mono fun d g => ?_⟩
  obtain ⟨p, ep, g⟩ := GS.o g
  exact ⟨p, ep, g⟩
theorem ret_of {K : PySem.W.Frag} {H0 H : Hp} {M : Mp} {σ : L2.St} {ρ : Env} {l : Option (List Nat)} {d r : D} {v : V} (R : RE K H0 M H σ ρ) (m : MFst own M) (hl : ownO own l = true) (h : handO l d ρ = some r) (hv : Rep K H v d) : RetR own K M H0 H v r := by
  cases own with
  | no =>
    cases l with
    | none => cases h; exact hv
    | some l => cases hl
  | chg k =>
    cases l with
    | none => cases hl
    | some l =>
      have e : k = l := of_decide_eq_true hl
      subst e
      exact hand_of R m h hv
  | own => cases l <;> cases hl
  | prt => cases l <;> cases hl
theorem lastOf_app : ∀ {es xs : List Expr} {e : Expr}, lastOf es = some (xs, e) → es = xs ++ [e]
  | [], _, _, h => by cases h
  | [a], _, _, h => by cases h; rfl
  | a :: b :: es, xs, e, h => by
    unfold lastOf at h
    cases q : lastOf (b :: es) with
    | none => rw [q] at h; cases h
    | some p =>
      rw [q] at h
      cases h
      rw [List.cons_append, ← lastOf_app q]
def tPre (K : PySem.W.Frag) (W : WN) (cf : Nat → List D → Res D) (gl : Nat → Option D) (n : Nat) (pre : Es) (t : TE) : TA := fun σ H Q => ∃ H0 Wr ρ, REnv K H0 Wr H σ ρ ∧ Gd W σ H (evEs cf gl pre ρ) fun ps => ∀ vs H1, Ex H H1 → Reps K H1 vs ps → vs.length = n → t σ H1 fun v H2 => Q (vs ++ [v]) H2
theorem pa_pre (C : CtxOk L cf xa N W X sc) {e : Expr} {t : TE} (he : PE X e t) (ne : notStar e = true) : ∀ (pre : Es) (xs : List Expr), chkEs L N pre (xs.map fun _ => false) sc xs = true → PA X (xs ++ [e]) (tPre X.K W cf L.gl xs.length pre t)
  | .nil, xs, h => by
    unfold chkEs at h
    simp only [Bool.and_eq_true, List.isEmpty_iff] at h
    obtain ⟨h1, h2⟩ := h
    have : xs = [] := by first | exact h1 | exact h2 | simpa using h1
    subst this
    exact pa_imp (pa_cons he pa_nil (star_of ne _)) fun σ H Q ⟨H0, Wr, ρ, R, g⟩ => g [] H (Ex.refl H) .nil rfl
  | .cons a as, xs, h => by
    unfold chkEs at h
    split at h
    · rename_i b bs x xs' hbs
      cases hbs
      simp only [Bool.and_eq_true] at h
      obtain ⟨⟨⟨k1, k2⟩, k3⟩, k4⟩ := h
      have hv : isV L a = true := by simpa using k3
      refine pa_imp (pa_cons ((x_all (cf := cf) (xa := xa) a).e.v hv C k1) (pa_pre C he ne as xs' k4) (star_of k2 _)) fun σ H Q ⟨H0, Wr, ρ, R, g⟩ => ?_
      refine ⟨H0, Wr, ρ, R, g.bind.mono fun d g v H1 e1 r => ⟨H0, Wr, ρ, R.ex e1, (g.ex e1).bind.mono fun ds g vs H2 e2 rs hl => ?_⟩⟩
      exact g _ H2 (e1.trans e2) (.cons (Rep.mono (.of e2) r) rs) (by rw [List.length_cons, List.length_cons, hl])
    · cases h
theorem ss_callM (k : Km) (f : Nat) (es : Es) (ms : List (Option Nat)) : SS L cf xa xn N own (.callM k f es ms) := fun W X sc st C h => by
  unfold chkS at h
  cases k with
  | drop =>
    unfold chkK at h
    simp only at h
    split at h
    · rw [Bool.and_eq_true] at h
      obtain ⟨pe, ns, nc⟩ := pe_callM C h.1
      refine ps_imp (ps_expr pe (swap_of h.2 _ _ _)) fun E σ H ⟨H0, M, ρ, mm, R, g⟩ => ?_
      obtain ⟨_, _, g⟩ := GS.o g
      obtain ⟨ho, g⟩ := callM_flow R g
      exact ⟨H0, M, ρ, R, ho, g.mono fun d ⟨p, ep, g⟩ => ⟨p, ep, fun v H' R2 P2 rv => g σ H' R2 P2⟩⟩
    · cases h
  | asg i =>
    unfold chkK at h
    simp only at h
    split at h
    · simp only [Bool.and_eq_true, decide_eq_true_eq] at h
      obtain ⟨⟨⟨k1, k2⟩, k3⟩, k4⟩ := h
      obtain ⟨pe, ns, nc⟩ := pe_callM C k3
      refine ps_imp (ps_set C.nd (by rw [C.nN]; exact k1) (loc_of (locM_of k2).1 C.scp) pe (swap_of k4 _ _ _) (.inl (C.fn _))) fun E σ H ⟨H0, M, ρ, mm, R, g⟩ => ?_
      obtain ⟨_, _, g⟩ := GS.o g
      obtain ⟨ho, g⟩ := callM_flow R g
      exact ⟨H0, M, ρ, R, ho, g.mono fun d ⟨p, ep, g⟩ => ⟨p, ep, fun v H' R2 P2 rv => g _ H' (R2.set (sl_of (locM_of k2).2 mm) rv) P2⟩⟩
    · cases h
  | ret l =>
    unfold chkK at h
    simp only at h
    split at h
    · rw [Bool.and_eq_true] at h
      obtain ⟨pe, ns, nc⟩ := pe_callM C h.2
      refine ps_imp (ps_ret pe) fun E σ H ⟨H0, M, ρ, mm, R, g⟩ => ?_
      obtain ⟨_, _, g⟩ := GS.o g
      obtain ⟨ho, g⟩ := callM_flow R g
      refine ⟨H0, M, ρ, R, ho, g.mono fun d ⟨p, ep, g⟩ => ⟨p, ep, fun v H' R2 P2 rv => ?_⟩⟩
      obtain ⟨r, er, g⟩ := GS.o g
      exact g v H' R2.exw P2 (ret_of R2 mm h.1 er rv)
    · cases h
  | app i =>
    unfold chkK at h
    simp only at h
    split at h
    · simp only [Bool.and_eq_true, decide_eq_true_eq] at h
      obtain ⟨⟨⟨⟨⟨k1, k2⟩, rfl⟩, k3⟩, k4⟩, k6⟩ := h
      obtain ⟨pe, ns, nc⟩ := pe_callM C k4
      obtain ⟨v, o⟩ := vis_of k2 C.scp
      obtain ⟨d1, d2, _⟩ := nm1 o
      have st := star_of (es := []) k6 X.env
      refine ps_imp (ps_expr (pe_bm PySem.F.plainAttrs_list PySem.F.slot_list_append PySem.F.type_list_append mt_append (pe_var (by rw [C.nN]; exact k1) v d1 d2) (pa_cons pe pa_nil st) rfl (by rw [st]; rfl) k3 st (plain_star fun e he => by cases he))) fun E σ H ⟨H0, M, ρ, mm, R, g⟩ => ?_
      obtain ⟨u, eu, g⟩ := GS.o g
      obtain ⟨ho, g⟩ := callM_flow R g
      cases q : getOwn ρ i with
      | none => simp only [konP, q] at eu; cases eu
      | some xs0 =>
        obtain ⟨a, vs0, hs, ha, rr0, _, hz0⟩ := R.r.own q
        refine ⟨_, hs, .inl ⟨rfl, _, .inl (.inl ha)⟩, H0, M, ρ, R, ho, g.mono fun d ⟨p, ep, g⟩ => ⟨p, ep, fun v H' R2 P2 rv => ?_⟩⟩
        obtain ⟨xs, ex, g⟩ := GS.o g
        obtain ⟨ys, ey, g⟩ := GS.o g
        obtain ⟨b, vs, hb, hb2, rr, _, hz⟩ := R2.r.own ex
        rw [hs] at hb
        cases hb
        unfold appL at ey
        split at ey <;> cases ey
        rename_i hl
        refine ⟨a, vs, v, rfl, rfl, hb2, by rw [rr.length]; exact hl, ?_⟩
        obtain ⟨R3, P3⟩ := R2.write ex hs hb2 (rr.append (.one rv)) (by rw [List.length_append]; simp; omega)
        exact g σ _ R3 (P2.trans P3)
    · cases h
  | ext i =>
    unfold chkK at h
    simp only at h
    split at h
    · simp only [Bool.and_eq_true, decide_eq_true_eq] at h
      obtain ⟨⟨⟨⟨⟨k1, k2⟩, rfl⟩, k3⟩, k4⟩, k6⟩ := h
      obtain ⟨pe, ns, nc⟩ := pe_callM C k4
      obtain ⟨v, o⟩ := vis_of k2 C.scp
      obtain ⟨d1, d2, _⟩ := nm1 o
      have st := star_of (es := []) k6 X.env
      refine ps_imp (ps_expr (pe_bm PySem.F.plainAttrs_list PySem.F.slot_list_extend PySem.F.type_list_extend mt_ext (pe_var (by rw [C.nN]; exact k1) v d1 d2) (pa_cons pe pa_nil st) rfl (by rw [st]; rfl) k3 st (plain_star fun e he => by cases he))) fun E σ H ⟨H0, M, ρ, mm, R, g⟩ => ?_
      obtain ⟨u, eu, g⟩ := GS.o g
      obtain ⟨ho, g⟩ := callM_flow R g
      cases q : getOwn ρ i with
      | none => simp only [konP, q] at eu; cases eu
      | some xs0 =>
        obtain ⟨a, vs0, hs, ha, rr0, _, hz0⟩ := R.r.own q
        refine ⟨_, hs, .inl ⟨rfl, _, .inl (.inl ha)⟩, H0, M, ρ, R, ho, g.mono fun d ⟨p, ep, g⟩ => ⟨p, ep, fun v H' R2 P2 rv => ?_⟩⟩
        obtain ⟨xs, ex, g⟩ := GS.o g
        obtain ⟨ys, ey, g⟩ := GS.o g
        obtain ⟨zs, ez, g⟩ := GS.o g
        obtain ⟨b, vs, hb, hb2, rr, _, hz⟩ := R2.r.own ex
        rw [hs] at hb
        cases hb
        unfold extL at ez
        split at ez <;> cases ez
        rename_i hl
        have hz2 : ∃ b us, v = .ref b ∧ (Rd H' b (.lst us) ∨ SqT X.K H' b us) ∧ Reps X.K H' us ys := by
          cases hp1 : p.1 <;> rw [hp1] at ey rv <;> simp only [seqOf, reduceCtorEq] at ey <;> cases ey
          · obtain ⟨b, us, e1, h4, rb⟩ := RepB.tup_inv (.inl rv)
            exact ⟨b, us, e1, .inr h4, rb⟩
          · obtain ⟨b, us, e1, h4, rb⟩ := RepB.lst_inv (.inl rv)
            exact ⟨b, us, e1, .inl h4, rb⟩
        obtain ⟨b, us, rfl, hb3, rb⟩ := hz2
        refine ⟨a, b, vs, us, rfl, rfl, hb2, hb3, by rw [rr.length, rb.length]; exact hl, ?_⟩
        obtain ⟨R3, P3⟩ := R2.write ex hs hb2 (rr.append rb) (by rw [List.length_append]; exact hl)
        exact g σ _ R3 (P2.trans P3)
    · cases h
  | asgT i pre =>
    unfold chkK at h
    simp only at h
    split at h
    · rename_i x px ys ctx pt ps
      simp only [Bool.and_eq_true, decide_eq_true_eq] at h
      obtain ⟨⟨k1, k2⟩, h⟩ := h
      split at h
      · rename_i q hq
        simp only [Bool.and_eq_true, decide_eq_true_eq] at h
        obtain ⟨⟨k3, k4⟩, k5⟩ := h
        obtain ⟨pe, ns, nc⟩ := pe_callM C k4
        have ey := lastOf_app hq
        have pp := pa_pre C.toCtxOk pe ns pre q.1 k3
        rw [← ey] at pp
        refine ps_imp (ps_set C.nd (by rw [C.nN]; exact k1) (loc_of (locM_of k2).1 C.scp) (pe_tup pp) rfl (.inl (C.fn _))) fun E σ H ⟨H0, M, ρ, mm, R, g⟩ => ?_
        obtain ⟨_, _, g⟩ := GS.o g
        refine ⟨H0, _, ρ, R.r, (GS.withE R g).mono fun ps g vs H1 e1 rs hvs => ?_⟩
        obtain ⟨ho, g⟩ := callM_flow (R.ex e1) (g.pers (.of e1))
        refine ⟨H0, M, ρ, R.ex e1, ho, g.mono fun d ⟨p, ep, g⟩ => ⟨p, ep, fun v H' R2 P2 rv => ?_⟩⟩
        have hl : (vs ++ [v]).length = ys.length := by rw [ey, List.length_append, List.length_append, hvs]; rfl
        have hl2 : (ps ++ [p.1]).length ≤ line := by
          rw [List.length_append] at hl ⊢
          rw [← rs.length]
          simp only [List.length_cons, List.length_nil] at hl ⊢
          omega
        refine ⟨by rw [hl]; have lv : sizeLine = line := rfl; omega, fun t ht => ?_⟩
        have e2 : Ex H' (upd H' t (.tup (vs ++ [v]))) := Ex.new ht
        exact g _ _ ((R2.ex e2).set (sl_of (locM_of k2).2 mm) (rep_tup ht ((rs.mono P2).append (.one rv)) hl2)) (P2.trans (.of e2))
      · cases h
    · cases h
  | retT l pre =>
    unfold chkK at h
    simp only at h
    split at h
    · rename_i ys ctx pt ps
      rw [Bool.and_eq_true] at h
      obtain ⟨k1, h⟩ := h
      split at h
      · rename_i q hq
        simp only [Bool.and_eq_true, decide_eq_true_eq] at h
        obtain ⟨⟨k3, k4⟩, k5⟩ := h
        obtain ⟨pe, ns, nc⟩ := pe_callM C k4
        have ey := lastOf_app hq
        have pp := pa_pre C.toCtxOk pe ns pre q.1 k3
        rw [← ey] at pp
        refine ps_imp (ps_ret (pe_tup pp)) fun E σ H ⟨H0, M, ρ, mm, R, g⟩ => ?_
        obtain ⟨_, _, g⟩ := GS.o g
        refine ⟨H0, _, ρ, R.r, (GS.withE R g).mono fun ps g vs H1 e1 rs hvs => ?_⟩
        obtain ⟨ho, g⟩ := callM_flow (R.ex e1) (g.pers (.of e1))
        refine ⟨H0, M, ρ, R.ex e1, ho, g.mono fun d ⟨p, ep, g⟩ => ⟨p, ep, fun v H' R2 P2 rv => ?_⟩⟩
        have hl : (vs ++ [v]).length = ys.length := by rw [ey, List.length_append, List.length_append, hvs]; rfl
        have hl2 : (ps ++ [p.1]).length ≤ line := by
          rw [List.length_append] at hl ⊢
          rw [← rs.length]
          simp only [List.length_cons, List.length_nil] at hl ⊢
          omega
        refine ⟨by rw [hl]; have lv : sizeLine = line := rfl; omega, fun t ht => ?_⟩
        have e2 : Ex H' (upd H' t (.tup (vs ++ [v]))) := Ex.new ht
        obtain ⟨r, er, g⟩ := GS.o g
        exact g _ _ (R2.tr e2) (P2.trans (.of e2)) (ret_of (R2.ex e2) mm k1 er (rep_tup ht ((rs.mono P2).append (.one rv)) hl2))
      · cases h
    · cases h
mutual
theorem s_all : ∀ s : S, SS L cf xa xn N own s
  | .pass => ss_pass
  | .expr e => ss_expr e
  | .assign i e => ss_assign i e
  | .assignF i e => ss_assignF i e
  | .append i e => ss_append i e
  | .extend i e => ss_extend i e
  | .setIx i k e => ss_setIx i k e
  | .ife c a b => ss_ife c (b_all a) (b_all b)
  | .for_ x it b => ss_for x it (b_all b)
  | .whil c b => ss_whil c (b_all b)
  | .ret e => ss_ret e
  | .retF e => ss_retF e
  | .retOwn i => ss_retOwn i
  | .retN => ss_retN
  | .brk => ss_brk
  | .cont => ss_cont
  | .raise c => ss_raise c
  | .try_ b yes no c h => ss_try yes no c h (b_all b)
  | .unpack is e => ss_unpack is e
  | .pop x i => ss_pop x i
  | .popU is i => ss_popU is i
  | .retP i es => ss_retP i es
  | .retM l e => ss_retM l e
  | .retMN l => ss_retMN l
  | .callM k f es ms => ss_callM k f es ms
theorem b_all : ∀ b : B, SB L cf xa xn N own b
  | .nil => sb_nil
  | .cons s b => sb_cons (s_all s) (b_all b)
  | .freeze i b => sb_freeze i (b_all b)
  | .pair i j f es b => sb_pair i j f es (b_all b)
end
end
end Ev

/-! Defs are sound; the law's end. -/
namespace Ev
open PySem PySem.Spec
open PyProof.Rows hiding St
open L2
open Evl (Ex)

/-! ### parameters -/
theorem lookup_zip_some {ps : List Str} {us : List Value} : ∀ (hl : us.length = ps.length) (x : Str), x ∈ ps → ∃ v, (ps.zip us).lookup x = some v := by
  induction ps generalizing us with
  | nil => intro _ x h; cases h
  | cons p ps ih =>
    intro hl x h
    cases us with
    | nil => cases hl
    | cons u us =>
      rw [List.zip_cons_cons, List.lookup_cons]
      cases e : x == p with
      | true => exact ⟨u, rfl⟩
      | false =>
        rcases List.mem_cons.mp h with rfl | h
        · simp at e
        · exact ih (by simpa using hl) x h
theorem fm_congr {α β : Type} {f g : α → Option β} : ∀ {l : List α}, (∀ a ∈ l, f a = g a) → l.filterMap f = l.filterMap g
  | [], _ => rfl
  | a :: l, h => by
    rw [List.filterMap_cons, List.filterMap_cons, h a (List.mem_cons_self ..), fm_congr fun b hb => h b (List.mem_cons_of_mem _ hb)]
theorem zip_back {ps : List Str} {us : List Value} (nd : ps.Nodup) (hl : us.length = ps.length) : (ps.filterMap fun n => ((ps.zip us).lookup n).map (n, ·)) = ps.zip us := by
  induction ps generalizing us with
  | nil => simp
  | cons p ps ih =>
    cases us with
    | nil => cases hl
    | cons u us =>
      have hp : p ∉ ps := (List.nodup_cons.mp nd).1
      have e : ∀ n ∈ ps, (((p :: ps).zip (u :: us)).lookup n).map (fun v => (n, v)) = ((ps.zip us).lookup n).map (fun v => (n, v)) := fun n hn => by
        rw [List.zip_cons_cons, List.lookup_cons]
        have : (n == p) = false := by
          rw [beq_eq_false_iff_ne]
          exact fun z => hp (z ▸ hn)
        rw [this]
      rw [List.filterMap_cons]
      have e0 : (((p :: ps).zip (u :: us)).lookup p).map (fun v => (p, v)) = some (p, u) := by
        rw [List.zip_cons_cons, List.lookup_cons, beq_self_eq_true]; rfl
      rw [e0]
      simp only
      rw [fm_congr e, ih (List.nodup_cons.mp nd).2 (by simpa using hl)]
      rfl
def argsOk (a : Arguments) (ps : List Str) : Bool := a.posonlyargs.isEmpty && decide (a.args.map (·.arg) = ps) && a.vararg.isNone && a.kwonlyargs.isEmpty && a.kwarg.isNone && decide ps.Nodup
theorem bind_ok {x qual : Str} {params : Arguments} {body : List Stmt} {scope : Scope} {ps : List Str} (h : argsOk params ps = true) (kV doc pm : Value) (an : Option Addr) (cdv ct : Value) (us : List Value) (hl : us.length = ps.length) :
    bindArgs (PySem.W.fnOf x qual params body scope .none kV doc pm an cdv ct) ⟨us, []⟩ = pure (ps.zip us) := by
  obtain ⟨po, ar, va, ko, kd, kw, df⟩ := params
  unfold argsOk at h
  simp only [Bool.and_eq_true, List.isEmpty_iff, decide_eq_true_eq, Option.isNone_iff_eq_none] at h
  obtain ⟨⟨⟨⟨⟨rfl, h2⟩, rfl⟩, rfl⟩, rfl⟩, nd⟩ := h
  have e1 : List.filter (fun n => (List.lookup n (ps.zip us)).isNone) ps = [] := by
    rw [List.filter_eq_nil_iff]
    intro x hx
    obtain ⟨v, e⟩ := lookup_zip_some hl x hx
    simp [e]
  have e2 := zip_back nd hl
  unfold bindArgs
  simp only [PySem.W.fnOf, h2, notAStandIn, List.map_nil, List.nil_append, List.append_nil, seqItems?, pure_bind, List.forIn_nil, Option.getD_none, Array.toList_empty, List.length_nil, Nat.sub_zero, List.take_length, List.drop_nil, List.drop_length, List.zip_nil_right, hl,
    List.isEmpty_nil, Bool.not_true, Bool.false_eq_true, if_false, Nat.lt_irrefl, gt_iff_lt, decide_false, Bool.false_and, e1, e2, false_and]
/-- what stands for a def of the text -/
structure DefAt (L : Lw) (xn : Nat → Option Str) (K : PySem.W.Frag) (mg : Str → Option Value) (f : Nat) (fd : FD) (fa : Addr) (fdt : FuncData) (ps N : List Str) (d : He.DefD) : Prop where
  g : mg (L.nm f) = some (.ref fa)
  F : FunD K d.name d.qual d.params d.body d.scope [] [] fa fdt
  S : FnScope N ps d.scope
  ak : argsOk d.params ps = true
  ns : fd.ns = N.length
  pl : fd.ps.length = ps.length
  pb : ∀ l, fd.own = .chg l → ∀ i, fd.ps[i]? = some true → l.contains i = true
  ck : chkB L N xn fd.own d.scope fd.body d.body = true
structure TopOk (L : Lw) (xa : Nat → Addr) (xn : Nat → Option Str) (K : PySem.W.Frag) (mg : Str → Option Value) : Prop where
  fns : ∀ f fd, L.T f = some fd → ∃ fa fdt ps N d, DefAt L xn K mg f fd fa fdt ps N d
  free : ∀ x ∈ bnames, mg x = none
  glb : ∀ g d, L.gl g = some d → ∃ u v, mg (L.nm g) = some u ∧ RelV v u ∧ ∀ H, Rep K H v d
  xc : ∀ c x, xn c = some x → mg x = some (.ref (xa c)) ∧ PySem.W.excIn K (xa c) He.veBase "ValueError.__new__" = true ∧ PySem.W.keepIn K (.ref (xa c)) = true ∧ PySem.W.subIn K (.ref (xa c)) (.type "BaseException") = some true ∧
    PySem.W.typeIn K (.ref (xa c)) = some (.type "type")
  ems : ∀ y c b, L.exm y c = some b → PySem.W.exmOne K (.ref (xa y)) (.ref (xa c)) = some b

theorem start_env {K : PySem.W.Frag} {H : Hp} {mu : List Nat} {bs : List Bool} {vs : List V} {ds : List D} (a : ArgsR K H bs vs ds) : ∀ (k i : Nat) (f : Fl) (d : D), (startL mu k bs ds)[i]? = some (some (f, d)) →
    ∃ v b, (vs.map some)[i]? = some (some v) ∧ vs[i]? = some v ∧ ds[i]? = some d ∧ bs[i]? = some b ∧ f = (if mu.contains (k + i) then Fl.own else if b then Fl.bor else Fl.sh) ∧ if b then RepB K H v d else Rep K H v d := by
  induction a with
  | nil => intro k i f d h; simp [startL] at h
  | @cons b v d0 bs vs ds h r ih =>
    intro k i f d e
    cases i with
    | zero =>
      simp only [startL, List.getElem?_cons_zero, Option.some.injEq, Prod.mk.injEq] at e
      obtain ⟨e1, rfl⟩ := e
      exact ⟨v, b, rfl, rfl, rfl, rfl, e1.symm, h⟩
    | succ i =>
      simp only [startL, List.getElem?_cons_succ] at e
      obtain ⟨v', b', h1, h2, h3, h4, h5, h6⟩ := ih (k + 1) i f d e
      refine ⟨v', b', by simpa using h1, by simpa using h2, by simpa using h3, by simpa using h4, ?_, h6⟩
      rw [show k + (i + 1) = k + 1 + i by omega]
      exact h5
theorem startL_len {mu : List Nat} : ∀ (k : Nat) {bs : List Bool} {ds : List D}, ds.length = bs.length → (startL mu k bs ds).length = bs.length
  | _, [], [], _ => rfl
  | _, [], _ :: _, h => by cases h
  | _, _ :: _, [], h => by cases h
  | k, b :: bs, d :: ds, h => by
    simp only [startL, List.length_cons]
    rw [startL_len (k + 1) (by simpa using h)]
theorem start_renv {K : PySem.W.Frag} {H : Hp} {fd : FD} {N : List Str} {vs : List V} {ds : List D} {M : Mp} (a : ArgsR K H fd.ps vs ds) (m : MutA fd.own K H vs ds M) (pb : ∀ l, fd.own = .chg l → ∀ i, fd.ps[i]? = some true → l.contains i = true) (ns : fd.ns = N.length) :
    MFst fd.own M ∧ RE K H M H (start N vs) (fd.start ds) := by
  have l1 := a.len.1
  have l2 := a.len.2
  have mf : MFst fd.own M := by
    revert m
    cases fd.own with
    | chg l => exact fun m => m.1
    | _ => exact fun m => m
  have mk : ∀ p ∈ M, vs[p.1]? = some (.ref p.2) ∧ ∃ us xs, H p.2 = some (.lst us) ∧ ds[p.1]? = some (.lst xs) ∧ Reps K H us xs ∧ xs.length ≤ line := by
    revert m
    cases fd.own with
    | chg l => exact fun m => m.2.2
    | _ => exact fun m p hp => by have m : M = [] := m; subst m; cases hp
  have nd : (M.map (·.2)).Nodup := by
    revert m
    cases fd.own with
    | chg l => exact fun m => m.2.1
    | _ => exact fun m => by have m : M = [] := m; subst m; exact List.nodup_nil
  have inM : ∀ i, fd.own.mu.contains i = true → ∃ p ∈ M, p.1 = i := fun i hi => by
    revert mf hi
    cases fd.own with
    | chg l =>
      intro mf hi
      have mf : M.map (·.1) = l := mf
      have : i ∈ l := by simpa [Ow.mu] using hi
      rw [← mf] at this
      obtain ⟨p, hp, e⟩ := List.mem_map.mp this
      exact ⟨p, hp, e⟩
    | _ => intro mf hi; simp [Ow.mu] at hi
  have noB : ∀ i, fd.ps[i]? = some true → fd.own.mu.contains i = false → M = [] := fun i h1 h2 => by
    revert mf h2 pb
    cases fd.own with
    | chg l =>
      intro pb mf h2
      have := pb l rfl i h1
      have h2 : l.contains i = false := h2
      rw [this] at h2
      cases h2
    | _ => intro pb mf h2; exact mf
  have lk : ∀ {i : Nat} {v : V}, vs[i]? = some v → (start N vs)[i]? = some (some v) := fun {i v} h => by
    unfold L2.start
    rw [List.getElem?_append_left (by simp; exact (List.getElem?_eq_some_iff.mp h).1), List.getElem?_map, h]
    rfl
  have at_ : ∀ (i : Nat) (f : Fl) (d : D), (fd.start ds)[i]? = some (some (f, d)) → ∃ v, (start N vs)[i]? = some (some v) ∧ SlotAt K H (M.map (·.2)) H v f d ∧ (f = .own → ∃ p ∈ M, p.1 = i ∧ v = .ref p.2) := fun i f d h => by
    unfold FD.start at h
    have lz := startL_len (mu := fd.own.mu) 0 l2
    by_cases hi : i < fd.ps.length
    · rw [List.getElem?_append_left (by rw [lz]; exact hi)] at h
      obtain ⟨v, b, h1, h2, h3, h4, h5, h6⟩ := start_env a 0 i f d h
      rw [Nat.zero_add] at h5
      refine ⟨v, lk h2, ?_⟩
      cases hm : fd.own.mu.contains i with
      | true =>
        rw [hm, if_pos rfl] at h5
        subst h5
        obtain ⟨p, hp, rfl⟩ := inM i hm
        obtain ⟨q1, us, xs, q2, q3, q4, q5⟩ := mk p hp
        rw [h2] at q1
        cases q1
        rw [h3] at q3
        cases q3
        exact ⟨⟨p.2, us, xs, rfl, rfl, q2, q4, .inr (List.mem_map_of_mem hp), q5⟩, fun _ => ⟨p, hp, rfl, rfl⟩⟩
      | false =>
        rw [hm, if_neg Bool.false_ne_true] at h5
        cases b with
        | true =>
          simp only [if_true] at h5 h6
          subst h5
          have : M = [] := noB i h4 hm
          exact ⟨⟨h6, fun a _ => by subst this; simp⟩, fun z => by cases z⟩
        | false =>
          simp only [Bool.false_eq_true, if_false] at h5 h6
          subst h5
          exact ⟨h6, fun z => by cases z⟩
    · rw [List.getElem?_append_right (by rw [lz]; omega), List.getElem?_replicate] at h
      split at h <;> cases h
  refine ⟨mf, ⟨⟨?_, fun i f d h => ?_, fun i j d d' hij h1 h2 => ?_, fun b o h _ => h, fun b hb => ?_, fun b hb => ?_⟩, fun p hp => lk (mk p hp).1⟩⟩
  · unfold L2.start FD.start
    simp [startL_len 0 l2, l1, ns]
  · obtain ⟨v, e, s, _⟩ := at_ i f d h
    exact ⟨v, e, s⟩
  · obtain ⟨v, e, _, hp⟩ := at_ i .own d h1
    obtain ⟨v', e', _, hq⟩ := at_ j .own d' h2
    obtain ⟨p, hp1, rfl, rfl⟩ := hp rfl
    obtain ⟨q, hq1, rfl, rfl⟩ := hq rfl
    rw [e, e']
    intro z
    have z : p.2 = q.2 := by simpa using z
    have : ∀ {M : Mp}, (M.map (·.2)).Nodup → ∀ p ∈ M, ∀ q ∈ M, p.2 = q.2 → p = q := fun {M} => by
      induction M with
      | nil => intro _ p hp; cases hp
      | cons a M ih =>
        intro nd p hp q hq e
        have nd := List.nodup_cons.mp (show (a.2 :: M.map (·.2)).Nodup from nd)
        rcases List.mem_cons.mp hp with hp1 | hp1
        · rcases List.mem_cons.mp hq with hq1 | hq1
          · rw [hp1, hq1]
          · exact absurd (by rw [← hp1, e]; exact List.mem_map_of_mem hq1 : a.2 ∈ M.map (·.2)) nd.1
        · rcases List.mem_cons.mp hq with hq1 | hq1
          · exact absurd (by rw [← hq1, ← e]; exact List.mem_map_of_mem hp1 : a.2 ∈ M.map (·.2)) nd.1
          · exact ih nd.2 p hp1 q hq1 e
    exact hij (congrArg Prod.fst (this nd p hp1 q hq1 z))
  · obtain ⟨p, hp, rfl⟩ := List.mem_map.mp hb
    obtain ⟨_, us, xs, q2, _⟩ := mk p hp
    exact ⟨us, q2⟩
  · obtain ⟨p, hp, rfl⟩ := List.mem_map.mp hb
    obtain ⟨_, us, xs, q2, _⟩ := mk p hp
    exact ⟨_, q2⟩
section
variable {L : Lw} {xa : Nat → Addr} {xn : Nat → Option Str} {P : Program} {w : World} {K : PySem.W.Frag} {mg : Str → Option Value} {base : Heap}
theorem fn_sound (Tp : TopOk L xa xn K mg) : ∀ (n f : Nat) (fd : FD), L.T f = some fd → ∀ (fa : Addr) (fdt : FuncData) (ps N : List Str) (d : He.DefD), DefAt L xn K mg f fd fa fdt ps N d →
    FnOk P w K mg base (L2.CX P w) n fa fdt ps (spF K xa (callF L.T L.gl n f) fd)
  | 0, f, fd, _, fa, fdt, ps, N, d, _ => ⟨fun vs H Q E ⟨ds, M, a, m, h⟩ => (show False from h).elim, fun A outer s H args us vs Q E hr e0 hb r ⟨ds, M, a, m, h⟩ => (show False from h).elim⟩
  | n + 1, f, fd, hf, fa, fdt, ps, N, d, D => by
    refine D.F.ok D.S (fun vs H Q E ⟨ds, M, a, m, h⟩ => a.len.1.trans D.pl) fun cdv A outer s H vs Q E hr h => ?_
    obtain ⟨ds, M, a, m, h⟩ := h
    obtain ⟨mf, R0⟩ := start_renv a m D.pb D.ns
    let X : Cx := cxOf (L2.CX P w) P w K mg base N d.qual d.scope fa cdv A outer s H E
    let W : WN := fun c _ H' => E (.ref (xa c)) none H'
    have C : SCtx L (callF L.T L.gl n) xa xn N W X d.scope :=
      { calm := rfl, nN := rfl, nd := D.S.nd, scp := rfl, room := hr.mono (Nat.zero_le _),
        fns := fun g gd hg => by
          obtain ⟨ga, gdt, qs, M, e, G⟩ := Tp.fns g gd hg
          exact ⟨ga, gdt, qs, n, G.g, G.F.kp, G.F.bindsN fun _ _ _ _ _ _ us hl => bind_ok G.ak _ _ _ _ _ _ us hl, hr, fn_sound Tp n g gd hg ga gdt qs M e G⟩
        free := Tp.free, glb := Tp.glb,
        tk := (takes_of (X := X) (E := E) rfl rfl rfl rfl).imp fun c d σ H h => by
          obtain ⟨x, rfl, rfl, h⟩ := h
          exact h
        pass := passes_of (X := X) rfl, fn := fun _ => rfl,
        xc := fun c x h => by
          obtain ⟨h1, h2, h3, h4, h5⟩ := Tp.xc c x h
          exact ⟨h1, h2, h3, h4, h5⟩
        ems := Tp.ems, hs := rfl, hf := rfl }
    refine ⟨_, b_all fd.body W X d.scope d.body C D.ck, H, M, fd.start ds, mf, R0, ?_⟩
    have e : callF L.T L.gl (n + 1) f ds = fd.run (callF L.T L.gl n) L.gl ds := by
      show (match L.T f with
        | some fd => fd.run (callF L.T L.gl n) L.gl ds
        | none => .fail) = _
      rw [hf]
    rw [e] at h
    unfold FD.run at h
    rw [if_pos a.len.2] at h
    show GS fd.own K W H M H { nx := fun _ H' => Q .non H', rt := Q } (evB (callF L.T L.gl n) L.gl fd.body (fd.start ds))
    cases q : evB (callF L.T L.gl n) L.gl fd.body (fd.start ds) with
    | fail => rw [q] at h; exact h
    | exc c => rw [q] at h; exact h
    | ok fl =>
      rw [q] at h
      cases fl with
      | nx ρ =>
        refine fun σ' H' R p => ?_
        have h : match (match fd.own with
          | .chg l => ofO (handM l .non ρ)
          | _ => Res.ok Ev.D.non) with
          | .ok d => ∀ v H', ExW (M.map (·.2)) H H' → RetR fd.own K M H H' v d → Q v H'
          | .exc c => ∀ H', Ex H H' → E (.ref (xa c)) none H'
          | .fail => False := h
        cases z : fd.own with
        | chg l =>
          rw [z] at h mf
          simp only at h
          cases q2 : handM l .non ρ with
          | none => rw [q2] at h; exact h.elim
          | some r =>
            rw [q2] at h
            exact (show ∀ v H', ExW (M.map (·.2)) H H' → RetR (.chg l) K M H H' v r → Q v H' from h) .non H' R.exw (hand_of R mf q2 .non)
        | _ => rw [z] at h; exact h .non H' R.exw .non
      | brk ρ => exact (show False from h).elim
      | cont ρ => exact (show False from h).elim
      | ret d => exact fun v H' e p r => (show ∀ v H', ExW (M.map (·.2)) H H' → RetR fd.own K M H H' v d → Q v H' from h) v H' e r
      | exc c ρ =>
        refine fun σ' H' R p => ?_
        have h : match (match fd.own with
          | .chg _ => Res.fail
          | _ => Res.exc c : Res Ev.D) with
          | .ok d => ∀ v H', ExW (M.map (·.2)) H H' → RetR fd.own K M H H' v d → Q v H'
          | .exc c => ∀ H', Ex H H' → E (.ref (xa c)) none H'
          | .fail => False := h
        cases z : fd.own with
        | chg l => rw [z] at h; exact h.elim
        | _ => rw [z] at h mf; exact h H' (R.ex0 mf)
end
end Ev

/-! The head's facts for a text of the evaluator; a law's end. -/
namespace Ev
open PySem PySem.Spec
open PyProof.Rows hiding St
open L2
open Evl (Ex)

def look {α : Type} : List (Nat × α) → Nat → Option α
  | [], _ => none
  | (i, a) :: l, j => if Nat.beq i j then some a else look l j
theorem look_mem {α : Type} : ∀ {l : List (Nat × α)} {i : Nat} {a : α}, look l i = some a → (i, a) ∈ l
  | [], _, _, h => by cases h
  | (i, b) :: l, j, a, h => by
    unfold look at h
    split at h
    · rename_i e
      cases h
      rw [Nat.eq_of_beq_eq_true e]
      exact List.mem_cons_self ..
    · exact List.mem_cons_of_mem _ (look_mem h)
/-- a def of the text: its core, its statement, its slots' names, its parameters' -/
structure Df where
  fd : FD
  st : Stmt
  N : List Str
  ps : List Str
structure Tx where
  fs : List (Nat × Df)
  gs : List (Nat × D)
  xs : List (Nat × Str)
  nms : List (Nat × Str)
  ems : List (Nat × Nat × Bool) := []
def Tx.nm (t : Tx) (i : Nat) : Str := (look t.nms i).getD Str.empty
def Tx.T (t : Tx) (i : Nat) : Option FD := (look t.fs i).map (·.fd)
def Tx.gl (t : Tx) (i : Nat) : Option D := look t.gs i
def Tx.xn (t : Tx) (i : Nat) : Option Str := look t.xs i
def Tx.exm (t : Tx) (x c : Nat) : Option Bool := (t.ems.find? fun p => decide (p.1 = x ∧ p.2.1 = c)).map (·.2.2)
def Tx.lw (t : Tx) : Lw := ⟨t.T, t.gl, t.nm, t.exm⟩
def Tx.em (t : Tx) (p : Nat × Nat × Bool) : He.Fa := .exm ((t.xn p.1).getD Str.empty) ((t.xn p.2.1).getD Str.empty) p.2.2
def scopeOk (N ps : List Str) (sc : Scope) : Bool := (match sc.kind with | .function => true | _ => false) && !sc.isCoroutine && !sc.isGenerator && decide N.Nodup && decide (N.take ps.length = ps) &&
  (ps.all fun x => match sc.names.lookup x with | some .local => true | some .cell => true | _ => false) && sc.names.all fun y => match y.2 with | .free => false | _ => true
theorem scope_ok {N ps : List Str} {sc : Scope} (h : scopeOk N ps sc = true) : FnScope N ps sc := by
  unfold scopeOk at h
  simp only [Bool.and_eq_true, Bool.not_eq_true', decide_eq_true_eq, List.all_eq_true] at h
  obtain ⟨⟨⟨⟨⟨⟨h1, h2⟩, h3⟩, h4⟩, h5⟩, h6⟩, h7⟩ := h
  refine ⟨?_, h2, h3, h4, h5, fun x hx => ?_, fun y hy e => ?_⟩
  · split at h1
    · assumption
    · cases h1
  · have := h6 x hx
    split at this <;> simp_all
  · have := h7 y hy
    rw [e] at this
    cases this
def Df.dat (d : Df) (x : Str) : He.DefD := ⟨(x, none), x, x, defArgs d.st, defBody d.st, defScope d.st, [], []⟩
def dfOk (t : Tx) (i : Nat) (d : Df) : Bool := scopeOk d.N d.ps (defScope d.st) && argsOk (defArgs d.st) d.ps && Nat.beq d.fd.ns d.N.length && Nat.beq d.fd.ps.length d.ps.length && (match d.fd.own with | .chg l => d.fd.ps.zipIdx.all fun p => !p.1 || l.contains p.2 | _ => true) && chkB t.lw d.N t.xn d.fd.own (defScope d.st) d.fd.body (defBody d.st)
def Tx.ok (t : Tx) : Bool := t.fs.all fun p => dfOk t p.1 p.2
/-! ### constants of the top -/
mutual
def relD (K : PySem.W.Frag) : D → Value → Bool
  | .int i, u => match u with
    | .int j _ => decide (j = i)
    | _ => false
  | .str s, u => match u with
    | .str x _ => decide (x.cps.toList = s) && Nat.ble s.length line
    | _ => false
  | .non, u => match u with
    | .none => true
    | _ => false
  | .bl b, u => match u with
    | .bool c => b == c
    | _ => false
  | .tup ds, u => match u with
    | .ref a => (match K.lookup a with
      | some ⟨.type c, _, .seq its _, _⟩ => decide (c = "tuple") && Nat.ble its.size sizeLine && relDs K ds its.toList
      | _ => false)
    | _ => false
  | .lst _, _ => false
def relDs (K : PySem.W.Frag) : List D → List Value → Bool
  | [], us => us.isEmpty
  | d :: ds, us => match us with
    | u :: us => relD K d u && relDs K ds us
    | [] => false
end
mutual
theorem relD_ok {K : PySem.W.Frag} : ∀ (d : D) (u : Value), relD K d u = true → ∃ v, RelV v u ∧ ∀ H, Rep K H v d
  | .int i, u, h => by
    unfold relD at h
    split at h
    · have := of_decide_eq_true h
      subst this
      exact ⟨.int _, ⟨_, rfl⟩, fun _ => .int _⟩
    · cases h
  | .str s, u, h => by
    unfold relD at h
    split at h
    · rw [Bool.and_eq_true, decide_eq_true_eq] at h
      obtain ⟨rfl, h2⟩ := h
      rename_i x t
      refine ⟨.str x, ⟨_, rfl⟩, fun H => ?_⟩
      have := Rep.str (K := K) (H := H) x.cps.toList (Nat.le_of_ble_eq_true h2)
      rw [T_of] at this
      exact this
    · cases h
  | .non, u, h => by
    unfold relD at h
    split at h
    · exact ⟨.non, rfl, fun _ => .non⟩
    · cases h
  | .bl b, u, h => by
    unfold relD at h
    split at h
    · have := eq_of_beq h
      subst this
      exact ⟨.bl _, rfl, fun _ => .bl _⟩
    · cases h
  | .tup ds, u, h => by
    unfold relD at h
    split at h
    · rename_i a
      split at h
      · rename_i c od its n sl lk
        simp only [Bool.and_eq_true, decide_eq_true_eq] at h
        obtain ⟨⟨rfl, h2⟩, h3⟩ := h
        have hz := Nat.le_of_ble_eq_true h2
        obtain ⟨vs, r, hr⟩ := relDs_ok ds its.toList h3
        refine ⟨.ref a, rfl, fun H => .tup (.inr ⟨_, its, n, lk, rfl, rfl, hz, r⟩) (hr H) ?_⟩
        rw [← (hr H).length, r.length, Array.length_toList]
        exact hz
      · cases h
    · cases h
  | .lst _, u, h => by unfold relD at h; cases h
theorem relDs_ok {K : PySem.W.Frag} : ∀ (ds : List D) (us : List Value), relDs K ds us = true → ∃ vs, Vals vs us ∧ ∀ H, Reps K H vs ds
  | [], us, h => by
    unfold relDs at h
    rw [List.isEmpty_iff] at h
    subst h
    exact ⟨[], .nil, fun _ => .nil⟩
  | d :: ds, us, h => by
    unfold relDs at h
    split at h
    · rw [Bool.and_eq_true] at h
      obtain ⟨v, r, hr⟩ := relD_ok d _ h.1
      obtain ⟨vs, rs, hrs⟩ := relDs_ok ds _ h.2
      exact ⟨v :: vs, .cons r rs, fun H => .cons (hr H) (hrs H)⟩
    · cases h
end
def noList (K : PySem.W.Frag) : Bool := K.all fun p => match p.2.cls with
  | .type c => !decide (c = "list")
  | _ => true
def glOk (t : Tx) (K : PySem.W.Frag) : Bool := t.gs.all fun p => match PySem.W.nsIn K mainGlobals (t.nm p.1) with
  | some (some u) => relD K p.2 u
  | _ => false
/-! ### the Hook -/
def Tx.fa (t : Tx) : List He.Fa := (t.fs.map fun p => He.Fa.glo (t.nm p.1)) ++ (bnames.map He.Fa.free) ++ (t.xs.map fun p => He.Fa.glo p.2) ++ (t.xs.map fun p => He.Fa.exc p.2) ++ t.ems.map t.em
theorem mem_fa {t : Tx} {f : He.Fa} : f ∈ t.fa ↔ (∃ p, p ∈ t.fs ∧ He.Fa.glo (t.nm p.1) = f) ∨ (∃ x, x ∈ bnames ∧ He.Fa.free x = f) ∨ (∃ p, p ∈ t.xs ∧ He.Fa.glo p.2 = f) ∨ (∃ p, p ∈ t.xs ∧ He.Fa.exc p.2 = f) ∨ ∃ p, p ∈ t.ems ∧ t.em p = f := by
  unfold Tx.fa
  rw [List.mem_append, List.mem_append, List.mem_append, List.mem_append, List.mem_map, List.mem_map, List.mem_map, List.mem_map, List.mem_map]
  exact ⟨fun h => by
    rcases h with (((h | h) | h) | h) | h
    · exact .inl h
    · exact .inr (.inl h)
    · exact .inr (.inr (.inl h))
    · exact .inr (.inr (.inr (.inl h)))
    · exact .inr (.inr (.inr (.inr h))), fun h => by
    rcases h with h | h | h | h | h
    · exact .inl (.inl (.inl (.inl h)))
    · exact .inl (.inl (.inl (.inr h)))
    · exact .inl (.inl (.inr h))
    · exact .inl (.inr h)
    · exact .inr h⟩
def Tx.fn (t : Tx) : List He.DefD := t.fs.map fun p => p.2.dat (t.nm p.1)
def obsX (t : Tx) (K : PySem.W.Frag) : He.AlD := ((t.fa.all fun f => f.ok K) && (t.fn.all fun d => d.ok K) && noList K && glOk t K, t.fn.map fun d => He.fnW K d.at_)
def SaysX (t : Tx) (K : PySem.W.Frag) : Prop := obsX t K = He.valD t.fn
def obsXG (t : Tx) (n : Nat) (g : Addr → Option Obj) : He.AlD := obsX t (He.frG g (He.asD g n))
def hookX (t : Tx) (n : Nat) : PySem.W.Hook where
  α := He.AlD
  obs := fun s => obsXG t n s.heap.get?
  val := fun _ => He.valD t.fn
  says := fun _ h => ∃ K : PySem.W.Frag, K.In h ∧ SaysX t K
  of := fun _ _ e => ⟨_, He.frG_in, e⟩
  keeps := fun _ _ _ ⟨K, hK, c⟩ k => ⟨K, PySem.W.Frag.In.keeps hK k, c⟩
def obT (t : Tx) (n : Nat) (s : PySem.W.SharedT) : He.AlD := obsXG t n (HandSHeadRun.getT s)
theorem obT_eq (t : Tx) (n : Nat) (s : PySem.W.SharedT) : obT t n s = (hookX t n).obs s.abs := by
  have e : HandSHeadRun.getT s = s.abs.heap.get? := funext (HandSHeadRun.getT_eq s)
  unfold obT
  rw [e]
  rfl
def xaK (t : Tx) (K : PySem.W.Frag) (c : Nat) : Addr := He.ga K ((t.xn c).getD Str.empty)
theorem says_top {t : Tx} {K : PySem.W.Frag} {h : Heap} {mg : Str → Option Value} (X : K.In h) (G : h.Ns mainGlobals mg) (ok : t.ok = true) (c : SaysX t K) : TopOk t.lw (xaK t K) t.xn K mg := by
  have c1 : ((t.fa.all fun f => f.ok K) && (t.fn.all fun d => d.ok K) && noList K && glOk t K) = true := congrArg (fun z : He.AlD => z.1) c
  have c2 : (t.fn.map fun d => He.fnW K d.at_) = t.fn.map He.DefD.val := congrArg (fun z : He.AlD => z.2) c
  simp only [Bool.and_eq_true, List.all_eq_true] at c1
  obtain ⟨⟨⟨f1, f2⟩, f3⟩, f4⟩ := c1
  have fa_ : ∀ f ∈ t.fa, f.ok K = true := f1
  refine ⟨fun f fd hf => ?_, fun x hx => ?_, fun g d hg => ?_, fun e x hx => ?_, fun y c b hb => ?_⟩
  · have hf : (look t.fs f).map (·.fd) = some fd := hf
    cases q : look t.fs f with
    | none => rw [q] at hf; cases hf
    | some d =>
      rw [q] at hf
      obtain rfl : d.fd = fd := Option.some.inj hf
      have hm := look_mem q
      have hk : dfOk t f d = true := List.all_eq_true.mp (show (t.fs.all fun p => dfOk t p.1 p.2) = true from ok) (f, d) hm
      unfold dfOk at hk
      simp only [Bool.and_eq_true] at hk
      obtain ⟨⟨⟨⟨⟨k1, k2⟩, k3⟩, k4⟩, kb⟩, k5⟩ := hk
      have pb : ∀ l, d.fd.own = .chg l → ∀ i, d.fd.ps[i]? = some true → l.contains i = true := by
        intro l hl i hi
        rw [hl] at kb
        have := List.all_eq_true.mp (show (d.fd.ps.zipIdx.all fun p => !p.1 || l.contains p.2) = true from kb) (true, i) (by
          rw [List.mem_iff_getElem?]
          exact ⟨i, by rw [List.getElem?_zipIdx, hi]; simp⟩)
        simpa using this
      have hd : d.dat (t.nm f) ∈ t.fn := List.mem_map.mpr ⟨_, hm, rfl⟩
      have ev : He.fnW K (d.dat (t.nm f)).at_ = (d.dat (t.nm f)).val := by
        obtain ⟨i, hi, e⟩ := List.mem_iff_getElem.mp hd
        have e2 := congrArg (fun l => l[i]?) c2
        simp only [List.getElem?_map, List.getElem?_eq_getElem hi, Option.map_some, Option.some.injEq] at e2
        rw [← e]
        exact e2
      obtain ⟨fdt, F⟩ := He.DefD.funD ev (f2 _ hd)
      have F' : FunD K (d.dat (t.nm f)).name (d.dat (t.nm f)).qual (d.dat (t.nm f)).params (d.dat (t.nm f)).body (d.dat (t.nm f)).scope [] [] (He.fAd K (d.dat (t.nm f)).at_) fdt := F
      refine ⟨He.fAd K (d.dat (t.nm f)).at_, fdt, d.ps, d.N, d.dat (t.nm f), ?_, F', scope_ok k1, k2, Nat.eq_of_beq_eq_true k3, Nat.eq_of_beq_eq_true k4, pb, k5⟩
      exact He.glo_ok X G (fa_ (.glo (t.nm f)) (mem_fa.mpr (.inl ⟨_, hm, rfl⟩)))
  · exact He.free_ok X G (fa_ (.free x) (mem_fa.mpr (.inr (.inl ⟨_, hx, rfl⟩))))
  · have hm := look_mem (show look t.gs g = some d from hg)
    have := List.all_eq_true.mp (show (t.gs.all fun p => match PySem.W.nsIn K mainGlobals (t.nm p.1) with
      | some (some u) => relD K p.2 u
      | _ => false) = true from f4) (g, d) hm
    simp only at this
    split at this
    · rename_i u e
      obtain ⟨v, r, hr⟩ := relD_ok d u this
      exact ⟨u, v, PySem.W.mg_of X G e, r, hr⟩
    · cases this
  · have hm := look_mem (show look t.xs e = some x from hx)
    have ea : xaK t K e = He.ga K x := by unfold xaK; rw [hx]; rfl
    rw [ea]
    exact ⟨He.glo_ok X G (fa_ (.glo x) (mem_fa.mpr (.inr (.inr (.inl ⟨_, hm, rfl⟩))))), He.exc_ok (fa_ (.exc x) (mem_fa.mpr (.inr (.inr (.inr (.inl ⟨_, hm, rfl⟩))))))⟩
  · have hb' : (t.ems.find? fun p => decide (p.1 = y ∧ p.2.1 = c)).map (·.2.2) = some b := hb
    clear hb
    cases q : t.ems.find? fun p => decide (p.1 = y ∧ p.2.1 = c) with
    | none => rw [q] at hb'; cases hb'
    | some p =>
      rw [q] at hb'
      have hm := List.mem_of_find?_eq_some q
      have hp := List.find?_some q
      rw [decide_eq_true_eq] at hp
      obtain ⟨rfl, rfl⟩ := hp
      obtain rfl : p.2.2 = b := Option.some.inj hb'
      exact He.exm_ok (fa_ (t.em p) (mem_fa.mpr (.inr (.inr (.inr (.inr ⟨p, hm, rfl⟩))))))
theorem says_nolist {t : Tx} {K : PySem.W.Frag} (c : SaysX t K) {a : Addr} {o : Obj} (h : K.lookup a = some o) : o.cls ≠ .type "list" := by
  have c1 : ((t.fa.all fun f => f.ok K) && (t.fn.all fun d => d.ok K) && noList K && glOk t K) = true := congrArg (fun z : He.AlD => z.1) c
  simp only [Bool.and_eq_true] at c1
  have := List.all_eq_true.mp (show (K.all _) = true from c1.1.2) (a, o) (PySem.W.mem_of_lookupK h)
  intro e
  simp only [e] at this
  simp at this
/-! ### the law's end -/
def depthMost : Nat := 220
theorem room_top : Room depthMost callerA := ⟨rfl, by decide, by decide⟩
theorem reps_of_ints {K : PySem.W.Frag} {H : Hp} : ∀ ns : List Int, Reps K H (ns.map V.int) (ns.map D.int)
  | [] => .nil
  | n :: ns => .cons (.int n) (reps_of_ints ns)
theorem walk_ev {l : PySem.W.OpenLaw} {q : Program} {loose : List Str} {XP : (Str → Option Value) → Heap → Prop} {t : Tx} {m f : Nat} {d : DefRec} {df : Df} {x : Str}
    (hn : l.most = some 63) (hdf : d.params.defaults = []) (ok : t.ok = true) (hl : look t.fs f = some df) (hx : df.ps = [x]) (hb : df.fd.ps = [false]) (hco : ∀ l, df.fd.own ≠ .chg l) (hN : d.name = t.nm f)
    (plain : ∀ ns : List Int, ns.length ≤ 63 → callF t.T t.gl depthMost f [.lst (ns.map .int)] = .ok (.bl true)) :
    PySem.W.WalkO q loose XP (hookX t m).says l.row.toRowW d [] (fun f vs => PySem.call f vs) := by
  refine Att.attach_call hn hdf fun w s₀ s₁ mg mb fa o pm cd doc a vs ns G Y ho hd hcd hmg hobj hints hlen hg => ?_
  obtain ⟨K, KX, c⟩ := Y
  have Tp := says_top KX G.T.g ok c
  have hT : t.lw.T f = some df.fd := by
    show (look t.fs f).map (·.fd) = _
    rw [hl]; rfl
  obtain ⟨fa', fdt, ps, N, dd, D⟩ := Tp.fns f df.fd hT
  have ea : fa = fa' := by
    have := D.g
    rw [show t.lw.nm f = d.name from hN.symm, hmg] at this
    cases this
    rfl
  subst ea
  have hps : ∃ y, ps = [y] := by
    have := D.pl
    rw [hb] at this
    match ps, this with
    | [y], _ => exact ⟨y, rfl⟩
  obtain ⟨y, rfl⟩ := hps
  have F : ∀ base : Heap, K.In base → base.Ns mainGlobals mg → FnOk l.prog w K mg base (L2.CX l.prog w) depthMost fa fdt [y] (spF K (xaK t K) (callF t.T t.gl depthMost f) df.fd) := fun base _ _ => fn_sound Tp depthMost f df.fd hT fa fdt [y] N dd D
  have hz : (63 : Nat) ≤ sizeLine := by decide
  have lb : ∀ (s : Shared) (u : Value), BindsTo s fdt ⟨[u], []⟩ [(y, u)] := fun s u => D.F.bindsA (ps := [y]) (fun _ _ _ _ _ _ us hl => bind_ok D.ak _ _ _ _ _ _ us hl) s [u] rfl
  refine law_call KX G.T.g G.T.b G.T.builtins G.T.nolimit hg hobj hints (Nat.le_trans hlen hz) room_top F lb (fun H hO hS => ?_) fun H e s' h => ?_
  · refine ⟨[.lst (ns.map .int)], [], ?_, ?_, ?_⟩
    · rw [hb]
      refine .cons ?_ .nil
      rcases hS with h | ⟨o, its, n, lk, hc, _⟩
      · rcases hO a with z | ⟨o, xs, z⟩
        · rcases h with h | ⟨o, h⟩
          · rw [z] at h; cases h
          · rw [z] at h; cases h
        · rcases h with h | ⟨o2, h⟩
          · rw [z] at h; cases h
          · exact .lst h (reps_of_ints ns) (by rw [List.length_map]; exact Nat.le_trans hlen hz)
      · exact absurd hc (says_nolist c lk)
    · unfold MutA
      cases z : df.fd.own with
      | chg l => exact absurd z (hco l)
      | own => rfl
      | prt => rfl
      | no => rfl
    · rw [plain ns hlen]
      intro v H' e r
      have : v = .bl true := by
        cases z : df.fd.own with
        | own => rw [z] at r; exact Rep.bl_inv r
        | prt => rw [z] at r; exact Rep.bl_inv r
        | no => rw [z] at r; exact Rep.bl_inv r
        | chg l => exact absurd z (hco l)
      exact this
  · obtain ⟨_, _, _, _, _, _, _, _, _, _, _, _, h⟩ := h
    exact h
end Ev

/-! Reading the evaluator: functions by number, rules for readings. -/
namespace Ev
class Fn (T : Nat → Option FD) (i : Nat) (fd : outParam FD) : Prop where
  eq : T i = some fd
class Gl (gl : Nat → Option D) (i : Nat) (d : outParam D) : Prop where
  eq : gl i = some d
section
variable {T : Nat → Option FD} {gl : Nat → Option D} {cf : Nat → List D → Res D}
theorem call_eq {n i : Nat} {fd : FD} [h : Fn T i fd] (ds : List D) : callF T gl (n + 1) i ds = fd.run (callF T gl n) gl ds := by
  show (match T i with
    | some fd => fd.run (callF T gl n) gl ds
    | none => .fail) = _
  rw [h.eq]
theorem glob_eq {i : Nat} {d : D} [h : Gl gl i d] : gl i = some d := h.eq
end
/-- an answer is there, and P of it -/
@[irreducible] def okO {α : Type} (o : Option α) (P : α → Prop) : Prop := ∃ a, o = some a ∧ P a
@[irreducible] def okR {α : Type} (r : Res α) (X : Nat → Prop) (P : α → Prop) : Prop := match r with
  | .ok a => P a
  | .exc c => X c
  | .fail => False
/-- a block's ends -/
structure En where
  nx : Env → Prop
  rt : D → Prop
  bk : Env → Prop
  ct : Env → Prop
  xc : Nat → Env → Prop
def En.wn (n : En) (f : Env → Prop) : En := ⟨f, n.rt, n.bk, n.ct, n.xc⟩
def En.wl (n : En) (f g : Env → Prop) : En := ⟨f, n.rt, g, f, n.xc⟩
def En.wx (n : En) (x : Nat → Env → Prop) : En := ⟨n.nx, n.rt, n.bk, n.ct, x⟩
def En.fn (P : D → Prop) (X : Nat → Prop) : En := ⟨fun _ => P .non, P, fun _ => False, fun _ => False, fun c _ => X c⟩
/-- .. of a def that changes these parameters -/
def En.fm (l : List Nat) (P : D → Prop) : En := ⟨fun ρ => okO (handM l .non ρ) P, P, fun _ => False, fun _ => False, fun _ _ => False⟩
def Ow.still : Ow → Bool
  | .chg _ => false
  | _ => true
@[irreducible] def okF (r : Res Flow) (n : En) : Prop := match r with
  | .ok (.nx ρ) => n.nx ρ
  | .ok (.ret d) => n.rt d
  | .ok (.brk ρ) => n.bk ρ
  | .ok (.cont ρ) => n.ct ρ
  | .ok (.exc c ρ) => n.xc c ρ
  | .exc _ => False
  | .fail => False
section
variable {α β : Type} {X X' : Nat → Prop} {P P' : α → Prop} {n : En} {ρ : Env}
theorem okO_of {o : Option α} {a : α} (h : o = some a) (p : P a) : okO o P := by unfold okO; exact ⟨a, h, p⟩
theorem okO_mono {o : Option α} (h : okO o P) (m : ∀ a, P a → P' a) : okO o P' := by
  unfold okO at h ⊢
  obtain ⟨a, e, p⟩ := h
  exact ⟨a, e, m a p⟩
theorem okO_ex {o : Option α} (h : okO o P) : ∃ a, o = some a ∧ P a := by unfold okO at h; exact h
theorem okR_of {r : Res α} {a : α} (h : r = .ok a) (p : P a) : okR r X P := by unfold okR; rw [h]; exact p
theorem okR_mono {r : Res α} (h : okR r X P) (m : ∀ a, P a → P' a) (x : ∀ c, X c → X' c) : okR r X' P' := by
  unfold okR at h ⊢
  cases r with
  | ok a => exact m a h
  | exc c => exact x c h
  | fail => exact h
theorem okR_ex {r : Res α} (h : okR r (fun _ => False) P) : ∃ a, r = .ok a ∧ P a := by
  unfold okR at h
  cases r with
  | ok a => exact ⟨a, rfl, h⟩
  | exc c => exact h.elim
  | fail => exact h.elim
/-- what raises nothing: on -/
theorem okR_then {r : Res α} (h : okR r (fun _ => False) P) (m : ∀ a, P a → P' a) : okR r X P' := okR_mono h m fun _ h => h.elim
theorem okR_bind {r : Res α} {f : α → Res β} {P : β → Prop} (h : okR r X fun a => okR (f a) X P) : okR (r >>= f) X P := by
  unfold okR at h ⊢
  cases r <;> exact h
theorem okR_o {o : Option α} (h : okO o P) : okR (ofO o) X P := by
  obtain ⟨a, rfl, p⟩ := okO_ex h
  unfold okR
  exact p
theorem okF_withE {r : Res α} {f : α → Res Flow} (h : okR r (fun c => n.xc c ρ) fun a => okF (f a) n) : okF (withE r ρ f) n := by
  unfold okR at h
  cases r with
  | ok a => exact h
  | exc c => unfold okF; exact h
  | fail => exact h.elim
theorem okF_o {o : Option α} {f : α → Res Flow} (h : okO o fun a => okF (f a) n) : okF (ofO o >>= f) n := by
  obtain ⟨a, rfl, p⟩ := okO_ex h
  exact p
theorem okF_nx (h : n.nx ρ) : okF (.ok (.nx ρ)) n := by unfold okF; exact h
theorem okF_nx' (h : okF (.ok (.nx ρ)) n) : n.nx ρ := by unfold okF at h; exact h
theorem okF_ct' (h : okF (.ok (.cont ρ)) n) : n.ct ρ := by unfold okF at h; exact h
theorem okF_rt {d : D} (h : n.rt d) : okF (.ok (.ret d)) n := by unfold okF; exact h
end
@[irreducible] def okE (cf : Nat → List D → Res D) (gl : Nat → Option D) (c : E) (ρ : Env) (X : Nat → Prop) (P : D → Prop) : Prop := okR (evE cf gl c ρ) X P
@[irreducible] def okEs (cf : Nat → List D → Res D) (gl : Nat → Option D) (c : Es) (ρ : Env) (X : Nat → Prop) (P : List D → Prop) : Prop := okR (evEs cf gl c ρ) X P
@[irreducible] def okIt (cf : Nat → List D → Res D) (gl : Nat → Option D) (c : It) (ρ : Env) (X : Nat → Prop) (P : List D → Prop) : Prop := okR (evIt cf gl c ρ) X P
@[irreducible] def okS (cf : Nat → List D → Res D) (gl : Nat → Option D) (s : S) (ρ : Env) (n : En) : Prop := okF (evS cf gl s ρ) n
@[irreducible] def okB (cf : Nat → List D → Res D) (gl : Nat → Option D) (b : B) (ρ : Env) (n : En) : Prop := okF (evB cf gl b ρ) n
/-- a truth -/
@[irreducible] def okK (d : D) (P : Bool → Prop) : Prop := ∃ k, d = .bl k ∧ P k
@[irreducible] def okT (d : D) (A B : Prop) : Prop := ∃ k, d = .bl k ∧ (k = true → A) ∧ (k = false → B)
@[irreducible] def okComp (cf : Nat → List D → Res D) (gl : Nat → Option D) (x : Nat) (c e : E) (l : List D) (ρ : Env) (P : List D → Prop) : Prop := ∃ r, compL (fun d => evE cf gl c (setV ρ x d)) (fun d => evE cf gl e (setV ρ x d)) l = .ok r ∧ P r
@[irreducible] def okFor (cf : Nat → List D → Res D) (gl : Nat → Option D) (x : Nat) (b : B) (l : List D) (ρ : Env) (n : En) : Prop := okF (forL x (fun ρ => evB cf gl b ρ) l ρ) n
@[irreducible] def okWh (cf : Nat → List D → Res D) (gl : Nat → Option D) (c : E) (b : B) (m : Nat) (ρ : Env) (n : En) : Prop := okF (whileL (fun ρ => evE cf gl c ρ) (fun ρ => evB cf gl b ρ) m ρ) n
section
variable {cf : Nat → List D → Res D} {gl : Nat → Option D} {ρ : Env} {X X' : Nat → Prop} {P P' : D → Prop} {Q Q' : List D → Prop} {n : En}
theorem okK_bl {k : Bool} {P : Bool → Prop} (h : P k) : okK (.bl k) P := by unfold okK; exact ⟨k, rfl, h⟩
theorem okT_bl {k : Bool} {A B : Prop} (h1 : k = true → A) (h2 : k = false → B) : okT (.bl k) A B := by unfold okT; exact ⟨k, rfl, h1, h2⟩
theorem okT_dec {p : Prop} [Decidable p] {A B : Prop} (h1 : p → A) (h2 : ¬ p → B) : okT (.bl (decide p)) A B := okT_bl (fun h => h1 (of_decide_eq_true h)) fun h => h2 (of_decide_eq_false h)
theorem okT_tt {A B : Prop} (h : A) : okT (.bl true) A B := okT_bl (fun _ => h) fun h => by cases h
theorem okT_ff {A B : Prop} (h : B) : okT (.bl false) A B := okT_bl (fun h => by cases h) fun _ => h
theorem okT_ct {k : Bool} {A B : Prop} (e : k = true) (h : A) : okT (.bl k) A B := okT_bl (fun _ => h) fun q => by rw [e] at q; cases q
theorem okT_cf {k : Bool} {A B : Prop} (e : k = false) (h : B) : okT (.bl k) A B := okT_bl (fun q => by rw [e] at q; cases q) fun _ => h
theorem okT_ntt {A B : Prop} (h : B) : okT (.bl (!true)) A B := okT_bl (fun h => by cases h) fun _ => h
theorem okT_nff {A B : Prop} (h : A) : okT (.bl (!false)) A B := okT_bl (fun _ => h) fun h => by cases h
theorem okK_tr {d : D} {P : Bool → Prop} (h : okK d P) : okO (truth d) P := by
  unfold okK at h
  obtain ⟨k, rfl, p⟩ := h
  exact okO_of rfl p
theorem okE_mono {c : E} (h : okE cf gl c ρ X P) (m : ∀ d, P d → P' d) (x : ∀ c, X c → X' c) : okE cf gl c ρ X' P' := by
  unfold okE at h ⊢; exact okR_mono h m x
/-- one step of an expression -/
def stE (cf : Nat → List D → Res D) (gl : Nat → Option D) (ρ : Env) (X : Nat → Prop) (P : D → Prop) : E → Prop
  | .var i => okO (getSh ρ i) P
  | .bor i => okO (getAny ρ i) P
  | .lit d => P d
  | .glob g => okO (gl g) P
  | .tup es => okEs cf gl es ρ X fun l => P (.tup l)
  | .lst es => okEs cf gl es ρ X fun l => P (.lst l)
  | .bin o a b => okE cf gl a ρ X fun x => okE cf gl b ρ X fun y => okO (opB o x y) P
  | .neg a => okE cf gl a ρ X fun x => okO (opNeg x) P
  | .lrng a => okE cf gl a ρ X fun x => okO (rng1 x) fun l => P (.lst l)
  | .revs a => okE cf gl a ρ X fun x => okO (opRev x) P
  | .prt i k => okO (getPrt ρ i k) P
  | .not a => okE cf gl a ρ X fun x => okK x fun k => P (.bl (!k))
  | .and a b => okE cf gl a ρ X fun x => okT x (okE cf gl b ρ X fun y => okK y fun k => P (.bl k)) (P (.bl false))
  | .or a b => okE cf gl a ρ X fun x => okT x (P (.bl true)) (okE cf gl b ρ X fun y => okK y fun k => P (.bl k))
  | .cmp o a b => okE cf gl a ρ X fun x => okE cf gl b ρ X fun y => okO (opC o x y) fun k => P (.bl k)
  | .chain o p a b c => okE cf gl a ρ X fun x => okE cf gl b ρ X fun y => okO (opC o x y) fun k => okT (.bl k) (okE cf gl c ρ X fun z => okO (opC p y z) fun k => P (.bl k)) (P (.bl false))
  | .isN a => okE cf gl a ρ X fun x => P (.bl (isNon x))
  | .notN a => okE cf gl a ρ X fun x => P (.bl (!isNon x))
  | .ife c a b => okE cf gl c ρ X fun x => okT x (okE cf gl a ρ X P) (okE cf gl b ρ X P)
  | .call f es => okEs cf gl es ρ X fun l => okR (cf f l) X P
  | .bf b es => okEs cf gl es ρ X fun l => okO (opF b l) P
  | .mt m a es => okE cf gl a ρ X fun x => okO (recv x) fun _ => okEs cf gl es ρ X fun l => okO (opM m x l) P
  | .ix a b => okE cf gl a ρ X fun x => okE cf gl b ρ X fun y => okO (opIx x y) P
  | .sl a lo hi => okE cf gl a ρ X fun x => okE cf gl lo ρ X fun y => okO (ixPart (isLitNon lo) y) fun l => okE cf gl hi ρ X fun z => okO (ixPart (isLitNon hi) z) fun h => okO (opSl x l h) P
  | .comp x it c e => okIt cf gl it ρ X fun l => okComp cf gl x c e l ρ fun r => P (.lst r)
def stEs (cf : Nat → List D → Res D) (gl : Nat → Option D) (ρ : Env) (X : Nat → Prop) (P : List D → Prop) : Es → Prop
  | .nil => P []
  | .cons e es => okE cf gl e ρ X fun x => okEs cf gl es ρ X fun l => P (x :: l)
def stIt (cf : Nat → List D → Res D) (gl : Nat → Option D) (ρ : Env) (X : Nat → Prop) (P : List D → Prop) : It → Prop
  | .seq a => okE cf gl a ρ X fun x => okO (itemsOf x) P
  | .rng1 a => okE cf gl a ρ X fun x => okO (rng1 x) P
  | .rng2 a b => okE cf gl a ρ X fun x => okE cf gl b ρ X fun y => okO (rng2 x y) P
  | .rev e => okE cf gl e ρ X fun x => okO (revOf x) P
  | .revr a => okE cf gl a ρ X fun x => okO (rng1 x) fun l => P l.reverse
theorem okT_if {d : D} {r1 r2 : Res D} (h : okT d (okR r1 X P) (okR r2 X P)) : okR (ofO (truth d) >>= fun k => if k then r1 else r2) X P := by
  unfold okT at h
  obtain ⟨k, rfl, h1, h2⟩ := h
  cases k with
  | true => exact h1 rfl
  | false => exact h2 rfl
theorem stepE {c : E} (h : stE cf gl ρ X P c) : okE cf gl c ρ X P := by
  unfold okE
  cases c with
  | var i => exact okR_o h
  | bor i => exact okR_o h
  | lit d => exact okR_of rfl h
  | glob g => exact okR_o h
  | tup es =>
    refine okR_bind (okR_mono (by unfold stE okEs at h; exact h) (fun l p => okR_of rfl p) fun _ h => h)
  | lst es =>
    refine okR_bind (okR_mono (by unfold stE okEs at h; exact h) (fun l p => okR_of rfl p) fun _ h => h)
  | bin o a b =>
    simp only [stE, okE] at h
    exact okR_bind (okR_mono h (fun x h => okR_bind (okR_mono h (fun y h => okR_o h) fun _ h => h)) fun _ h => h)
  | lrng a =>
    simp only [stE, okE] at h
    exact okR_bind (okR_mono h (fun x h => okR_bind (okR_o (okO_mono h fun l p => okR_of rfl p))) fun _ h => h)
  | revs a =>
    simp only [stE, okE] at h
    exact okR_bind (okR_mono h (fun x h => okR_o h) fun _ h => h)
  | prt i k => exact okR_o h
  | neg a =>
    simp only [stE, okE] at h
    exact okR_bind (okR_mono h (fun x h => okR_o h) fun _ h => h)
  | not a =>
    simp only [stE, okE] at h
    exact okR_bind (okR_mono h (fun x h => okR_bind (okR_o (okO_mono (okK_tr h) fun k p => okR_of rfl p))) fun _ h => h)
  | and a b =>
    simp only [stE, okE] at h
    refine okR_bind (okR_mono h (fun x h => ?_) fun _ h => h)
    refine okT_if ?_
    unfold okT at h ⊢
    obtain ⟨k, rfl, h1, h2⟩ := h
    exact ⟨k, rfl, fun e => okR_bind (okR_mono (h1 e) (fun y h => okR_bind (okR_o (okO_mono (okK_tr h) fun k p => okR_of rfl p))) fun _ h => h), fun e => okR_of rfl (h2 e)⟩
  | or a b =>
    simp only [stE, okE] at h
    refine okR_bind (okR_mono h (fun x h => ?_) fun _ h => h)
    refine okT_if ?_
    unfold okT at h ⊢
    obtain ⟨k, rfl, h1, h2⟩ := h
    exact ⟨k, rfl, fun e => okR_of rfl (h1 e), fun e => okR_bind (okR_mono (h2 e) (fun y h => okR_bind (okR_o (okO_mono (okK_tr h) fun k p => okR_of rfl p))) fun _ h => h)⟩
  | cmp o a b =>
    simp only [stE, okE] at h
    exact okR_bind (okR_mono h (fun x h => okR_bind (okR_mono h (fun y h => okR_bind (okR_o (okO_mono h fun k p => okR_of rfl p))) fun _ h => h)) fun _ h => h)
  | chain o p a b c =>
    simp only [stE, okE] at h
    refine okR_bind (okR_mono h (fun x h => okR_bind (okR_mono h (fun y h => okR_bind (okR_o (okO_mono h fun k p => ?_))) fun _ h => h)) fun _ h => h)
    unfold okT at p
    obtain ⟨k', e, h1, h2⟩ := p
    cases e
    cases k with
    | true => exact okR_bind (okR_mono (h1 rfl) (fun z h => okR_bind (okR_o (okO_mono h fun k p => okR_of rfl p))) fun _ h => h)
    | false => exact okR_of rfl (h2 rfl)
  | isN a =>
    simp only [stE, okE] at h
    exact okR_bind (okR_mono h (fun x h => okR_of rfl h) fun _ h => h)
  | notN a =>
    simp only [stE, okE] at h
    exact okR_bind (okR_mono h (fun x h => okR_of rfl h) fun _ h => h)
  | ife c a b =>
    simp only [stE, okE] at h
    exact okR_bind (okR_mono h (fun x h => okT_if h) fun _ h => h)
  | call f es =>
    simp only [stE, okEs] at h
    exact okR_bind h
  | bf b es =>
    simp only [stE, okEs] at h
    exact okR_bind (okR_mono h (fun x h => okR_o h) fun _ h => h)
  | mt m a es =>
    simp only [stE, okE, okEs] at h
    exact okR_bind (okR_mono h (fun x h => okR_bind (okR_o (okO_mono h fun _ h => okR_bind (okR_mono h (fun x h => okR_o h) fun _ h => h)))) fun _ h => h)
  | ix a b =>
    simp only [stE, okE] at h
    exact okR_bind (okR_mono h (fun x h => okR_bind (okR_mono h (fun y h => okR_o h) fun _ h => h)) fun _ h => h)
  | sl a lo hi =>
    simp only [stE, okE] at h
    exact okR_bind (okR_mono h (fun x h => okR_bind (okR_mono h (fun y h => okR_bind (okR_o (okO_mono h fun l h => okR_bind (okR_mono h (fun z h => okR_bind (okR_o (okO_mono h fun hh h => okR_o h))) fun _ h => h)))) fun _ h => h)) fun _ h => h)
  | comp x it c e =>
    simp only [stE, okIt] at h
    refine okR_bind (okR_mono h (fun l h => ?_) fun _ h => h)
    unfold okComp at h
    obtain ⟨r, e, p⟩ := h
    refine okR_bind (okR_of (a := r) ?_ (okR_of rfl p))
    rw [e]; rfl
theorem stepEs {c : Es} (h : stEs cf gl ρ X Q c) : okEs cf gl c ρ X Q := by
  unfold okEs
  cases c with
  | nil => exact okR_of rfl h
  | cons e es =>
    simp only [stEs, okE, okEs] at h
    exact okR_bind (okR_mono h (fun x h => okR_bind (okR_mono h (fun l h => okR_of rfl h) fun _ h => h)) fun _ h => h)
theorem stepIt {c : It} (h : stIt cf gl ρ X Q c) : okIt cf gl c ρ X Q := by
  unfold okIt
  cases c with
  | seq a =>
    simp only [stIt, okE] at h
    exact okR_bind (okR_mono h (fun x h => okR_o h) fun _ h => h)
  | rng1 a =>
    simp only [stIt, okE] at h
    exact okR_bind (okR_mono h (fun x h => okR_o h) fun _ h => h)
  | rev e =>
    simp only [stIt, okE] at h
    exact okR_bind (okR_mono h (fun x h => okR_o h) fun _ h => h)
  | revr a =>
    simp only [stIt, okE] at h
    exact okR_bind (okR_mono h (fun x h => okR_bind (okR_o (okO_mono h fun l p => okR_of rfl p))) fun _ h => h)
  | rng2 a b =>
    simp only [stIt, okE] at h
    exact okR_bind (okR_mono h (fun x h => okR_bind (okR_mono h (fun y h => okR_o h) fun _ h => h)) fun _ h => h)
/-- one step of a statement -/
def stH (ρ : Env) (n : En) : Hd → Prop
  | .set i d => n.nx (setV ρ i d)
  | .ret d => n.rt d
  | .pass => n.nx ρ
/-- what becomes of a call's answer -/
def stK (ρ : Env) (n : En) (ps : List D) (r : D) : Km → Prop
  | .drop => n.nx ρ
  | .asg x => n.nx (setV ρ x r)
  | .asgT x _ => n.nx (setV ρ x (.tup (ps ++ [r])))
  | .ret l => okO (handO l r ρ) n.rt
  | .retT l _ => okO (handO l (.tup (ps ++ [r])) ρ) n.rt
  | .app i => okO (getOwn ρ i) fun xs => okO (appL xs r) fun ys => n.nx (setOwn ρ i ys)
  | .ext i => okO (getOwn ρ i) fun xs => okO (seqOf r) fun ys => okO (extL xs ys) fun zs => n.nx (setOwn ρ i zs)
theorem okF_K {k : Km} {ps : List D} {r : D} (h : stK ρ n ps r k) : okF (konK k ps r ρ) n := by
  cases k with
  | drop => exact okF_nx h
  | asg x => exact okF_nx h
  | asgT x p => exact okF_nx h
  | ret l => exact okF_o (okO_mono h fun _ h => okF_rt h)
  | retT l p => exact okF_o (okO_mono h fun _ h => okF_rt h)
  | app i => exact okF_o (okO_mono h fun _ h => okF_o (okO_mono h fun _ h => okF_nx h))
  | ext i => exact okF_o (okO_mono h fun _ h => okF_o (okO_mono h fun _ h => okF_o (okO_mono h fun _ h => okF_nx h)))
def stS (cf : Nat → List D → Res D) (gl : Nat → Option D) (ρ : Env) (n : En) : S → Prop
  | .pass => n.nx ρ
  | .expr e => okE cf gl e ρ (fun c => n.xc c ρ) fun _ => n.nx ρ
  | .assign i e => okE cf gl e ρ (fun c => n.xc c ρ) fun d => n.nx (setV ρ i d)
  | .assignF i e => okE cf gl e ρ (fun c => n.xc c ρ) fun d => okO (listOf d) fun xs => n.nx (setOwn ρ i xs)
  | .append i e => okO (getOwn ρ i) fun xs => okE cf gl e ρ (fun c => n.xc c ρ) fun d => okO (appL xs d) fun ys => n.nx (setOwn ρ i ys)
  | .extend i e => okO (getOwn ρ i) fun xs => okE cf gl e ρ (fun c => n.xc c ρ) fun d => okO (seqOf d) fun ys => okO (extL xs ys) fun zs => n.nx (setOwn ρ i zs)
  | .setIx i k e => okO (getOwn ρ i) fun xs => okE cf gl e ρ (fun c => n.xc c ρ) fun d => okE cf gl k ρ (fun c => n.xc c ρ) fun j => okO (setL xs j d) fun ys => n.nx (setOwn ρ i ys)
  | .ife c a b => okE cf gl c ρ (fun c => n.xc c ρ) fun x => okT x (okB cf gl a ρ n) (okB cf gl b ρ n)
  | .for_ x it b => okIt cf gl it ρ (fun c => n.xc c ρ) fun l => okFor cf gl x b l ρ n
  | .whil c b => okWh cf gl c b turns ρ n
  | .ret e => okE cf gl e ρ (fun c => n.xc c ρ) n.rt
  | .retF e => okE cf gl e ρ (fun c => n.xc c ρ) n.rt
  | .retOwn i => okO (getOwn ρ i) fun xs => n.rt (.lst xs)
  | .retN => n.rt .non
  | .brk => n.bk ρ
  | .cont => n.ct ρ
  | .raise c => n.xc c ρ
  | .unpack is e => okE cf gl e ρ (fun c => n.xc c ρ) fun d => okO (tupN is.length d) fun ds => n.nx (setVs is ds ρ)
  | .pop x i => okO (getOwn ρ i) fun xs => okO (popL xs) fun p => n.nx (setV (setOwn ρ i p.1) x p.2)
  | .popU is i => okO (getOwn ρ i) fun xs => okO (popL xs) fun p => okO (tupN is.length p.2) fun ds => n.nx (setVs is ds (setOwn ρ i p.1))
  | .retP i es => okO (getOwn ρ i) fun xs => okEs cf gl es ρ (fun c => n.xc c ρ) fun ds => n.rt (.lst (.lst xs :: ds))
  | .try_ b yes no _ h => okB cf gl b ρ (n.wx fun x ρ' => (yes.contains x = true ∧ stH ρ' n h) ∨ (yes.contains x = false ∧ no.contains x = true ∧ n.xc x ρ'))
  | .retM l e => okE cf gl e ρ (fun c => n.xc c ρ) fun d => okO (handM l d ρ) n.rt
  | .retMN l => okO (handM l .non ρ) n.rt
  | .callM k f es ms => okO (konP k ρ) fun _ => okEs cf gl k.pre ρ (fun c => n.xc c ρ) fun ps => okO (ownsAt ms ρ) fun _ => okEs cf gl es ρ (fun c => n.xc c ρ) fun l => okR (cf f l) (fun c => n.xc c ρ) fun d => okO (mutRes ms.length d) fun p => stK (setOwns ms p.2 ρ) n ps p.1 k
def stB (cf : Nat → List D → Res D) (gl : Nat → Option D) (ρ : Env) (n : En) : B → Prop
  | .nil => n.nx ρ
  | .cons s b => okS cf gl s ρ (n.wn fun ρ' => okB cf gl b ρ' n)
  | .freeze i b => okO (getOwn ρ i) fun xs => okB cf gl b (setV ρ i (.lst xs)) n
  | .pair i j f es b => okEs cf gl es ρ (fun c => n.xc c ρ) fun l => okR (cf f l) (fun c => n.xc c ρ) fun d => okO (if i < ρ.length then pairOf d else none) fun p => okB cf gl b (setPrt (setOwn ρ j p.1) i p.2) n
theorem okF_mono {r : Res Flow} {n m : En} (h : okF r n) (h1 : ∀ ρ, n.nx ρ → m.nx ρ) (h2 : ∀ d, n.rt d → m.rt d) (h3 : ∀ ρ, n.bk ρ → m.bk ρ) (h4 : ∀ ρ, n.ct ρ → m.ct ρ) (h5 : ∀ c ρ, n.xc c ρ → m.xc c ρ) : okF r m := by
  unfold okF at h ⊢
  split at h
  · exact h1 _ h
  · exact h2 _ h
  · exact h3 _ h
  · exact h4 _ h
  · exact h5 _ _ h
  · exact h
  · exact h
theorem stepS {s : S} (h : stS cf gl ρ n s) : okS cf gl s ρ n := by
  unfold okS
  cases s with
  | pass => exact okF_nx h
  | expr e =>
    simp only [stS, okE] at h
    exact okF_withE (okR_mono h (fun x h => okF_nx h) fun _ h => h)
  | assign i e =>
    simp only [stS, okE] at h
    exact okF_withE (okR_mono h (fun x h => okF_nx h) fun _ h => h)
  | assignF i e =>
    simp only [stS, okE] at h
    exact okF_withE (okR_mono h (fun x h => okF_o (okO_mono h fun _ h => okF_nx h)) fun _ h => h)
  | append i e =>
    simp only [stS, okE] at h
    exact okF_o (okO_mono h fun _ h => okF_withE (okR_mono h (fun x h => okF_o (okO_mono h fun _ h => okF_nx h)) fun _ h => h))
  | extend i e =>
    simp only [stS, okE] at h
    exact okF_o (okO_mono h fun _ h => okF_withE (okR_mono h (fun x h => okF_o (okO_mono h fun _ h => okF_o (okO_mono h fun _ h => okF_nx h))) fun _ h => h))
  | setIx i k e =>
    simp only [stS, okE] at h
    exact okF_o (okO_mono h fun _ h => okF_withE (okR_mono h (fun x h => okF_withE (okR_mono h (fun x h => okF_o (okO_mono h fun _ h => okF_nx h)) fun _ h => h)) fun _ h => h))
  | ife c a b =>
    simp only [stS, okE, okB] at h
    refine okF_withE (okR_mono h (fun x h => ?_) fun _ h => h)
    unfold okT at h
    obtain ⟨k, rfl, h1, h2⟩ := h
    cases k with
    | true => exact h1 rfl
    | false => exact h2 rfl
  | for_ x it b =>
    simp only [stS, okIt, okFor] at h
    exact okF_withE h
  | whil c b =>
    simp only [stS, okWh] at h
    exact h
  | ret e =>
    simp only [stS, okE] at h
    exact okF_withE (okR_mono h (fun x h => okF_rt h) fun _ h => h)
  | retF e =>
    simp only [stS, okE] at h
    exact okF_withE (okR_mono h (fun x h => okF_rt h) fun _ h => h)
  | retOwn i => exact okF_o (okO_mono h fun _ h => okF_rt h)
  | retN => exact okF_rt h
  | retM l e =>
    simp only [stS, okE] at h
    exact okF_withE (okR_mono h (fun x h => okF_o (okO_mono h fun _ h => okF_rt h)) fun _ h => h)
  | retMN l => exact okF_o (okO_mono h fun _ h => okF_rt h)
  | callM k f es ms =>
    simp only [stS, okEs] at h
    exact okF_o (okO_mono h fun _ h => okF_withE (okR_mono h (fun ps h => okF_o (okO_mono h fun _ h => okF_withE (okR_bind (okR_mono h (fun l h => okR_mono h (fun d h => okF_o (okO_mono h fun p h => okF_K h)) fun _ h => h) fun _ h => h)))) fun _ h => h))
  | brk => unfold okF; exact h
  | cont => unfold okF; exact h
  | raise c => unfold okF; exact h
  | unpack is e =>
    simp only [stS, okE] at h
    exact okF_withE (okR_mono h (fun x h => okF_o (okO_mono h fun _ h => okF_nx h)) fun _ h => h)
  | pop x i => exact okF_o (okO_mono h fun _ h => okF_o (okO_mono h fun _ h => okF_nx h))
  | popU is i => exact okF_o (okO_mono h fun _ h => okF_o (okO_mono h fun _ h => okF_o (okO_mono h fun _ h => okF_nx h)))
  | retP i es =>
    simp only [stS, okEs] at h
    exact okF_o (okO_mono h fun _ h => okF_withE (okR_mono h (fun x h => okF_rt h) fun _ h => h))
  | try_ b yes no c h' =>
    simp only [stS, okB] at h
    show okF (evB cf gl b ρ >>= fun fl => match fl with
      | .exc x ρ' => if yes.contains x then .ok (evH h' ρ') else if no.contains x then .ok (.exc x ρ') else .fail
      | f => .ok f) n
    cases q : evB cf gl b ρ with
    | exc c => rw [q] at h; unfold okF at h; exact h.elim
    | fail => rw [q] at h; unfold okF at h; exact h.elim
    | ok fl =>
      rw [q] at h
      cases fl with
      | exc x ρ' =>
        have h : (yes.contains x = true ∧ stH ρ' n h') ∨ (yes.contains x = false ∧ no.contains x = true ∧ n.xc x ρ') := by
          unfold okF at h
          exact h
        show okF (if yes.contains x then .ok (evH h' ρ') else if no.contains x then .ok (.exc x ρ') else .fail) n
        rcases h with ⟨h1, h2⟩ | ⟨h1, h2, h3⟩
        · rw [if_pos h1]
          unfold okF
          cases h' <;> exact h2
        · rw [if_neg (by rw [h1]; decide), if_pos h2]
          unfold okF
          exact h3
      | nx _ => unfold okF at h ⊢; exact h
      | ret _ => unfold okF at h ⊢; exact h
      | brk _ => unfold okF at h ⊢; exact h
      | cont _ => unfold okF at h ⊢; exact h
theorem stepB {b : B} (h : stB cf gl ρ n b) : okB cf gl b ρ n := by
  unfold okB
  cases b with
  | nil => exact okF_nx h
  | cons s b =>
    simp only [stB, okS, okB] at h
    show okF (evS cf gl s ρ >>= fun fl => match fl with
      | .nx ρ' => evB cf gl b ρ'
      | f => .ok f) n
    cases q : evS cf gl s ρ with
    | exc c => rw [q] at h; unfold okF at h; exact h.elim
    | fail => rw [q] at h; unfold okF at h; exact h.elim
    | ok fl =>
      rw [q] at h
      cases fl with
      | nx ρ' => exact okF_nx' h
      | exc _ _ => unfold okF at h ⊢; exact h
      | ret _ => unfold okF at h ⊢; exact h
      | brk _ => unfold okF at h ⊢; exact h
      | cont _ => unfold okF at h ⊢; exact h
  | freeze i b =>
    simp only [stB, okB] at h
    exact okF_o h
  | pair i j f es b =>
    simp only [stB, okEs, okB] at h
    exact okF_withE (okR_bind (okR_mono h (fun l h => okR_mono h (fun d h => okF_o h) fun _ h => h) fun _ h => h))
/-! ### loops -/
theorem okFor_nil {x : Nat} {b : B} (h : n.nx ρ) : okFor cf gl x b [] ρ n := by unfold okFor; exact okF_nx h
theorem okFor_cons {x : Nat} {b : B} {d : D} {ds : List D} (h : okB cf gl b (setV ρ x d) (n.wl (fun ρ' => okFor cf gl x b ds ρ' n) n.nx)) : okFor cf gl x b (d :: ds) ρ n := by
  unfold okFor
  unfold okB at h
  show okF (evB cf gl b (setV ρ x d) >>= fun fl => match fl with
    | .nx ρ' => forL x (fun ρ => evB cf gl b ρ) ds ρ'
    | .cont ρ' => forL x (fun ρ => evB cf gl b ρ) ds ρ'
    | .brk ρ' => .ok (.nx ρ')
    | .ret d => .ok (.ret d)
    | .exc c ρ' => .ok (.exc c ρ')) n
  cases q : evB cf gl b (setV ρ x d) with
  | exc c => rw [q] at h; unfold okF at h; exact h.elim
  | fail => rw [q] at h; unfold okF at h; exact h.elim
  | ok fl =>
    rw [q] at h
    cases fl with
    | nx ρ' =>
      have h := okF_nx' h
      unfold okFor at h
      exact h
    | cont ρ' =>
      have h := okF_ct' h
      unfold okFor at h
      exact h
    | exc _ _ => unfold okF at h ⊢; exact h
    | ret _ => unfold okF at h ⊢; exact h
    | brk _ => unfold okF at h ⊢; exact h
theorem okB_mono {b : B} {n m : En} (h : okB cf gl b ρ n) (h1 : ∀ ρ, n.nx ρ → m.nx ρ) (h2 : ∀ d, n.rt d → m.rt d) (h3 : ∀ ρ, n.bk ρ → m.bk ρ) (h4 : ∀ ρ, n.ct ρ → m.ct ρ) (h5 : ∀ c ρ, n.xc c ρ → m.xc c ρ) : okB cf gl b ρ m := by
  unfold okB at h ⊢
  exact okF_mono h h1 h2 h3 h4 h5
/-- a loop over items: I of the items that are left -/
theorem okFor_ind {x : Nat} {b : B} (I : List D → Env → Prop) (hs : ∀ d ds ρ, I (d :: ds) ρ → okB cf gl b (setV ρ x d) (n.wl (I ds) n.nx)) (he : ∀ ρ, I [] ρ → n.nx ρ) : ∀ {l : List D} {ρ : Env}, I l ρ → okFor cf gl x b l ρ n
  | [], ρ, h => okFor_nil (he ρ h)
  | d :: ds, ρ, h => okFor_cons (okB_mono (hs d ds ρ h) (fun _ h => okFor_ind I hs he h) (fun _ h => h) (fun _ h => h) (fun _ h => okFor_ind I hs he h) fun _ _ h => h)
/-- .. of how many are done -/
theorem okFor_at {x : Nat} {b : B} {l : List D} (I : Nat → Env → Prop) (h0 : I 0 ρ) (hs : ∀ k d ρ, l[k]? = some d → I k ρ → okB cf gl b (setV ρ x d) (n.wl (I (k + 1)) n.nx)) (he : ∀ ρ, I l.length ρ → n.nx ρ) : okFor cf gl x b l ρ n := by
  refine okFor_ind (I := fun ds ρ => ∃ k, k ≤ l.length ∧ ds = l.drop k ∧ I k ρ) (fun d ds ρ ⟨k, hk, e, i⟩ => ?_) (fun ρ ⟨k, hk, e, i⟩ => ?_) ⟨0, Nat.zero_le _, by simp, h0⟩
  · have hlt : k < l.length := by
      by_cases q : k < l.length
      · exact q
      · rw [List.drop_eq_nil_of_le (by omega)] at e; cases e
    rw [List.drop_eq_getElem_cons hlt] at e
    cases e
    exact okB_mono (hs k _ ρ (by simp [hlt]) i) (fun _ h => ⟨k + 1, hlt, rfl, h⟩) (fun _ h => h) (fun _ h => h) (fun _ h => ⟨k + 1, hlt, rfl, h⟩) fun _ _ h => h
  · have : k = l.length := by
      have := congrArg List.length e
      simp at this
      omega
    subst this
    exact he ρ i
/-! ### comprehensions -/
theorem okComp_nil {x : Nat} {c e : E} (h : Q []) : okComp cf gl x c e [] ρ Q := by unfold okComp; exact ⟨[], rfl, h⟩
theorem okComp_cons {x : Nat} {c e : E} {d : D} {ds : List D} (h : okE cf gl c (setV ρ x d) (fun _ => False) fun t => okT t (okE cf gl e (setV ρ x d) (fun _ => False) fun y => okComp cf gl x c e ds ρ fun r => Q (y :: r)) (okComp cf gl x c e ds ρ Q)) : okComp cf gl x c e (d :: ds) ρ Q := by
  unfold okE at h
  obtain ⟨t, e1, h⟩ := okR_ex h
  unfold okT at h
  obtain ⟨k, rfl, h1, h2⟩ := h
  unfold okComp
  cases k with
  | true =>
    obtain ⟨y, e2, h⟩ := okR_ex (h1 rfl)
    unfold okComp at h
    obtain ⟨r, e3, p⟩ := h
    refine ⟨y :: r, ?_, p⟩
    show (evE cf gl c (setV ρ x d) >>= fun c' => (ofO (truth c')) >>= fun b => if b then (evE cf gl e (setV ρ x d)) >>= fun y => (compL (fun d => evE cf gl c (setV ρ x d)) (fun d => evE cf gl e (setV ρ x d)) ds) >>= fun ys => .ok (y :: ys) else compL (fun d => evE cf gl c (setV ρ x d)) (fun d => evE cf gl e (setV ρ x d)) ds) = _
    rw [e1]
    show (evE cf gl e (setV ρ x d)) >>= (fun y => (compL (fun d => evE cf gl c (setV ρ x d)) (fun d => evE cf gl e (setV ρ x d)) ds) >>= fun ys => .ok (y :: ys)) = _
    rw [e2, res_bind_ok, e3]
    rfl
  | false =>
    have h := h2 rfl
    unfold okComp at h
    obtain ⟨r, e3, p⟩ := h
    refine ⟨r, ?_, p⟩
    show (evE cf gl c (setV ρ x d) >>= fun c' => (ofO (truth c')) >>= fun b => if b then (evE cf gl e (setV ρ x d)) >>= fun y => (compL (fun d => evE cf gl c (setV ρ x d)) (fun d => evE cf gl e (setV ρ x d)) ds) >>= fun ys => .ok (y :: ys) else compL (fun d => evE cf gl c (setV ρ x d)) (fun d => evE cf gl e (setV ρ x d)) ds) = _
    rw [e1]
    exact e3
/-- with no if: each item's answer, by P -/
theorem okComp_each {x : Nat} {e : E} {α β : Type} (dec : α → D) (enc : β → D) (p : α → β → Prop) {Q : List D → Prop} : ∀ {l : List α}, (∀ a ∈ l, okE cf gl e (setV ρ x (dec a)) (fun _ => False) fun y => ∃ b, y = enc b ∧ p a b) →
    (∀ r : List β, r.length = l.length → (∀ (i : Nat) (a : α) (b : β), l[i]? = some a → r[i]? = some b → p a b) → Q (r.map enc)) → okComp cf gl x (.lit (.bl true)) e (l.map dec) ρ Q
  | [], _, q => okComp_nil (by simpa using q [] rfl (fun i a b h => by simp at h))
  | a :: l, h, q => by
    refine okComp_cons (stepE (okT_bl (fun _ => okE_mono (h a (List.mem_cons_self ..)) (fun y ⟨b, e, pb⟩ => ?_) fun _ h => h) fun h => by cases h))
    subst e
    refine okComp_each dec enc p (Q := fun r => Q (enc b :: r)) (fun a' ha => h a' (List.mem_cons_of_mem _ ha)) fun r hr hp => ?_
    refine q (b :: r) (by simp [hr]) fun i a' b' h1 h2 => ?_
    cases i with
    | zero =>
      simp at h1 h2
      subst h1; subst h2; exact pb
    | succ i => exact hp i a' b' (by simpa using h1) (by simpa using h2)
theorem okComp_map {x : Nat} {e : E} {α : Type} (dec : α → D) (f : α → D) {Q : List D → Prop} {l : List α} (h : ∀ a ∈ l, okE cf gl e (setV ρ x (dec a)) (fun _ => False) fun y => y = f a) (q : Q (l.map f)) : okComp cf gl x (.lit (.bl true)) e (l.map dec) ρ Q := by
  induction l generalizing Q with
  | nil => exact okComp_nil q
  | cons a l ih =>
    refine okComp_cons (stepE (okT_bl (fun _ => okE_mono (h a (List.mem_cons_self ..)) (fun y e => ?_) fun _ h => h) fun h => by cases h))
    subst e
    exact ih (fun a' ha => h a' (List.mem_cons_of_mem _ ha)) q
/-- with an if -/
theorem okComp_filter {x : Nat} {c e : E} {α : Type} (dec : α → D) (t : α → Bool) (f : α → D) {Q : List D → Prop} {l : List α} (h : ∀ a ∈ l, okE cf gl c (setV ρ x (dec a)) (fun _ => False) fun y => y = .bl (t a))
    (h2 : ∀ a ∈ l, t a = true → okE cf gl e (setV ρ x (dec a)) (fun _ => False) fun y => y = f a) (q : Q ((l.filter t).map f)) : okComp cf gl x c e (l.map dec) ρ Q := by
  induction l generalizing Q with
  | nil => exact okComp_nil q
  | cons a l ih =>
    refine okComp_cons (okE_mono (h a (List.mem_cons_self ..)) (fun y e => ?_) fun _ h => h)
    subst e
    refine okT_bl (fun k => okE_mono (h2 a (List.mem_cons_self ..) k) (fun y e => ?_) fun _ h => h) fun k => ?_
    · subst e
      refine ih (fun a' ha => h a' (List.mem_cons_of_mem _ ha)) (fun a' ha => h2 a' (List.mem_cons_of_mem _ ha)) ?_
      rw [List.filter_cons_of_pos k] at q
      exact q
    · refine ih (fun a' ha => h a' (List.mem_cons_of_mem _ ha)) (fun a' ha => h2 a' (List.mem_cons_of_mem _ ha)) ?_
      rw [List.filter_cons_of_neg (by simp [k])] at q
      exact q
end
/-! ### calls -/
section
variable {T : Nat → Option FD} {gl : Nat → Option D} {X : Nat → Prop} {P : D → Prop}
theorem okR_call {n k i : Nat} {fd : FD} [Fn T i fd] {ds : List D} (hn : k + 1 ≤ n) (hl : ds.length = fd.ps.length) (h : ∀ m, k ≤ m → okB (callF T gl m) gl fd.body (fd.start ds) (.fn P X)) (hc : fd.own.still = true := by rfl) : okR (callF T gl n i ds) X P := by
  obtain ⟨m, rfl⟩ : ∃ m, n = m + 1 := ⟨n - 1, by omega⟩
  have h := h m (by omega)
  rw [call_eq]
  unfold FD.run
  rw [if_pos hl]
  unfold okB at h
  cases q : evB (callF T gl m) gl fd.body (fd.start ds) with
  | exc c => rw [q] at h; unfold okF at h; exact h.elim
  | fail => rw [q] at h; unfold okF at h; exact h.elim
  | ok fl =>
    rw [q] at h
    unfold okF at h
    unfold okR
    cases z : fd.own with
    | chg l => rw [z] at hc; cases hc
    | no => cases fl <;> first | exact h | exact h.elim
    | own => cases fl <;> first | exact h | exact h.elim
    | prt => cases fl <;> first | exact h | exact h.elim
theorem okR_callM {n k i : Nat} {fd : FD} [Fn T i fd] {ds : List D} {l : List Nat} (hn : k + 1 ≤ n) (hl : ds.length = fd.ps.length) (h : ∀ m, k ≤ m → okB (callF T gl m) gl fd.body (fd.start ds) (.fm l P)) (hc : fd.own = .chg l := by rfl) : okR (callF T gl n i ds) X P := by
  obtain ⟨m, rfl⟩ : ∃ m, n = m + 1 := ⟨n - 1, by omega⟩
  have h := h m (by omega)
  rw [call_eq]
  unfold FD.run
  rw [if_pos hl]
  unfold okB at h
  cases q : evB (callF T gl m) gl fd.body (fd.start ds) with
  | exc c => rw [q] at h; unfold okF at h; exact h.elim
  | fail => rw [q] at h; unfold okF at h; exact h.elim
  | ok fl =>
    rw [q] at h
    unfold okF at h
    unfold okR
    rw [hc]
    cases fl with
    | nx ρ =>
      obtain ⟨a, e, p⟩ := okO_ex (show okO (handM l .non ρ) P from h)
      have e2 : ofO (handM l .non ρ) = .ok a := by rw [e]; rfl
      simp only [noExc, res_bind_ok, e2]
      exact p
    | ret d => exact h
    | brk _ => exact h.elim
    | cont _ => exact h.elim
    | exc _ _ => exact h.elim
theorem eq_of_okR {r : Res D} {d : D} (h : okR r (fun _ => False) fun y => y = d) : r = .ok d := by
  obtain ⟨a, e, rfl⟩ := okR_ex h
  exact e
end
/-! ### operations -/
section
variable {P : D → Prop} {PB : Bool → Prop} {i j : Int} {s t : List Nat} {xs ys : List D}
theorem o_mod (h : 0 < j) (p : P (.int (i % j))) : okO (opB .mod (.int i) (.int j)) P := okO_of (if_pos h) p
theorem o_fdiv (h : 0 < j) (h2 : j < 1073741824) (p : P (.int (i / j))) : okO (opB .fdiv (.int i) (.int j)) P := okO_of (if_pos ⟨h, h2⟩) p
theorem o_mul (h : i.natAbs < 2 ^ 64 ∨ j.natAbs < 2 ^ 64) (p : P (.int (i * j))) : okO (opB .mul (.int i) (.int j)) P := okO_of (if_pos h) p
theorem o_addi (p : P (.int (i + j))) : okO (opB .add (.int i) (.int j)) P := okO_of rfl p
theorem o_subi (p : P (.int (i - j))) : okO (opB .sub (.int i) (.int j)) P := okO_of rfl p
theorem o_adds (h : s.length + t.length ≤ line) (p : P (.str (s ++ t))) : okO (opB .add (.str s) (.str t)) P := okO_of (if_pos h) p
theorem o_addl (h : xs.length + ys.length ≤ line) (p : P (.lst (xs ++ ys))) : okO (opB .add (.lst xs) (.lst ys)) P := okO_of (if_pos h) p
theorem o_addt (h : xs.length + ys.length ≤ line) (p : P (.tup (xs ++ ys))) : okO (opB .add (.tup xs) (.tup ys)) P := okO_of (if_pos h) p
theorem o_isB {b : Bool} (p : P (.bl true)) : okO (opF .isBool [.bl b]) P := okO_of rfl p
theorem o_isBi (p : P (.bl false)) : okO (opF .isBool [.int i]) P := okO_of rfl p
theorem o_isI (p : P (.bl true)) : okO (opF .isInt [.int i]) P := okO_of rfl p
theorem o_isS (p : P (.bl true)) : okO (opF .isStr [.str s]) P := okO_of rfl p
theorem o_app {d : D} {Q : List D → Prop} (h : xs.length < line) (p : Q (xs ++ [d])) : okO (appL xs d) Q := okO_of (if_pos h) p
theorem o_ext {Q : List D → Prop} (h : xs.length + ys.length ≤ line) (p : Q (xs ++ ys)) : okO (extL xs ys) Q := okO_of (if_pos h) p
theorem o_rng1 {Q : List D → Prop} (h1 : -(line : Int) ≤ j) (h2 : j ≤ line) (p : Q (rng 0 j.toNat)) : okO (rng1 (.int j)) Q := okO_of (if_pos ⟨h1, h2⟩) p
theorem o_rng2 {Q : List D → Prop} (h1 : -(line : Int) ≤ i) (h2 : i ≤ line) (h3 : -(line : Int) ≤ j) (h4 : j ≤ line) (h5 : j - i ≤ line) (p : Q (rng i (j - i).toNat)) : okO (rng2 (.int i) (.int j)) Q := okO_of (if_pos ⟨h1, h2, h3, h4, h5⟩) p
theorem o_eqs (p : PB (s == t)) : okO (opC .eq (.str s) (.str t)) PB := okO_of rfl p
theorem o_nes (p : PB (!(s == t))) : okO (opC .ne (.str s) (.str t)) PB := okO_of rfl p
theorem o_eqi (p : PB (decide (i = j))) : okO (opC .eq (.int i) (.int j)) PB := okO_of rfl p
theorem o_nei (p : PB (decide (i ≠ j))) : okO (opC .ne (.int i) (.int j)) PB := okO_of (show some (!(i == j)) = _ by
  by_cases h : i = j <;> simp [h]) p
theorem o_inls (p : PB (isIn (.str s) xs)) : okO (opC .isin (.str s) (.lst xs)) PB := okO_of rfl p
theorem o_ints (p : PB (isIn (.str s) xs)) : okO (opC .isin (.str s) (.tup xs)) PB := okO_of rfl p
theorem o_ninls (p : PB (!isIn (.str s) xs)) : okO (opC .notin (.str s) (.lst xs)) PB := okO_of rfl p
theorem o_nints (p : PB (!isIn (.str s) xs)) : okO (opC .notin (.str s) (.tup xs)) PB := okO_of rfl p
theorem o_inti (p : PB (isIn (.int i) xs)) : okO (opC .isin (.int i) (.tup xs)) PB := okO_of rfl p
theorem o_ninti (p : PB (!isIn (.int i) xs)) : okO (opC .notin (.int i) (.tup xs)) PB := okO_of rfl p
theorem isIn_nil (x : D) : isIn x [] = false := rfl
theorem isIn_cons (x y : D) (ys : List D) : isIn x (y :: ys) = (D.eqv y x || isIn x ys) := rfl
theorem eqv_str (s t : List Nat) : D.eqv (.str s) (.str t) = (s == t) := by simp [D.eqv]
theorem eqv_int (s t : Int) : D.eqv (.int s) (.int t) = (s == t) := by simp [D.eqv]
theorem eqv_tup (xs ys : List D) : D.eqv (.tup xs) (.tup ys) = D.eqvL xs ys := by simp [D.eqv]
theorem eqv_nil : D.eqvL [] [] = true := by simp [D.eqvL]
theorem eqv_cons (x y : D) (xs ys : List D) : D.eqvL (x :: xs) (y :: ys) = (D.eqv x y && D.eqvL xs ys) := by simp [D.eqvL]
mutual
theorem eqv_comm : ∀ a b : D, D.eqv a b = D.eqv b a
  | .non, b => by cases b <;> simp [D.eqv]
  | .bl x, b => by cases b <;> simp [D.eqv, Bool.beq_comm, eq_comm, BEq.comm]
  | .int x, b => by cases b <;> simp [D.eqv, BEq.comm]
  | .str x, b => by cases b <;> simp [D.eqv, BEq.comm]
  | .tup xs, b => by cases b <;> simp [D.eqv, eqvL_comm xs]
  | .lst xs, b => by cases b <;> simp [D.eqv, eqvL_comm xs]
theorem eqvL_comm : ∀ xs ys : List D, D.eqvL xs ys = D.eqvL ys xs
  | [], [] => rfl
  | [], _ :: _ => by simp [D.eqvL]
  | _ :: _, [] => by simp [D.eqvL]
  | x :: xs, y :: ys => by simp [D.eqvL, eqv_comm x y, eqvL_comm xs ys]
end
theorem isIn_cons' (x y : D) (ys : List D) : isIn x (y :: ys) = (D.eqv x y || isIn x ys) := by rw [isIn_cons, eqv_comm]
mutual
theorem eqv_refl : ∀ d : D, D.eqv d d = true
  | .non => by simp [D.eqv]
  | .bl b => by simp [D.eqv]
  | .int i => by simp [D.eqv]
  | .str s => by simp [D.eqv]
  | .tup xs => by simp [D.eqv, eqvL_refl xs]
  | .lst xs => by simp [D.eqv, eqvL_refl xs]
theorem eqvL_refl : ∀ ds : List D, D.eqvL ds ds = true
  | [] => by simp [D.eqvL]
  | d :: ds => by simp [D.eqvL, eqv_refl d, eqvL_refl ds]
end
theorem o_ins {c : Nat} (p : PB (t.contains c)) : okO (opC .isin (.str [c]) (.str t)) PB := okO_of rfl p
theorem o_nins {c : Nat} (p : PB (!t.contains c)) : okO (opC .notin (.str [c]) (.str t)) PB := okO_of rfl p
theorem ixN_nat {n k : Nat} (h : k < n) : ixN n (k : Int) = some k := by
  unfold ixN L2.ixN
  simp
  omega
theorem ixN_last {n : Nat} (h : 0 < n) : ixN n (-1) = some (n - 1) := by
  unfold ixN L2.ixN
  simp
  omega
theorem o_ixl {k : Nat} {d : D} (h : xs[k]? = some d) (p : P d) : okO (opIx (.lst xs) (.int (k : Int))) P := okO_of (by
  unfold opIx
  simp only
  rw [ixN_nat (List.getElem?_eq_some_iff.mp h).1]
  exact h) p
theorem o_ixt {k : Nat} {d : D} (h : xs[k]? = some d) (p : P d) : okO (opIx (.tup xs) (.int (k : Int))) P := okO_of (by
  unfold opIx
  simp only
  rw [ixN_nat (List.getElem?_eq_some_iff.mp h).1]
  exact h) p
theorem o_ixs {k : Nat} {c : Nat} (h : s[k]? = some c) (p : P (.str [c])) : okO (opIx (.str s) (.int (k : Int))) P := okO_of (by
  unfold opIx
  simp only
  rw [ixN_nat (List.getElem?_eq_some_iff.mp h).1]
  simp [h]) p
theorem ixN_int {n : Nat} (h0 : 0 ≤ i) (h1 : i < n) : ixN n i = some i.toNat := by
  have e : i = ((i.toNat : Nat) : Int) := by omega
  rw [e]
  exact ixN_nat (by omega)
/-- an item of a list of encoded things -/
theorem o_ixl' (h0 : 0 ≤ i) (h1 : i < xs.length) (p : ∀ d, xs[i.toNat]? = some d → P d) : okO (opIx (.lst xs) (.int i)) P := by
  have hl : i.toNat < xs.length := by omega
  refine okO_of (a := xs[i.toNat]) ?_ (p _ (by simp [hl]))
  show ((ixN xs.length i).bind fun j => xs[j]?) = _
  rw [ixN_int h0 h1]
  simp [hl]
theorem o_sls {l h : Option Int} (p : ∀ t, t = cut s l h → t.length ≤ s.length → P (.str t)) : okO (opSl (.str s) l h) P := okO_of rfl (p _ rfl (cut_length ..))
theorem o_sll {l h : Option Int} (p : ∀ t, t = cut xs l h → t.length ≤ xs.length → P (.lst t)) : okO (opSl (.lst xs) l h) P := okO_of rfl (p _ rfl (cut_length ..))
theorem o_slt {l h : Option Int} (p : ∀ t, t = cut xs l h → t.length ≤ xs.length → P (.tup t)) : okO (opSl (.tup xs) l h) P := okO_of rfl (p _ rfl (cut_length ..))
theorem o_ixi {s : List Int} (h0 : 0 ≤ i) (h1 : i < s.length) (p : P (.int (s.getD i.toNat 0))) : okO (opIx (.lst (s.map .int)) (.int i)) P :=
  o_ixl' h0 (by simpa using h1) fun d hd => by
    simp only [List.getElem?_map, Option.map_eq_some_iff] at hd
    obtain ⟨a, h2, rfl⟩ := hd
    have : s.getD i.toNat 0 = a := by simp [h2]
    rw [this] at p
    exact p
/-- a text of so many signs at most -/
def strLe (n : Nat) : D → Bool
  | .str s => Nat.ble s.length n
  | _ => false
theorem o_ixs' (h0 : 0 ≤ i) (h1 : i < s.length) (p : ∀ c, s[i.toNat]? = some c → P (.str [c])) : okO (opIx (.str s) (.int i)) P := by
  have hl : i.toNat < s.length := by omega
  refine okO_of (a := .str [s[i.toNat]]) ?_ (p _ (by simp [hl]))
  show (((ixN s.length i).bind fun j => s[j]?).map fun c => D.str [c]) = _
  rw [ixN_int h0 h1]
  simp [hl]
theorem o_eq {a b : D} (h : min a.depth b.depth ≤ eqDeep) (p : PB (D.eqv a b)) : okO (opC .eq a b) PB := okO_of (if_pos h) p
theorem o_ne {a b : D} (h : min a.depth b.depth ≤ eqDeep) (p : PB (!D.eqv a b)) : okO (opC .ne a b) PB := okO_of (show (opEq a b).map (!·) = _ by unfold opEq; rw [if_pos h]; rfl) p
theorem line_val : line = 16777216 := by decide
end
end Ev

namespace Ev
def c_built : FD := ⟨[false, false], 3,
  (.cons (.ife (.or (.not (.chain .le .le (.lit (.int 1)) (.bf .len (.cons (.var 0) .nil)) (.glob 4))) (.cmp .notin (.ix (.var 0) (.lit (.int 0))) (.var
    1))) (.cons (.ret (.lit (.bl false))) .nil) .nil) (.cons (.for_ 2 (.seq (.sl (.var 0) (.lit (.int 1)) (.lit .non))) (.cons (.ife (.and (.cmp
    .notin (.var 2) (.glob 0)) (.cmp .notin (.var 2) (.glob 2))) (.cons (.ret (.lit (.bl false))) .nil) .nil) .nil)) (.cons (.ret (.lit (.bl true)))
    .nil))),
  .no⟩
def c_is_name : FD := ⟨[false], 1,
  (.cons (.ret (.and (.call 5 (.cons (.var 0) (.cons (.glob 0) .nil))) (.cmp .notin (.var 0) (.glob 3)))) .nil),
  .no⟩
def c_is_letter : FD := ⟨[false], 1,
  (.cons (.ret (.call 5 (.cons (.var 0) (.cons (.glob 1) .nil)))) .nil),
  .no⟩
def c_is_word : FD := ⟨[false], 1,
  (.cons (.ret (.call 6 (.cons (.var 0) .nil))) .nil),
  .no⟩
def c_law_cell_at : FD := ⟨[false, false], 2,
  (.cons (.ife (.cmp .lt (.var 1) (.bf .len (.cons (.var 0) .nil))) (.cons (.ret (.ix (.var 0) (.var 1))) .nil) .nil) (.cons (.ret (.lit (.int 0)))
    .nil)),
  .no⟩
def c_law_mixed : FD := ⟨[false, false], 4,
  (.cons (.assign 2 (.lit (.int 0))) (.cons (.ife (.cmp .gt (.bf .len (.cons (.var 0) .nil)) (.lit (.int 0))) (.cons (.assign 2 (.ix (.var 0) (.bin .mod
    (.var 1) (.bf .len (.cons (.var 0) .nil))))) .nil) .nil) (.cons (.assign 3 (.bin .mod (.bin .mul (.bin .add (.var 2) (.bin .mul (.lit (.int 7919))
    (.var 1))) (.lit (.int 48271))) (.lit (.int 2147483647)))) (.cons (.ret (.bin .mod (.bin .mul (.var 3) (.var 3)) (.lit (.int 2147483647))))
    .nil)))),
  .no⟩
def c_parts_of : FD := ⟨[false], 1,
  (.cons (.ife (.cmp .eq (.ix (.var 0) (.lit (.int 0))) (.lit (.str [110, 111, 116]))) (.cons (.ret (.tup (.cons (.ix (.var 0) (.lit (.int 1))) .nil)))
    .nil) .nil) (.cons (.ife (.or (.cmp .eq (.ix (.var 0) (.lit (.int 0))) (.lit (.str [97, 108, 108]))) (.cmp .eq (.ix (.var 0) (.lit (.int 0)))
    (.lit (.str [115, 111, 109, 101])))) (.cons (.ret (.tup (.cons (.ix (.var 0) (.lit (.int 2))) .nil))) .nil) .nil) (.cons (.ife (.cmp .eq (.ix
    (.var 0) (.lit (.int 0))) (.lit (.str [105, 115]))) (.cons (.ret (.tup .nil)) .nil) .nil) (.cons (.ret (.sl (.var 0) (.lit (.int 1)) (.lit .non)))
    .nil)))),
  .no⟩
def c_deep : FD := ⟨[false], 3,
  (.cons (.assign 1 (.lit (.int 0))) (.cons (.for_ 2 (.seq (.call 15 (.cons (.var 0) .nil))) (.cons (.assign 1 (.bf .max2 (.cons (.var 1) (.cons (.call
    16 (.cons (.var 2) .nil)) .nil)))) .nil)) (.cons (.ret (.bin .add (.var 1) (.lit (.int 1)))) .nil))),
  .no⟩
def c_law_whole : FD := ⟨[false], 1,
  (.cons (.ret (.and (.bf .isInt (.cons (.var 0) .nil)) (.not (.bf .isBool (.cons (.var 0) .nil))))) .nil),
  .no⟩
def c_law_sign_by : FD := ⟨[false, false], 2,
  (.cons (.ret (.ix (.var 1) (.bin .mod (.var 0) (.bf .len (.cons (.var 1) .nil))))) .nil),
  .no⟩
def c_law_name_by : FD := ⟨[false, false, false], 10,
  (.cons (.assign 3 (.lit (.str (97 :: 98 :: 99 :: 100 :: 101 :: 102 :: 103 :: 104 :: 105 :: 106 :: 107 :: 108 :: 109 :: 110 :: 111 :: 112 :: 113 :: 114
    :: 115 :: 116 :: 117 :: 118 :: 119 :: 120 :: 121 :: 122 :: 48 :: 49 :: 50 :: 51 :: 52 :: 53 :: 54 :: 55 :: 56 :: 57 :: [])))) (.cons (.assign 4
    (.bin .add (.lit (.int 1)) (.bin .mod (.var 0) (.lit (.int 8))))) (.cons (.assign 5 (.bin .mod (.bin .fdiv (.var 0) (.lit (.int 8))) (.var 4)))
    (.cons (.assignF 6 (.comp 9 (.rng1 (.var 4)) (.lit (.bl true)) (.call 18 (.cons (.bin .add (.bin .fdiv (.var 0) (.lit (.int 64))) (.bin .mul (.lit
    (.int 5)) (.var 9))) (.cons (.var 3) .nil))))) (.cons (.setIx 6 (.lit (.int 0)) (.call 18 (.cons (.bin .fdiv (.var 0) (.lit (.int 64))) (.cons
    (.var 1) .nil)))) (.cons (.ife (.cmp .eq (.var 5) (.lit (.int 0))) (.cons (.setIx 6 (.lit (.int 0)) (.call 18 (.cons (.bin .add (.bin .fdiv (.var
    0) (.lit (.int 64))) (.var 2)) (.cons (.var 1) .nil)))) .nil) (.cons (.setIx 6 (.var 5) (.call 18 (.cons (.bin .add (.bin .add (.bin .fdiv (.var
    0) (.lit (.int 64))) (.bin .mul (.lit (.int 5)) (.var 5))) (.var 2)) (.cons (.var 3) .nil)))) .nil)) (.cons (.assign 7 (.mt .join (.lit (.str []))
    (.cons (.bor 6) .nil))) (.cons (.assign 8 (.lst (.cons (.lit (.str [110, 111, 116])) (.cons (.lit (.str [97, 110, 100])) (.cons (.lit (.str [111,
    114])) (.cons (.lit (.str [116, 104, 101, 110])) (.cons (.lit (.str [97, 108, 108])) (.cons (.lit (.str [115, 111, 109, 101])) (.cons (.lit (.str
    [102, 97, 108, 115, 101])) .nil))))))))) (.cons (.ife (.and (.cmp .eq (.ix (.var 1) (.lit (.int 0))) (.lit (.str [97]))) (.cmp .eq (.bin .mod
    (.bin .fdiv (.var 0) (.lit (.int 512))) (.lit (.int 8))) (.lit (.int 1)))) (.cons (.ret (.sl (.bin .add (.ix (.var 8) (.bin .mod (.bin .fdiv (.var
    0) (.lit (.int 4096))) (.lit (.int 7)))) (.var 7)) (.lit .non) (.lit (.int 8)))) .nil) .nil) (.cons (.ife (.cmp .isin (.var 7) (.var 8)) (.cons
    (.ret (.bin .add (.var 7) (.lit (.str [48])))) .nil) .nil) (.cons (.ret (.var 7)) .nil))))))))))),
  .no⟩
def c_law_small_by : FD := ⟨[false, false], 6,
  (.cons (.ife (.cmp .eq (.bin .mod (.var 0) (.lit (.int 9))) (.lit (.int 0))) (.cons (.ret (.tup (.cons (.lit (.str [102, 97, 108, 115, 101])) .nil)))
    .nil) .nil) (.cons (.assignF 2 (.lst .nil)) (.cons (.for_ 3 (.rng1 (.bin .mod (.bin .fdiv (.var 0) (.lit (.int 9))) (.lit (.int 4)))) (.cons
    (.assign 5 (.bin .mod (.bin .fdiv (.bin .fdiv (.var 0) (.lit (.int 36))) (.ix (.lst (.cons (.lit (.int 1)) (.cons (.lit (.int 8)) (.cons (.lit
    (.int 64)) .nil)))) (.var 3))) (.lit (.int 8)))) (.cons (.ife (.cmp .eq (.bin .mod (.var 5) (.lit (.int 2))) (.lit (.int 1))) (.cons (.append 2
    (.call 19 (.cons (.var 1) (.cons (.lit (.str (65 :: 66 :: 67 :: 68 :: 69 :: 70 :: 71 :: 72 :: 73 :: 74 :: 75 :: 76 :: 77 :: 78 :: 79 :: 80 :: 81
    :: 82 :: 83 :: 84 :: 85 :: 86 :: 87 :: 88 :: 89 :: 90 :: []))) (.cons (.bin .fdiv (.var 5) (.lit (.int 2))) .nil))))) .nil) (.cons (.append 2
    (.call 19 (.cons (.bin .fdiv (.var 1) (.ix (.lst (.cons (.lit (.int 3)) (.cons (.lit (.int 7)) .nil))) (.bin .mod (.var 3) (.lit (.int 2)))))
    (.cons (.lit (.str (97 :: 98 :: 99 :: 100 :: 101 :: 102 :: 103 :: 104 :: 105 :: 106 :: 107 :: 108 :: 109 :: 110 :: 111 :: 112 :: 113 :: 114 :: 115
    :: 116 :: 117 :: 118 :: 119 :: 120 :: 121 :: 122 :: []))) (.cons (.bin .fdiv (.var 5) (.lit (.int 2))) .nil))))) .nil)) .nil))) (.cons (.assign 4
    (.call 19 (.cons (.bin .fdiv (.var 1) (.lit (.int 7))) (.cons (.lit (.str (97 :: 98 :: 99 :: 100 :: 101 :: 102 :: 103 :: 104 :: 105 :: 106 :: 107
    :: 108 :: 109 :: 110 :: 111 :: 112 :: 113 :: 114 :: 115 :: 116 :: 117 :: 118 :: 119 :: 120 :: 121 :: 122 :: []))) (.cons (.bin .mod (.bin .fdiv
    (.var 0) (.lit (.int 18432))) (.lit (.int 3))) .nil))))) (.cons (.ret (.tup (.cons (.lit (.str [105, 115])) (.cons (.var 4) (.cons (.bf .tuple
    (.cons (.bor 2) .nil)) .nil))))) .nil))))),
  .no⟩
def c_law_wrapped : FD := ⟨[false, false, false, false], 7,
  (.cons (.assign 4 (.bin .mod (.var 1) (.lit (.int 8)))) (.cons (.ife (.cmp .lt (.var 4) (.lit (.int 2))) (.cons (.ret (.tup (.cons (.lit (.str [110,
    111, 116])) (.cons (.var 0) .nil)))) .nil) .nil) (.cons (.ife (.cmp .lt (.var 4) (.lit (.int 5))) (.cons (.assign 6 (.ix (.lst (.cons (.lit (.str
    [97, 110, 100])) (.cons (.lit (.str [111, 114])) (.cons (.lit (.str [116, 104, 101, 110])) .nil)))) (.bin .sub (.var 4) (.lit (.int 2))))) (.cons
    (.ife (.cmp .eq (.bin .mod (.bin .fdiv (.var 1) (.lit (.int 8))) (.lit (.int 2))) (.lit (.int 1))) (.cons (.ret (.tup (.cons (.var 6) (.cons (.var
    2) (.cons (.var 0) .nil))))) .nil) .nil) (.cons (.ret (.tup (.cons (.var 6) (.cons (.var 0) (.cons (.var 2) .nil))))) .nil))) .nil) (.cons
    (.assign 5 (.call 19 (.cons (.var 3) (.cons (.lit (.str (65 :: 66 :: 67 :: 68 :: 69 :: 70 :: 71 :: 72 :: 73 :: 74 :: 75 :: 76 :: 77 :: 78 :: 79 ::
    80 :: 81 :: 82 :: 83 :: 84 :: 85 :: 86 :: 87 :: 88 :: 89 :: 90 :: []))) (.cons (.bin .mod (.bin .fdiv (.var 1) (.lit (.int 8))) (.lit (.int 4)))
    .nil))))) (.cons (.ret (.tup (.cons (.ix (.lst (.cons (.lit (.str [97, 108, 108])) (.cons (.lit (.str [115, 111, 109, 101])) .nil))) (.bin .mod
    (.var 4) (.lit (.int 2)))) (.cons (.var 5) (.cons (.var 0) .nil))))) .nil))))),
  .no⟩
def c_law_statement_by : FD := ⟨[false, false, false], 10,
  (.cons (.assign 3 (.call 10 (.cons (.var 0) (.cons (.var 1) .nil)))) (.cons (.assign 4 (.call 20 (.cons (.call 10 (.cons (.var 0) (.cons (.bin .add
    (.var 1) (.lit (.int 1))) .nil))) (.cons (.var 3) .nil)))) (.cons (.for_ 5 (.rng1 (.var 2)) (.cons (.assign 6 (.call 10 (.cons (.var 0) (.cons
    (.bin .add (.bin .add (.var 1) (.lit (.int 2))) (.bin .mul (.lit (.int 3)) (.var 5))) .nil)))) (.cons (.assign 7 (.call 20 (.cons (.call 10 (.cons
    (.var 0) (.cons (.bin .add (.bin .add (.var 1) (.lit (.int 3))) (.bin .mul (.lit (.int 3)) (.var 5))) .nil))) (.cons (.var 3) .nil)))) (.cons
    (.for_ 8 (.rng1 (.ix (.lst (.cons (.lit (.int 0)) (.cons (.bf .int (.cons (.cmp .lt (.var 2) (.lit (.int 30))) .nil)) (.cons (.lit (.int 0))
    (.cons (.bin .mul (.lit (.int 5)) (.bf .int (.cons (.cmp .lt (.var 2) (.lit (.int 30))) .nil))) .nil))))) (.bin .mod (.bin .fdiv (.var 6) (.lit
    (.int 64))) (.lit (.int 4))))) (.cons (.assign 9 (.call 20 (.cons (.call 10 (.cons (.var 0) (.cons (.bin .add (.bin .add (.bin .add (.var 1) (.lit
    (.int 4))) (.bin .mul (.lit (.int 3)) (.var 5))) (.bin .mul (.lit (.int 7)) (.var 8))) .nil))) (.cons (.var 3) .nil)))) (.cons (.assign 7 (.call
    21 (.cons (.var 7) (.cons (.call 10 (.cons (.var 0) (.cons (.bin .add (.bin .add (.bin .add (.var 1) (.lit (.int 5))) (.bin .mul (.lit (.int 3))
    (.var 5))) (.bin .mul (.lit (.int 11)) (.var 8))) .nil))) (.cons (.var 9) (.cons (.var 3) .nil)))))) .nil))) (.cons (.assign 4 (.call 21 (.cons
    (.var 4) (.cons (.var 6) (.cons (.var 7) (.cons (.var 3) .nil)))))) .nil))))) (.cons (.ret (.var 4)) .nil)))),
  .no⟩
def c_law_many_by : FD := ⟨[false], 1,
  (.cons (.ife (.cmp .eq (.bin .mod (.var 0) (.lit (.int 9))) (.lit (.int 8))) (.cons (.ret (.lit (.int 39))) .nil) .nil) (.cons (.ret (.bin .mod (.bin
    .mod (.var 0) (.lit (.int 9))) (.lit (.int 7)))) .nil)),
  .no⟩
def c_law_parts : FD := ⟨[false], 1,
  (.cons (.ife (.or (.cmp .eq (.ix (.var 0) (.lit (.int 0))) (.lit (.str [105, 115]))) (.cmp .eq (.ix (.var 0) (.lit (.int 0))) (.lit (.str [102, 97,
    108, 115, 101])))) (.cons (.ret (.lst .nil)) .nil) .nil) (.cons (.ife (.cmp .eq (.ix (.var 0) (.lit (.int 0))) (.lit (.str [110, 111, 116])))
    (.cons (.ret (.lst (.cons (.ix (.var 0) (.lit (.int 1))) .nil))) .nil) .nil) (.cons (.ife (.or (.cmp .eq (.ix (.var 0) (.lit (.int 0))) (.lit
    (.str [97, 108, 108]))) (.cmp .eq (.ix (.var 0) (.lit (.int 0))) (.lit (.str [115, 111, 109, 101])))) (.cons (.ret (.lst (.cons (.ix (.var 0)
    (.lit (.int 2))) .nil))) .nil) .nil) (.cons (.ret (.lst (.cons (.ix (.var 0) (.lit (.int 1))) (.cons (.ix (.var 0) (.lit (.int 2))) .nil))))
    .nil)))),
  .no⟩
def c_law_deep : FD := ⟨[false], 3,
  (.cons (.assign 1 (.lit (.int 0))) (.cons (.for_ 2 (.seq (.call 24 (.cons (.var 0) .nil))) (.cons (.assign 1 (.bf .max2 (.cons (.var 1) (.cons (.call
    25 (.cons (.var 2) .nil)) .nil)))) .nil)) (.cons (.ret (.bin .add (.var 1) (.lit (.int 1)))) .nil))),
  .no⟩
def c_rising : FD := ⟨[false], 1,
  (.cons (.ret (.bf .tuple (.cons (.bf .sortedSet (.cons (.var 0) .nil)) .nil))) .nil),
  .no⟩
def c_names_in : FD := ⟨[false], 4,
  (.cons (.assignF 1 (.lst .nil)) (.cons (.ife (.cmp .eq (.ix (.var 0) (.lit (.int 0))) (.lit (.str [105, 115]))) (.cons (.assignF 1 (.comp 3 (.seq (.ix
    (.var 0) (.lit (.int 2)))) (.call 6 (.cons (.var 3) .nil)) (.var 3))) .nil) .nil) (.cons (.for_ 2 (.seq (.call 15 (.cons (.var 0) .nil))) (.cons
    (.extend 1 (.call 28 (.cons (.var 2) .nil))) .nil)) (.freeze 1 (.cons (.ret (.call 27 (.cons (.var 1) .nil))) .nil))))),
  .no⟩
def c_free_in : FD := ⟨[false], 5,
  (.cons (.assignF 1 (.lst .nil)) (.cons (.ife (.cmp .eq (.ix (.var 0) (.lit (.int 0))) (.lit (.str [105, 115]))) (.cons (.assignF 1 (.comp 3 (.seq (.ix
    (.var 0) (.lit (.int 2)))) (.call 7 (.cons (.var 3) .nil)) (.var 3))) .nil) .nil) (.cons (.for_ 2 (.seq (.call 15 (.cons (.var 0) .nil))) (.cons
    (.extend 1 (.call 29 (.cons (.var 2) .nil))) .nil)) (.cons (.ife (.or (.cmp .eq (.ix (.var 0) (.lit (.int 0))) (.lit (.str [97, 108, 108]))) (.cmp
    .eq (.ix (.var 0) (.lit (.int 0))) (.lit (.str [115, 111, 109, 101])))) (.freeze 1 (.cons (.assignF 1 (.comp 4 (.seq (.var 1)) (.cmp .ne (.var 4)
    (.ix (.var 0) (.lit (.int 1)))) (.var 4))) .nil)) .nil) (.freeze 1 (.cons (.ret (.call 27 (.cons (.var 1) .nil))) .nil)))))),
  .no⟩
def c_put : FD := ⟨[false, false, false], 5,
  (.cons (.ife (.cmp .eq (.ix (.var 0) (.lit (.int 0))) (.lit (.str [105, 115]))) (.cons (.ret (.tup (.cons (.lit (.str [105, 115])) (.cons (.ix (.var
    0) (.lit (.int 1))) (.cons (.bf .tuple (.cons (.comp 4 (.seq (.ix (.var 0) (.lit (.int 2)))) (.lit (.bl true)) (.ife (.cmp .eq (.var 4) (.var 1))
    (.var 2) (.var 4))) .nil)) .nil))))) .nil) .nil) (.cons (.ife (.or (.cmp .eq (.ix (.var 0) (.lit (.int 0))) (.lit (.str [97, 108, 108]))) (.cmp
    .eq (.ix (.var 0) (.lit (.int 0))) (.lit (.str [115, 111, 109, 101])))) (.cons (.ife (.cmp .eq (.ix (.var 0) (.lit (.int 1))) (.var 1)) (.cons
    (.ret (.var 0)) .nil) .nil) (.cons (.ret (.tup (.cons (.ix (.var 0) (.lit (.int 0))) (.cons (.ix (.var 0) (.lit (.int 1))) (.cons (.call 35 (.cons
    (.ix (.var 0) (.lit (.int 2))) (.cons (.var 1) (.cons (.var 2) .nil)))) .nil))))) .nil)) .nil) (.cons (.ret (.bin .add (.tup (.cons (.ix (.var 0)
    (.lit (.int 0))) .nil)) (.bf .tuple (.cons (.comp 3 (.seq (.call 15 (.cons (.var 0) .nil))) (.lit (.bl true)) (.call 35 (.cons (.var 3) (.cons
    (.var 1) (.cons (.var 2) .nil))))) .nil)))) .nil))),
  .no⟩
def c_law_mixed_v1 : FD := ⟨[false, false], 4,
  (.cons (.assign 2 (.lit (.int 0))) (.cons (.ife (.cmp .gt (.bf .len (.cons (.var 0) .nil)) (.lit (.int 0))) (.cons (.assign 2 (.ix (.var 0) (.bin .mod
    (.var 1) (.bf .len (.cons (.var 0) .nil))))) .nil) .nil) (.cons (.assign 3 (.bin .mod (.bin .mul (.bin .add (.var 2) (.bin .mul (.lit (.int 7919))
    (.var 1))) (.lit (.int 48271))) (.lit (.int 2147483647)))) (.cons (.ret (.bin .mod (.bin .add (.bin .mul (.var 3) (.var 3)) (.bin .mul (.lit (.int
    16807)) (.var 3))) (.lit (.int 2147483629)))) .nil)))),
  .no⟩
def c_opens : FD := ⟨[false], 1,
  (.cons (.ret (.or (.cmp .eq (.var 0) (.lit (.str [103, 117, 101, 115, 115]))) (.or (.cmp .eq (.var 0) (.lit (.str [110, 101, 119]))) (.cmp .eq (.var
    0) (.lit (.str [99, 97, 115, 101])))))) .nil),
  .no⟩
def c_boxes : FD := ⟨[false], 5,
  (.cons (.assignF 1 (.lst .nil)) (.cons (.assign 2 (.tup .nil)) (.cons (.for_ 3 (.seq (.var 0)) (.cons (.assign 4 (.ix (.var 3) (.lit (.int 0))))
    (.cons (.ife (.call 140 (.cons (.ix (.var 3) (.lit (.int 1))) .nil)) (.cons (.assign 4 (.bin .sub (.ix (.var 3) (.lit (.int 0))) (.lit (.int 1))))
    .nil) .nil) (.cons (.ife (.not (.chain .le .le (.lit (.int 0)) (.var 4) (.bf .len (.cons (.var 2) .nil)))) (.cons (.raise 65) .nil) .nil) (.cons
    (.assign 2 (.sl (.var 2) (.lit .non) (.var 4))) (.cons (.ife (.call 140 (.cons (.ix (.var 3) (.lit (.int 1))) .nil)) (.cons (.assign 2 (.bin .add
    (.var 2) (.tup (.cons (.bf .len (.cons (.bor 1) .nil)) .nil)))) .nil) .nil) (.cons (.append 1 (.var 2)) .nil))))))) (.cons (.ret (.bf .tuple
    (.cons (.bor 1) .nil))) .nil)))),
  .no⟩
def c_law_level_by : FD := ⟨[false, false, false], 5,
  (.cons (.assign 3 (.bf .int (.cons (.var 2) .nil))) (.cons (.assign 4 (.bf .min2 (.cons (.bin .add (.var 1) (.var 3)) (.cons (.lit (.int 60)) .nil))))
    (.cons (.ife (.cmp .gt (.bin .mod (.var 0) (.lit (.int 3))) (.lit (.int 0))) (.cons (.ret (.var 4)) .nil) .nil) (.cons (.ret (.bin .add (.var 3)
    (.bin .mod (.bin .fdiv (.var 0) (.lit (.int 3))) (.bin .add (.bin .sub (.var 4) (.var 3)) (.lit (.int 1)))))) .nil)))),
  .no⟩
def c_law_rules_by : FD := ⟨[false], 5,
  (.cons (.assign 1 (.bf .max2 (.cons (.lit (.int 0)) (.cons (.bf .min2 (.cons (.bin .sub (.bf .len (.cons (.var 0) .nil)) (.lit (.int 3))) (.cons (.lit
    (.int 40)) .nil))) .nil)))) (.cons (.ife (.cmp .eq (.bin .mod (.call 9 (.cons (.var 0) (.cons (.lit (.int 0)) .nil))) (.lit (.int 9))) (.lit (.int
    8))) (.cons (.assign 1 (.bin .add (.lit (.int 41)) (.bin .mod (.bin .fdiv (.call 9 (.cons (.var 0) (.cons (.lit (.int 0)) .nil))) (.lit (.int 9)))
    (.lit (.int 40))))) .nil) .nil) (.cons (.assignF 2 (.lst .nil)) (.cons (.for_ 3 (.rng1 (.var 1)) (.cons (.assign 4 (.call 69 (.cons (.var 0)
    (.cons (.bin .add (.lit (.int 3)) (.var 3)) .nil)))) (.cons (.append 2 (.ix (.lst (.cons (.lit (.str [103, 117, 101, 115, 115])) (.cons (.lit
    (.str [110, 101, 119])) (.cons (.lit (.str [99, 97, 115, 101])) (.cons (.lit (.str [103, 105, 118, 101, 110])) (.cons (.lit (.str [97, 103, 97,
    105, 110])) (.cons (.lit (.str [98, 111, 116, 104])) (.cons (.lit (.str [117, 115, 101])) (.cons (.lit (.str [116, 104, 101, 110])) .nil)))))))))
    (.bin .mod (.var 4) (.lit (.int 8))))) .nil))) (.cons (.retOwn 2) .nil))))),
  .no⟩
def c_law_levels_by : FD := ⟨[false, false], 7,
  (.cons (.assignF 2 (.lst .nil)) (.cons (.assign 3 (.lit (.int 0))) (.cons (.for_ 4 (.rng1 (.bf .len (.cons (.var 1) .nil))) (.cons (.assign 5 (.cmp
    .isin (.ix (.var 1) (.var 4)) (.lst (.cons (.lit (.str [103, 117, 101, 115, 115])) (.cons (.lit (.str [110, 101, 119])) (.cons (.lit (.str [99,
    97, 115, 101])) .nil)))))) (.cons (.assign 6 (.call 145 (.cons (.bin .fdiv (.call 69 (.cons (.var 0) (.cons (.bin .add (.lit (.int 3)) (.var 4))
    .nil))) (.lit (.int 8))) (.cons (.var 3) (.cons (.var 5) .nil))))) (.cons (.append 2 (.var 6)) (.cons (.assign 3 (.var 6)) .nil))))) (.cons
    (.retOwn 2) .nil)))),
  .no⟩
def c_law_paths_of : FD := ⟨[false, false], 5,
  (.cons (.assignF 2 (.lst .nil)) (.cons (.assign 3 (.lst .nil)) (.cons (.for_ 4 (.rng1 (.bf .len (.cons (.var 0) .nil))) (.cons (.ife (.cmp .isin (.ix
    (.var 0) (.var 4)) (.lst (.cons (.lit (.str [103, 117, 101, 115, 115])) (.cons (.lit (.str [110, 101, 119])) (.cons (.lit (.str [99, 97, 115,
    101])) .nil))))) (.cons (.assign 3 (.bin .add (.sl (.var 3) (.lit .non) (.bin .sub (.ix (.var 1) (.var 4)) (.lit (.int 1)))) (.lst (.cons (.var 4)
    .nil)))) .nil) (.cons (.assign 3 (.sl (.var 3) (.lit .non) (.ix (.var 1) (.var 4)))) .nil)) (.cons (.append 2 (.bf .tuple (.cons (.var 3) .nil)))
    .nil))) (.cons (.ret (.bf .tuple (.cons (.bor 2) .nil))) .nil)))),
  .no⟩
def c_begins : FD := ⟨[false, false], 2,
  (.cons (.ret (.cmp .eq (.sl (.var 0) (.lit .non) (.bf .len (.cons (.var 1) .nil))) (.var 1))) .nil),
  .no⟩
def c_seen : FD := ⟨[false, false, false], 3,
  (.cons (.ret (.and (.cmp .lt (.var 2) (.var 1)) (.call 154 (.cons (.ix (.var 0) (.var 1)) (.cons (.ix (.var 0) (.var 2)) .nil))))) .nil),
  .no⟩
def c_box_seen : FD := ⟨[false, false, false], 3,
  (.cons (.ret (.and (.cmp .lt (.var 2) (.var 1)) (.and (.cmp .notin (.var 2) (.ix (.var 0) (.var 1))) (.call 154 (.cons (.ix (.var 0) (.var 1)) (.cons
    (.sl (.ix (.var 0) (.var 2)) (.lit .non) (.neg (.lit (.int 1)))) .nil)))))) .nil),
  .no⟩
def c_end_of : FD := ⟨[false, false], 4,
  (.cons (.assign 2 (.var 1)) (.cons (.for_ 3 (.rng2 (.var 1) (.bf .len (.cons (.var 0) .nil))) (.cons (.ife (.cmp .eq (.ix (.var 0) (.var 3)) (.ix
    (.var 0) (.var 1))) (.cons (.assign 2 (.var 3)) .nil) .nil) .nil)) (.cons (.ret (.var 2)) .nil))),
  .no⟩
def c_is_number_v1 : FD := ⟨[false], 1,
  (.cons (.ret (.and (.bf .isInt (.cons (.var 0) .nil)) (.not (.bf .isBool (.cons (.var 0) .nil))))) .nil),
  .no⟩
def c_names_one : FD := ⟨[false], 1,
  (.cons (.ret (.and (.bf .isStr (.cons (.var 0) .nil)) (.call 6 (.cons (.var 0) .nil)))) .nil),
  .no⟩
def c_told : FD := ⟨[false, false, false, false], 4,
  (.cons (.ife (.or (.not (.call 209 (.cons (.var 3) .nil))) (.or (.not (.chain .le .lt (.lit (.int 0)) (.var 3) (.var 2))) (.not (.call 155 (.cons
    (.var 1) (.cons (.var 2) (.cons (.var 3) .nil))))))) (.cons (.ret (.lit .non)) .nil) .nil) (.cons (.ret (.ix (.ix (.var 0) (.var 3)) (.lit (.int
    2)))) .nil)),
  .no⟩
def c_is_form : FD := ⟨[false, false], 2,
  (.cons (.ret (.and (.notN (.var 0)) (.cmp .eq (.ix (.var 0) (.lit (.int 0))) (.var 1)))) .nil),
  .no⟩
def c_is_box : FD := ⟨[false, false, false, false], 4,
  (.cons (.ret (.and (.call 209 (.cons (.var 3) .nil)) (.and (.chain .le .lt (.lit (.int 0)) (.var 3) (.var 2)) (.and (.call 140 (.cons (.ix (.ix (.var
    0) (.var 3)) (.lit (.int 1))) .nil)) (.call 157 (.cons (.var 1) (.cons (.var 2) (.cons (.var 3) .nil)))))))) .nil),
  .no⟩
def c_closes : FD := ⟨[false, false, false, false, false, false], 6,
  (.cons (.ife (.or (.not (.call 213 (.cons (.var 0) (.cons (.var 1) (.cons (.var 2) (.cons (.var 3) .nil)))))) (.cmp .ne (.ix (.ix (.var 0) (.var 3))
    (.lit (.int 1))) (.lit (.str [103, 117, 101, 115, 115])))) (.cons (.ret (.lit (.bl false))) .nil) .nil) (.cons (.ret (.and (.cmp .eq (.ix (.ix
    (.var 0) (.var 3)) (.lit (.int 2))) (.var 4)) (.cmp .eq (.ix (.ix (.var 0) (.call 159 (.cons (.var 1) (.cons (.var 3) .nil)))) (.lit (.int 2)))
    (.var 5)))) .nil)),
  .no⟩
def c_named : FD := ⟨[false, false], 2,
  (.cons (.ife (.and (.notN (.ix (.var 0) (.lit (.int 2)))) (.cmp .isin (.var 1) (.call 28 (.cons (.ix (.var 0) (.lit (.int 2))) .nil)))) (.cons (.ret
    (.lit (.bl true))) .nil) .nil) (.cons (.ret (.cmp .isin (.var 1) (.ix (.var 0) (.lit (.int 3))))) .nil)),
  .no⟩
def c_is_new : FD := ⟨[false, false], 4,
  (.cons (.assign 2 (.ix (.ix (.var 0) (.var 1)) (.lit (.int 3)))) (.cons (.ife (.or (.cmp .ne (.bf .len (.cons (.var 2) .nil)) (.lit (.int 1))) (.not
    (.call 210 (.cons (.ix (.var 2) (.lit (.int 0))) .nil)))) (.cons (.ret (.lit (.bl false))) .nil) .nil) (.cons (.ret (.not (.bf .any (.cons (.comp
    3 (.seq (.sl (.var 0) (.lit .non) (.var 1))) (.lit (.bl true)) (.call 215 (.cons (.var 3) (.cons (.ix (.var 2) (.lit (.int 0))) .nil)))) .nil))))
    .nil))),
  .no⟩
def c_opening : FD := ⟨[false, false], 4,
  (.cons (.assign 2 (.ix (.var 0) (.var 1))) (.cons (.ife (.or (.cmp .eq (.ix (.var 2) (.lit (.int 1))) (.lit (.str [110, 101, 119]))) (.cmp .eq (.ix
    (.var 2) (.lit (.int 1))) (.lit (.str [99, 97, 115, 101])))) (.cons (.ret (.call 216 (.cons (.var 0) (.cons (.var 1) .nil)))) .nil) .nil) (.cons
    (.ife (.cmp .gt (.bf .len (.cons (.ix (.var 2) (.lit (.int 3))) .nil)) (.lit (.int 0))) (.cons (.ret (.lit (.bl false))) .nil) .nil) (.cons (.ife
    (.cmp .eq (.ix (.var 2) (.lit (.int 1))) (.lit (.str [103, 117, 101, 115, 115]))) (.cons (.ret (.lit (.bl true))) .nil) .nil) (.cons (.ret (.and
    (.cmp .eq (.ix (.var 2) (.lit (.int 0))) (.lit (.int 0))) (.bf .all (.cons (.comp 3 (.seq (.sl (.var 0) (.lit .non) (.var 1))) (.lit (.bl true))
    (.cmp .eq (.ix (.var 3) (.lit (.int 1))) (.lit (.str [103, 105, 118, 101, 110])))) .nil)))) .nil))))),
  .no⟩
def c_by_one : FD := ⟨[false, false, false], 3,
  (.cons (.ife (.cmp .eq (.var 0) (.lit (.str [97, 103, 97, 105, 110]))) (.cons (.ret (.cmp .eq (.var 1) (.var 2))) .nil) .nil) (.cons (.ife (.cmp .eq
    (.var 0) (.lit (.str [108, 101, 102, 116]))) (.cons (.ret (.and (.call 212 (.cons (.var 2) (.cons (.lit (.str [97, 110, 100])) .nil))) (.cmp .eq
    (.var 1) (.ix (.var 2) (.lit (.int 1)))))) .nil) .nil) (.cons (.ife (.cmp .eq (.var 0) (.lit (.str [114, 105, 103, 104, 116]))) (.cons (.ret (.and
    (.call 212 (.cons (.var 2) (.cons (.lit (.str [97, 110, 100])) .nil))) (.cmp .eq (.var 1) (.ix (.var 2) (.lit (.int 2)))))) .nil) .nil) (.cons
    (.ife (.cmp .eq (.var 0) (.lit (.str [101, 105, 116, 104, 101, 114]))) (.cons (.ret (.and (.notN (.var 2)) (.and (.call 212 (.cons (.var 1) (.cons
    (.lit (.str [111, 114])) .nil))) (.or (.cmp .eq (.var 2) (.ix (.var 1) (.lit (.int 1)))) (.cmp .eq (.var 2) (.ix (.var 1) (.lit (.int 2))))))))
    .nil) .nil) (.cons (.ret (.call 212 (.cons (.var 2) (.cons (.lit (.str [102, 97, 108, 115, 101])) .nil)))) .nil))))),
  .no⟩
def c_by_two : FD := ⟨[false, false, false, false], 4,
  (.cons (.ife (.or (.isN (.var 2)) (.isN (.var 3))) (.cons (.ret (.lit (.bl false))) .nil) .nil) (.cons (.ife (.cmp .eq (.var 0) (.lit (.str [98, 111,
    116, 104]))) (.cons (.ret (.cmp .eq (.var 1) (.tup (.cons (.lit (.str [97, 110, 100])) (.cons (.var 2) (.cons (.var 3) .nil)))))) .nil) .nil)
    (.cons (.ife (.cmp .eq (.var 0) (.lit (.str [117, 115, 101]))) (.cons (.ret (.cmp .eq (.var 2) (.tup (.cons (.lit (.str [116, 104, 101, 110]))
    (.cons (.var 3) (.cons (.var 1) .nil)))))) .nil) .nil) (.cons (.ret (.and (.cmp .eq (.var 1) (.tup (.cons (.lit (.str [102, 97, 108, 115, 101]))
    .nil))) (.cmp .eq (.var 3) (.tup (.cons (.lit (.str [110, 111, 116])) (.cons (.var 2) .nil)))))) .nil)))),
  .no⟩
def c_by_box : FD := ⟨[false, false, false], 6,
  (.cons (.assign 3 (.ix (.ix (.var 0) (.var 2)) (.lit (.int 1)))) (.cons (.assign 4 (.ix (.ix (.var 0) (.var 2)) (.lit (.int 2)))) (.cons (.assign 5
    (.ix (.ix (.ix (.var 0) (.var 2)) (.lit (.int 3))) (.lit (.int 0)))) (.cons (.ife (.cmp .eq (.var 3) (.lit (.str [116, 104, 101, 110]))) (.cons
    (.ret (.and (.call 212 (.cons (.var 4) (.cons (.lit (.str [116, 104, 101, 110])) .nil))) (.call 214 (.cons (.var 0) (.cons (.var 1) (.cons (.var
    2) (.cons (.var 5) (.cons (.ix (.var 4) (.lit (.int 1))) (.cons (.ix (.var 4) (.lit (.int 2))) .nil))))))))) .nil) .nil) (.cons (.ife (.cmp .eq
    (.var 3) (.lit (.str [100, 101, 110, 121]))) (.cons (.ret (.and (.call 212 (.cons (.var 4) (.cons (.lit (.str [110, 111, 116])) .nil))) (.call 214
    (.cons (.var 0) (.cons (.var 1) (.cons (.var 2) (.cons (.var 5) (.cons (.ix (.var 4) (.lit (.int 1))) (.cons (.tup (.cons (.lit (.str [102, 97,
    108, 115, 101])) .nil)) .nil))))))))) .nil) .nil) (.cons (.ret (.call 214 (.cons (.var 0) (.cons (.var 1) (.cons (.var 2) (.cons (.var 5) (.cons
    (.tup (.cons (.lit (.str [110, 111, 116])) (.cons (.var 4) .nil))) (.cons (.tup (.cons (.lit (.str [102, 97, 108, 115, 101])) .nil)) .nil))))))))
    .nil)))))),
  .no⟩
def c_by_cases : FD := ⟨[false, false, false], 6,
  (.cons (.assign 3 (.ix (.ix (.var 0) (.var 2)) (.lit (.int 2)))) (.cons (.assign 4 (.ix (.ix (.var 0) (.var 2)) (.lit (.int 3)))) (.cons (.assign 5
    (.call 211 (.cons (.var 0) (.cons (.var 1) (.cons (.var 2) (.cons (.ix (.var 4) (.lit (.int 0))) .nil)))))) (.cons (.ife (.not (.call 212 (.cons
    (.var 5) (.cons (.lit (.str [111, 114])) .nil)))) (.cons (.ret (.lit (.bl false))) .nil) .nil) (.cons (.ret (.and (.call 214 (.cons (.var 0)
    (.cons (.var 1) (.cons (.var 2) (.cons (.ix (.var 4) (.lit (.int 1))) (.cons (.ix (.var 5) (.lit (.int 1))) (.cons (.var 3) .nil))))))) (.call 214
    (.cons (.var 0) (.cons (.var 1) (.cons (.var 2) (.cons (.ix (.var 4) (.lit (.int 2))) (.cons (.ix (.var 5) (.lit (.int 2))) (.cons (.var 3)
    .nil))))))))) .nil))))),
  .no⟩
def c_by_each : FD := ⟨[false, false, false], 3,
  (.cons (.ret (.and (.call 212 (.cons (.var 0) (.cons (.lit (.str [97, 108, 108])) .nil))) (.and (.call 210 (.cons (.var 2) .nil)) (.cmp .eq (.var 1)
    (.call 35 (.cons (.ix (.var 0) (.lit (.int 2))) (.cons (.ix (.var 0) (.lit (.int 1))) (.cons (.var 2) .nil)))))))) .nil),
  .no⟩
def c_by_some : FD := ⟨[false, false, false], 3,
  (.cons (.ret (.and (.notN (.var 0)) (.and (.call 212 (.cons (.var 1) (.cons (.lit (.str [115, 111, 109, 101])) .nil))) (.and (.call 210 (.cons (.var
    2) .nil)) (.cmp .eq (.var 0) (.call 35 (.cons (.ix (.var 1) (.lit (.int 2))) (.cons (.ix (.var 1) (.lit (.int 1))) (.cons (.var 2) .nil)))))))))
    .nil),
  .no⟩
def c_box_name : FD := ⟨[false, false, false, false, false], 5,
  (.cons (.ife (.or (.not (.call 213 (.cons (.var 0) (.cons (.var 1) (.cons (.var 2) (.cons (.var 3) .nil)))))) (.cmp .ne (.ix (.ix (.var 0) (.var 3))
    (.lit (.int 1))) (.var 4))) (.cons (.ret (.lit (.str []))) .nil) .nil) (.cons (.ife (.or (.cmp .ne (.bf .len (.cons (.ix (.ix (.var 0) (.var 3))
    (.lit (.int 3))) .nil)) (.lit (.int 1))) (.not (.call 210 (.cons (.ix (.ix (.ix (.var 0) (.var 3)) (.lit (.int 3))) (.lit (.int 0))) .nil))))
    (.cons (.ret (.lit (.str []))) .nil) .nil) (.cons (.ret (.ix (.ix (.ix (.var 0) (.var 3)) (.lit (.int 3))) (.lit (.int 0)))) .nil))),
  .no⟩
def c_by_every : FD := ⟨[false, false, false], 6,
  (.cons (.assign 3 (.ix (.ix (.var 0) (.var 2)) (.lit (.int 2)))) (.cons (.assign 4 (.ix (.ix (.ix (.var 0) (.var 2)) (.lit (.int 3))) (.lit (.int
    0)))) (.cons (.assign 5 (.call 224 (.cons (.var 0) (.cons (.var 1) (.cons (.var 2) (.cons (.var 4) (.cons (.lit (.str [110, 101, 119]))
    .nil))))))) (.cons (.ife (.or (.cmp .eq (.var 5) (.lit (.str []))) (.or (.not (.call 212 (.cons (.var 3) (.cons (.lit (.str [97, 108, 108]))
    .nil)))) (.cmp .isin (.var 5) (.call 28 (.cons (.var 3) .nil))))) (.cons (.ret (.lit (.bl false))) .nil) .nil) (.cons (.ret (.cmp .eq (.ix (.ix
    (.var 0) (.call 159 (.cons (.var 1) (.cons (.var 4) .nil)))) (.lit (.int 2))) (.call 35 (.cons (.ix (.var 3) (.lit (.int 2))) (.cons (.ix (.var 3)
    (.lit (.int 1))) (.cons (.var 5) .nil)))))) .nil))))),
  .no⟩
def c_by_case : FD := ⟨[false, false, false], 7,
  (.cons (.assign 3 (.ix (.ix (.var 0) (.var 2)) (.lit (.int 2)))) (.cons (.assign 4 (.ix (.ix (.var 0) (.var 2)) (.lit (.int 3)))) (.cons (.assign 5
    (.call 211 (.cons (.var 0) (.cons (.var 1) (.cons (.var 2) (.cons (.ix (.var 4) (.lit (.int 0))) .nil)))))) (.cons (.assign 6 (.call 224 (.cons
    (.var 0) (.cons (.var 1) (.cons (.var 2) (.cons (.ix (.var 4) (.lit (.int 1))) (.cons (.lit (.str [99, 97, 115, 101])) .nil))))))) (.cons (.ife
    (.or (.cmp .eq (.var 6) (.lit (.str []))) (.or (.not (.call 212 (.cons (.var 5) (.cons (.lit (.str [115, 111, 109, 101])) .nil)))) (.or (.cmp
    .isin (.var 6) (.call 28 (.cons (.var 3) .nil))) (.cmp .isin (.var 6) (.call 28 (.cons (.var 5) .nil)))))) (.cons (.ret (.lit (.bl false))) .nil)
    .nil) (.cons (.ret (.and (.cmp .eq (.ix (.ix (.var 0) (.ix (.var 4) (.lit (.int 1)))) (.lit (.int 2))) (.call 35 (.cons (.ix (.var 5) (.lit (.int
    2))) (.cons (.ix (.var 5) (.lit (.int 1))) (.cons (.var 6) .nil))))) (.cmp .eq (.ix (.ix (.var 0) (.call 159 (.cons (.var 1) (.cons (.ix (.var 4)
    (.lit (.int 1))) .nil)))) (.lit (.int 2))) (.var 3)))) .nil)))))),
  .no⟩
def c_refs_of : FD := ⟨[false], 1,
  (.cons (.ife (.cmp .isin (.var 0) (.tup (.cons (.lit (.str [97, 103, 97, 105, 110])) (.cons (.lit (.str [108, 101, 102, 116])) (.cons (.lit (.str
    [114, 105, 103, 104, 116])) (.cons (.lit (.str [101, 105, 116, 104, 101, 114])) (.cons (.lit (.str [97, 110, 121])) (.cons (.lit (.str [116, 104,
    101, 110])) (.cons (.lit (.str [100, 101, 110, 121])) (.cons (.lit (.str [97, 98, 115, 117, 114, 100])) (.cons (.lit (.str [101, 118, 101, 114,
    121])) .nil))))))))))) (.cons (.ret (.lit (.int 1))) .nil) .nil) (.cons (.ife (.cmp .isin (.var 0) (.tup (.cons (.lit (.str [98, 111, 116, 104]))
    (.cons (.lit (.str [117, 115, 101])) (.cons (.lit (.str [99, 108, 97, 115, 104])) (.cons (.lit (.str [101, 97, 99, 104])) (.cons (.lit (.str [115,
    111, 109, 101])) (.cons (.lit (.str [111, 110, 101])) .nil)))))))) (.cons (.ret (.lit (.int 2))) .nil) .nil) (.cons (.ife (.cmp .eq (.var 0) (.lit
    (.str [99, 97, 115, 101, 115]))) (.cons (.ret (.lit (.int 3))) .nil) .nil) (.cons (.ret (.lit (.int 0))) .nil)))),
  .no⟩
def c_by_lines : FD := ⟨[false, false, false], 6,
  (.cons (.assign 3 (.ix (.ix (.var 0) (.var 2)) (.lit (.int 1)))) (.cons (.assign 4 (.ix (.ix (.var 0) (.var 2)) (.lit (.int 2)))) (.cons (.assign 5
    (.ix (.ix (.var 0) (.var 2)) (.lit (.int 3)))) (.cons (.ife (.cmp .isin (.var 3) (.tup (.cons (.lit (.str [97, 103, 97, 105, 110])) (.cons (.lit
    (.str [108, 101, 102, 116])) (.cons (.lit (.str [114, 105, 103, 104, 116])) (.cons (.lit (.str [101, 105, 116, 104, 101, 114])) (.cons (.lit (.str
    [97, 110, 121])) .nil))))))) (.cons (.ret (.call 218 (.cons (.var 3) (.cons (.var 4) (.cons (.call 211 (.cons (.var 0) (.cons (.var 1) (.cons
    (.var 2) (.cons (.ix (.var 5) (.lit (.int 0))) .nil))))) .nil))))) .nil) .nil) (.cons (.ife (.cmp .isin (.var 3) (.tup (.cons (.lit (.str [98,
    111, 116, 104])) (.cons (.lit (.str [117, 115, 101])) (.cons (.lit (.str [99, 108, 97, 115, 104])) .nil))))) (.cons (.ret (.call 219 (.cons (.var
    3) (.cons (.var 4) (.cons (.call 211 (.cons (.var 0) (.cons (.var 1) (.cons (.var 2) (.cons (.ix (.var 5) (.lit (.int 0))) .nil))))) (.cons (.call
    211 (.cons (.var 0) (.cons (.var 1) (.cons (.var 2) (.cons (.ix (.var 5) (.lit (.int 1))) .nil))))) .nil)))))) .nil) .nil) (.cons (.ife (.cmp .eq
    (.var 3) (.lit (.str [101, 97, 99, 104]))) (.cons (.ret (.call 222 (.cons (.call 211 (.cons (.var 0) (.cons (.var 1) (.cons (.var 2) (.cons (.ix
    (.var 5) (.lit (.int 0))) .nil))))) (.cons (.var 4) (.cons (.ix (.var 5) (.lit (.int 1))) .nil))))) .nil) .nil) (.cons (.ret (.call 223 (.cons
    (.call 211 (.cons (.var 0) (.cons (.var 1) (.cons (.var 2) (.cons (.ix (.var 5) (.lit (.int 0))) .nil))))) (.cons (.var 4) (.cons (.ix (.var 5)
    (.lit (.int 1))) .nil))))) .nil))))))),
  .no⟩
def c_by_boxes : FD := ⟨[false, false, false], 4,
  (.cons (.assign 3 (.ix (.ix (.var 0) (.var 2)) (.lit (.int 1)))) (.cons (.ife (.cmp .eq (.var 3) (.lit (.str [99, 97, 115, 101, 115]))) (.cons (.ret
    (.call 221 (.cons (.var 0) (.cons (.var 1) (.cons (.var 2) .nil))))) .nil) .nil) (.cons (.ife (.cmp .eq (.var 3) (.lit (.str [101, 118, 101, 114,
    121]))) (.cons (.ret (.call 225 (.cons (.var 0) (.cons (.var 1) (.cons (.var 2) .nil))))) .nil) .nil) (.cons (.ife (.cmp .eq (.var 3) (.lit (.str
    [111, 110, 101]))) (.cons (.ret (.call 226 (.cons (.var 0) (.cons (.var 1) (.cons (.var 2) .nil))))) .nil) .nil) (.cons (.ret (.call 220 (.cons
    (.var 0) (.cons (.var 1) (.cons (.var 2) .nil))))) .nil))))),
  .no⟩
def c_is_told : FD := ⟨[false], 1,
  (.cons (.ife (.cmp .eq (.ix (.var 0) (.lit (.int 1))) (.lit (.str [110, 101, 119]))) (.cons (.ret (.isN (.ix (.var 0) (.lit (.int 2))))) .nil) .nil)
    (.cons (.ret (.and (.notN (.ix (.var 0) (.lit (.int 2)))) (.cmp .eq (.bf .len (.cons (.call 29 (.cons (.ix (.var 0) (.lit (.int 2))) .nil)) .nil))
    (.lit (.int 0))))) .nil)),
  .no⟩
def c_follows : FD := ⟨[false, false, false], 4,
  (.cons (.assign 3 (.ix (.var 0) (.var 2))) (.cons (.ife (.not (.call 230 (.cons (.var 3) .nil))) (.cons (.ret (.lit (.bl false))) .nil) .nil) (.cons
    (.ife (.cmp .isin (.ix (.var 3) (.lit (.int 1))) (.tup (.cons (.lit (.str [103, 105, 118, 101, 110])) (.cons (.lit (.str [103, 117, 101, 115,
    115])) (.cons (.lit (.str [110, 101, 119])) (.cons (.lit (.str [99, 97, 115, 101])) .nil)))))) (.cons (.ret (.call 217 (.cons (.var 0) (.cons
    (.var 2) .nil)))) .nil) .nil) (.cons (.ife (.or (.cmp .eq (.call 227 (.cons (.ix (.var 3) (.lit (.int 1))) .nil)) (.lit (.int 0))) (.cmp .ne (.bf
    .len (.cons (.ix (.var 3) (.lit (.int 3))) .nil)) (.call 227 (.cons (.ix (.var 3) (.lit (.int 1))) .nil)))) (.cons (.ret (.lit (.bl false))) .nil)
    .nil) (.cons (.ife (.cmp .isin (.ix (.var 3) (.lit (.int 1))) (.tup (.cons (.lit (.str [116, 104, 101, 110])) (.cons (.lit (.str [100, 101, 110,
    121])) (.cons (.lit (.str [97, 98, 115, 117, 114, 100])) (.cons (.lit (.str [99, 97, 115, 101, 115])) (.cons (.lit (.str [101, 118, 101, 114,
    121])) (.cons (.lit (.str [111, 110, 101])) .nil)))))))) (.cons (.ret (.call 229 (.cons (.var 0) (.cons (.var 1) (.cons (.var 2) .nil))))) .nil)
    .nil) (.cons (.ret (.call 228 (.cons (.var 0) (.cons (.var 1) (.cons (.var 2) .nil))))) .nil)))))),
  .no⟩
def c_law_cell_at_v1 : FD := ⟨[false, false], 3,
  (.cons (.ife (.cmp .eq (.bf .len (.cons (.var 0) .nil)) (.lit (.int 0))) (.cons (.ret (.lit (.int 0))) .nil) .nil) (.cons (.assign 2 (.bin .mod (.bin
    .mul (.bin .add (.ix (.var 0) (.bin .mod (.var 1) (.bf .len (.cons (.var 0) .nil)))) (.bin .mul (.lit (.int 7919)) (.var 1))) (.lit (.int 48271)))
    (.lit (.int 2147483647)))) (.cons (.ret (.bin .mod (.bin .mul (.var 2) (.var 2)) (.lit (.int 2147483629)))) .nil))),
  .no⟩
def c_law_name_by_v2 : FD := ⟨[false, false, false], 7,
  (.cons (.assign 3 (.lit (.str (97 :: 98 :: 99 :: 100 :: 101 :: 102 :: 103 :: 104 :: 105 :: 106 :: 107 :: 108 :: 109 :: 110 :: 111 :: 112 :: 113 :: 114
    :: 115 :: 116 :: 117 :: 118 :: 119 :: 120 :: 121 :: 122 :: 48 :: 49 :: 50 :: 51 :: 52 :: 53 :: 54 :: 55 :: 56 :: 57 :: [])))) (.cons (.assign 4
    (.bin .mod (.bin .fdiv (.var 0) (.lit (.int 2))) (.lit (.int 8)))) (.cons (.ife (.cmp .eq (.bin .mod (.var 0) (.lit (.int 2))) (.lit (.int 1)))
    (.cons (.assign 1 (.bin .fdiv (.var 0) (.lit (.int 16)))) .nil) .nil) (.cons (.assign 5 (.lit (.str []))) (.cons (.for_ 6 (.rng1 (.bin .add (.bin
    .add (.var 4) (.lit (.int 1))) (.bin .mod (.bin .fdiv (.var 1) (.lit (.int 7))) (.bin .sub (.lit (.int 8)) (.var 4))))) (.cons (.ife (.cmp .eq
    (.var 6) (.var 4)) (.cons (.assign 5 (.bin .add (.var 5) (.ix (.var 3) (.bin .mod (.bin .add (.bin .fdiv (.var 0) (.lit (.int 16))) (.bin .mul
    (.lit (.int 7)) (.var 2))) (.lit (.int 26)))))) .nil) (.cons (.ife (.cmp .eq (.var 6) (.lit (.int 0))) (.cons (.assign 5 (.bin .add (.var 5) (.ix
    (.var 3) (.bin .mod (.bin .fdiv (.var 1) (.lit (.int 56))) (.lit (.int 26)))))) .nil) (.cons (.assign 5 (.bin .add (.var 5) (.ix (.var 3) (.bin
    .mod (.bin .add (.bin .fdiv (.var 1) (.lit (.int 56))) (.bin .mul (.var 6) (.bin .add (.lit (.int 1)) (.bin .mod (.var 1) (.lit (.int 5))))))
    (.lit (.int 36)))))) .nil)) .nil)) .nil)) (.cons (.ife (.cmp .isin (.var 5) (.lst (.cons (.lit (.str [110, 111, 116])) (.cons (.lit (.str [97,
    110, 100])) (.cons (.lit (.str [111, 114])) (.cons (.lit (.str [116, 104, 101, 110])) (.cons (.lit (.str [97, 108, 108])) (.cons (.lit (.str [115,
    111, 109, 101])) (.cons (.lit (.str [102, 97, 108, 115, 101])) .nil))))))))) (.cons (.assign 5 (.bin .add (.var 5) (.lit (.str [48])))) .nil)
    .nil) (.cons (.ret (.var 5)) .nil))))))),
  .no⟩
def c_law_letter_by : FD := ⟨[false], 2,
  (.cons (.assign 1 (.lit (.str (65 :: 66 :: 67 :: 68 :: 69 :: 70 :: 71 :: 72 :: 73 :: 74 :: 75 :: 76 :: 77 :: 78 :: 79 :: 80 :: 81 :: 82 :: 83 :: 84 ::
    85 :: 86 :: 87 :: 88 :: 89 :: 90 :: [])))) (.cons (.ret (.bin .add (.ix (.var 1) (.bin .mod (.var 0) (.lit (.int 26)))) (.ix (.lst (.cons (.lit
    (.str [])) (.cons (.lit (.str [])) (.cons (.lit (.str [120])) (.cons (.lit (.str [50])) (.cons (.lit (.str [97, 98, 99, 49, 50, 51, 52]))
    .nil)))))) (.bin .mod (.bin .fdiv (.var 0) (.lit (.int 26))) (.lit (.int 5)))))) .nil)),
  .no⟩
def c_law_made : FD := ⟨[false, false, false, false], 11,
  (.cons (.assign 4 (.bin .mod (.var 0) (.lit (.int 9)))) (.cons (.assign 5 (.bin .mod (.bin .add (.bin .mul (.bin .fdiv (.var 0) (.lit (.int 9))) (.lit
    (.int 48271))) (.lit (.int 11))) (.lit (.int 2147483647)))) (.cons (.assign 5 (.bin .mod (.bin .mul (.var 5) (.var 5)) (.lit (.int 2147483629))))
    (.cons (.ife (.or (.cmp .eq (.var 1) (.lit (.int 0))) (.cmp .lt (.var 4) (.lit (.int 3)))) (.cons (.assignF 7 (.lst .nil)) (.cons (.for_ 8 (.rng1
    (.bin .mod (.bin .fdiv (.var 5) (.lit (.int 3))) (.lit (.int 4)))) (.cons (.assign 5 (.bin .mod (.bin .add (.bin .mul (.var 5) (.lit (.int
    69621))) (.lit (.int 7))) (.lit (.int 2147483587)))) (.cons (.append 7 (.ix (.var 2) (.bin .mod (.bin .fdiv (.var 5) (.lit (.int 12))) (.bf .len
    (.cons (.var 2) .nil))))) .nil))) (.cons (.ret (.tup (.cons (.lit (.str [105, 115])) (.cons (.ix (.var 3) (.bin .mod (.bin .fdiv (.var 0) (.lit
    (.int 9))) (.lit (.int 3)))) (.cons (.bf .tuple (.cons (.bor 7) .nil)) .nil))))) .nil))) .nil) (.cons (.ife (.cmp .eq (.var 4) (.lit (.int 3)))
    (.cons (.ret (.tup (.cons (.lit (.str [102, 97, 108, 115, 101])) .nil))) .nil) .nil) (.cons (.ife (.cmp .eq (.var 4) (.lit (.int 4))) (.cons (.ret
    (.tup (.cons (.lit (.str [110, 111, 116])) (.cons (.call 235 (.cons (.var 5) (.cons (.bin .sub (.var 1) (.lit (.int 1))) (.cons (.var 2) (.cons
    (.var 3) .nil))))) .nil)))) .nil) .nil) (.cons (.ife (.cmp .lt (.var 4) (.lit (.int 8))) (.cons (.assign 9 (.call 235 (.cons (.var 5) (.cons (.bin
    .sub (.var 1) (.lit (.int 1))) (.cons (.var 2) (.cons (.var 3) .nil)))))) (.cons (.assign 10 (.call 235 (.cons (.bin .mod (.bin .mul (.var 5)
    (.var 5)) (.lit (.int 2147483587))) (.cons (.bin .sub (.var 1) (.lit (.int 1))) (.cons (.var 2) (.cons (.var 3) .nil)))))) (.cons (.ret (.tup
    (.cons (.ix (.lst (.cons (.lit (.str [97, 110, 100])) (.cons (.lit (.str [111, 114])) (.cons (.lit (.str [116, 104, 101, 110])) .nil)))) (.bin
    .sub (.var 4) (.lit (.int 5)))) (.cons (.var 9) (.cons (.var 10) .nil))))) .nil))) .nil) (.cons (.assign 6 (.call 234 (.cons (.bin .fdiv (.var 5)
    (.lit (.int 2))) .nil))) (.cons (.assign 0 (.bin .mod (.bin .mul (.var 5) (.var 5)) (.lit (.int 2147483587)))) (.cons (.ret (.tup (.cons (.ix
    (.lst (.cons (.lit (.str [97, 108, 108])) (.cons (.lit (.str [115, 111, 109, 101])) .nil))) (.bin .mod (.var 5) (.lit (.int 2)))) (.cons (.var 6)
    (.cons (.call 235 (.cons (.var 0) (.cons (.bin .sub (.var 1) (.lit (.int 1))) (.cons (.bin .add (.var 2) (.lst (.cons (.var 6) .nil))) (.cons
    (.var 3) .nil))))) .nil))))) .nil)))))))))),
  .no⟩
def c_law_draw : FD := ⟨[false, false], 6,
  (.cons (.assign 2 (.call 232 (.cons (.var 0) (.cons (.var 1) .nil)))) (.cons (.assignF 3 (.comp 5 (.rng1 (.lit (.int 3))) (.lit (.bl true)) (.call 233
    (.cons (.bin .fdiv (.var 2) (.lit (.int 3))) (.cons (.call 232 (.cons (.var 0) (.cons (.bin .add (.bin .add (.var 1) (.lit (.int 1))) (.var 5))
    .nil))) (.cons (.var 5) .nil)))))) (.freeze 3 (.cons (.assignF 4 (.comp 5 (.rng1 (.lit (.int 3))) (.lit (.bl true)) (.call 233 (.cons (.bin .fdiv
    (.var 2) (.lit (.int 5))) (.cons (.call 232 (.cons (.var 0) (.cons (.bin .add (.bin .add (.var 1) (.lit (.int 4))) (.var 5)) .nil))) (.cons (.bin
    .add (.lit (.int 3)) (.var 5)) .nil)))))) (.cons (.ife (.cmp .eq (.bin .mod (.var 2) (.lit (.int 3))) (.lit (.int 1))) (.cons (.setIx 4 (.lit
    (.int 0)) (.ix (.var 3) (.lit (.int 0)))) .nil) .nil) (.freeze 4 (.cons (.ret (.lst (.cons (.var 3) (.cons (.var 4) .nil)))) .nil))))))),
  .no⟩
def c_law_some : FD := ⟨[false, false, false, false], 7,
  (.cons (.assignF 4 (.lst .nil)) (.cons (.for_ 5 (.rng1 (.var 3)) (.cons (.assign 6 (.call 232 (.cons (.var 0) (.cons (.bin .add (.var 1) (.var 5))
    .nil)))) (.cons (.append 4 (.call 235 (.cons (.bin .mod (.var 6) (.bin .add (.bin .pow (.lit (.int 10)) (.lit (.int 9))) (.lit (.int 7)))) (.cons
    (.bin .add (.lit (.int 1)) (.bin .mod (.var 6) (.lit (.int 4)))) (.cons (.ix (.var 2) (.lit (.int 0))) (.cons (.ix (.var 2) (.lit (.int 1)))
    .nil)))))) .nil))) (.cons (.retOwn 4) .nil))),
  .no⟩
def c_law_paths : FD := ⟨[false], 4,
  (.cons (.assignF 1 (.lst .nil)) (.cons (.assign 2 (.tup .nil)) (.cons (.for_ 3 (.rng1 (.bf .len (.cons (.var 0) .nil))) (.cons (.ife (.cmp .isin (.ix
    (.ix (.var 0) (.var 3)) (.lit (.int 1))) (.lst (.cons (.lit (.str [103, 117, 101, 115, 115])) (.cons (.lit (.str [110, 101, 119])) (.cons (.lit
    (.str [99, 97, 115, 101])) .nil))))) (.cons (.assign 2 (.bin .add (.sl (.var 2) (.lit .non) (.bin .sub (.ix (.ix (.var 0) (.var 3)) (.lit (.int
    0))) (.lit (.int 1)))) (.tup (.cons (.var 3) .nil)))) .nil) (.cons (.assign 2 (.sl (.var 2) (.lit .non) (.ix (.ix (.var 0) (.var 3)) (.lit (.int
    0))))) .nil)) (.cons (.append 1 (.var 2)) .nil))) (.cons (.retOwn 1) .nil)))),
  .no⟩
def c_law_line : FD := ⟨[false, false, false], 4,
  (.cons (.ife (.or (.not (.bf .isInt (.cons (.var 2) .nil))) (.or (.bf .isBool (.cons (.var 2) .nil)) (.or (.cmp .lt (.var 2) (.lit (.int 0))) (.cmp
    .ge (.var 2) (.var 1))))) (.cons (.ret (.lit .non)) .nil) .nil) (.cons (.assign 3 (.call 238 (.cons (.var 0) .nil))) (.cons (.ife (.cmp .ne (.sl
    (.ix (.var 3) (.var 1)) (.lit .non) (.bf .len (.cons (.ix (.var 3) (.var 2)) .nil))) (.ix (.var 3) (.var 2))) (.cons (.ret (.lit .non)) .nil)
    .nil) (.cons (.ret (.ix (.ix (.var 0) (.var 2)) (.lit (.int 2)))) .nil)))),
  .no⟩
def c_law_box : FD := ⟨[false, false, false], 6,
  (.cons (.ife (.or (.not (.bf .isInt (.cons (.var 2) .nil))) (.or (.bf .isBool (.cons (.var 2) .nil)) (.or (.cmp .lt (.var 2) (.lit (.int 0))) (.cmp
    .ge (.var 2) (.var 1))))) (.cons (.ret (.lit .non)) .nil) .nil) (.cons (.assign 3 (.call 238 (.cons (.var 0) .nil))) (.cons (.ife (.or (.cmp
    .notin (.ix (.ix (.var 0) (.var 2)) (.lit (.int 1))) (.lst (.cons (.lit (.str [103, 117, 101, 115, 115])) (.cons (.lit (.str [110, 101, 119]))
    (.cons (.lit (.str [99, 97, 115, 101])) .nil))))) (.cmp .isin (.var 2) (.ix (.var 3) (.var 1)))) (.cons (.ret (.lit .non)) .nil) .nil) (.cons
    (.ife (.cmp .ne (.sl (.ix (.var 3) (.var 1)) (.lit .non) (.bin .sub (.bf .len (.cons (.ix (.var 3) (.var 2)) .nil)) (.lit (.int 1)))) (.sl (.ix
    (.var 3) (.var 2)) (.lit .non) (.neg (.lit (.int 1))))) (.cons (.ret (.lit .non)) .nil) .nil) (.cons (.assignF 4 (.comp 5 (.rng1 (.var 1)) (.cmp
    .eq (.ix (.var 3) (.var 5)) (.ix (.var 3) (.var 2))) (.ix (.ix (.var 0) (.var 5)) (.lit (.int 2))))) (.freeze 4 (.cons (.ret (.lst (.cons (.ix
    (.ix (.var 0) (.var 2)) (.lit (.int 1))) (.cons (.ix (.ix (.var 0) (.var 2)) (.lit (.int 2))) (.cons (.ix (.ix (.var 0) (.var 2)) (.lit (.int 3)))
    (.cons (.ix (.var 4) (.neg (.lit (.int 1)))) .nil)))))) .nil))))))),
  .no⟩
def c_law_put_v1 : FD := ⟨[false, false, false], 5,
  (.cons (.ife (.cmp .eq (.ix (.var 0) (.lit (.int 0))) (.lit (.str [105, 115]))) (.cons (.ret (.tup (.cons (.ix (.var 0) (.lit (.int 0))) (.cons (.ix
    (.var 0) (.lit (.int 1))) (.cons (.bf .tuple (.cons (.comp 4 (.seq (.ix (.var 0) (.lit (.int 2)))) (.lit (.bl true)) (.ix (.lst (.cons (.var 4)
    (.cons (.var 2) .nil))) (.bf .int (.cons (.cmp .eq (.var 4) (.var 1)) .nil)))) .nil)) .nil))))) .nil) .nil) (.cons (.ife (.cmp .isin (.ix (.var 0)
    (.lit (.int 0))) (.lst (.cons (.lit (.str [97, 108, 108])) (.cons (.lit (.str [115, 111, 109, 101])) .nil)))) (.cons (.ife (.cmp .eq (.ix (.var 0)
    (.lit (.int 1))) (.var 1)) (.cons (.ret (.var 0)) .nil) .nil) (.cons (.ret (.tup (.cons (.ix (.var 0) (.lit (.int 0))) (.cons (.ix (.var 0) (.lit
    (.int 1))) (.cons (.call 263 (.cons (.ix (.var 0) (.lit (.int 2))) (.cons (.var 1) (.cons (.var 2) .nil)))) .nil))))) .nil)) .nil) (.cons (.ret
    (.bin .add (.tup (.cons (.ix (.var 0) (.lit (.int 0))) .nil)) (.bf .tuple (.cons (.comp 3 (.seq (.sl (.var 0) (.lit (.int 1)) (.lit .non))) (.lit
    (.bl true)) (.call 263 (.cons (.var 3) (.cons (.var 1) (.cons (.var 2) .nil))))) .nil)))) .nil))),
  .no⟩
def c_law_terms_v1 : FD := ⟨[false], 3,
  (.cons (.ife (.cmp .eq (.ix (.var 0) (.lit (.int 0))) (.lit (.str [105, 115]))) (.cons (.ret (.bf .list (.cons (.ix (.var 0) (.lit (.int 2))) .nil)))
    .nil) .nil) (.cons (.ife (.cmp .isin (.ix (.var 0) (.lit (.int 0))) (.lst (.cons (.lit (.str [97, 108, 108])) (.cons (.lit (.str [115, 111, 109,
    101])) .nil)))) (.cons (.ret (.call 264 (.cons (.ix (.var 0) (.lit (.int 2))) .nil))) .nil) .nil) (.cons (.assign 1 (.lst .nil)) (.cons (.for_ 2
    (.seq (.sl (.var 0) (.lit (.int 1)) (.lit .non))) (.cons (.assign 1 (.bin .add (.var 1) (.call 264 (.cons (.var 2) .nil)))) .nil)) (.cons (.ret
    (.var 1)) .nil))))),
  .no⟩
def c_law_is_name_v2 : FD := ⟨[false], 2,
  (.cons (.ife (.or (.not (.bf .isStr (.cons (.var 0) .nil))) (.not (.chain .le .le (.lit (.int 1)) (.bf .len (.cons (.var 0) .nil)) (.lit (.int 8)))))
    (.cons (.ret (.lit (.bl false))) .nil) .nil) (.cons (.ife (.cmp .notin (.ix (.var 0) (.lit (.int 0))) (.lit (.str (97 :: 98 :: 99 :: 100 :: 101 ::
    102 :: 103 :: 104 :: 105 :: 106 :: 107 :: 108 :: 109 :: 110 :: 111 :: 112 :: 113 :: 114 :: 115 :: 116 :: 117 :: 118 :: 119 :: 120 :: 121 :: 122 ::
    [])))) (.cons (.ret (.lit (.bl false))) .nil) .nil) (.cons (.ife (.not (.bf .all (.cons (.comp 1 (.seq (.var 0)) (.lit (.bl true)) (.cmp .isin
    (.var 1) (.lit (.str (97 :: 98 :: 99 :: 100 :: 101 :: 102 :: 103 :: 104 :: 105 :: 106 :: 107 :: 108 :: 109 :: 110 :: 111 :: 112 :: 113 :: 114 ::
    115 :: 116 :: 117 :: 118 :: 119 :: 120 :: 121 :: 122 :: 48 :: 49 :: 50 :: 51 :: 52 :: 53 :: 54 :: 55 :: 56 :: 57 :: []))))) .nil))) (.cons (.ret
    (.lit (.bl false))) .nil) .nil) (.cons (.ret (.cmp .notin (.var 0) (.lst (.cons (.lit (.str [110, 111, 116])) (.cons (.lit (.str [97, 110, 100]))
    (.cons (.lit (.str [111, 114])) (.cons (.lit (.str [116, 104, 101, 110])) (.cons (.lit (.str [97, 108, 108])) (.cons (.lit (.str [115, 111, 109,
    101])) (.cons (.lit (.str [102, 97, 108, 115, 101])) .nil)))))))))) .nil)))),
  .no⟩
def c_law_names : FD := ⟨[false], 3,
  (.cons (.ife (.isN (.var 0)) (.cons (.ret (.lst .nil)) .nil) .nil) (.cons (.ife (.cmp .eq (.ix (.var 0) (.lit (.int 0))) (.lit (.str [105, 115])))
    (.cons (.ret (.bf .list (.cons (.ix (.var 0) (.lit (.int 2))) .nil))) .nil) .nil) (.cons (.assign 1 (.lst .nil)) (.cons (.for_ 2 (.seq (.sl (.var
    0) (.lit (.int 1)) (.lit .non))) (.cons (.ife (.bf .isTuple (.cons (.var 2) .nil)) (.cons (.assign 1 (.bin .add (.var 1) (.call 273 (.cons (.var
    2) .nil)))) .nil) .nil) .nil)) (.cons (.ret (.var 1)) .nil))))),
  .no⟩
def c_law_out : FD := ⟨[false, false, false, false], 7,
  (.cons (.ife (.cmp .eq (.ix (.var 0) (.lit (.int 0))) (.lit (.str [105, 115]))) (.cons (.assignF 4 (.lst .nil)) (.cons (.for_ 5 (.rng1 (.bf .len
    (.cons (.ix (.var 0) (.lit (.int 2))) .nil))) (.cons (.ife (.and (.cmp .eq (.ix (.ix (.var 0) (.lit (.int 2))) (.var 5)) (.var 1)) (.or (.cmp .eq
    (.var 3) (.lit (.int 0))) (.cmp .gt (.bin .mod (.bin .add (.var 3) (.var 5)) (.lit (.int 3))) (.lit (.int 0))))) (.cons (.append 4 (.var 2)) .nil)
    (.cons (.append 4 (.ix (.ix (.var 0) (.lit (.int 2))) (.var 5))) .nil)) .nil)) (.cons (.ret (.tup (.cons (.ix (.var 0) (.lit (.int 0))) (.cons
    (.ix (.var 0) (.lit (.int 1))) (.cons (.bf .tuple (.cons (.bor 4) .nil)) .nil))))) .nil))) .nil) (.cons (.ife (.and (.cmp .isin (.ix (.var 0)
    (.lit (.int 0))) (.lst (.cons (.lit (.str [97, 108, 108])) (.cons (.lit (.str [115, 111, 109, 101])) .nil)))) (.cmp .eq (.ix (.var 0) (.lit (.int
    1))) (.var 2))) (.cons (.ret (.var 0)) .nil) .nil) (.cons (.ife (.cmp .isin (.ix (.var 0) (.lit (.int 0))) (.lst (.cons (.lit (.str [97, 108,
    108])) (.cons (.lit (.str [115, 111, 109, 101])) .nil)))) (.cons (.ret (.tup (.cons (.ix (.var 0) (.lit (.int 0))) (.cons (.ix (.var 0) (.lit
    (.int 1))) (.cons (.call 274 (.cons (.ix (.var 0) (.lit (.int 2))) (.cons (.var 1) (.cons (.var 2) (.cons (.var 3) .nil))))) .nil))))) .nil) .nil)
    (.cons (.ret (.bin .add (.sl (.var 0) (.lit .non) (.lit (.int 1))) (.bf .tuple (.cons (.comp 6 (.seq (.sl (.var 0) (.lit (.int 1)) (.lit .non)))
    (.lit (.bl true)) (.call 274 (.cons (.var 6) (.cons (.var 1) (.cons (.var 2) (.cons (.bin .mul (.bin .fdiv (.var 3) (.lit (.int 3))) (.bin .add
    (.bin .mod (.var 3) (.lit (.int 2))) (.lit (.int 1)))) .nil)))))) .nil)))) .nil)))),
  .no⟩
def c_law_lines_v2 : FD := ⟨[false, false, false], 11,
  (.cons (.assignF 3 (.lst .nil)) (.cons (.for_ 4 (.rng1 (.bin .mod (.call 232 (.cons (.var 0) (.cons (.lit (.int 11)) .nil))) (.lit (.int 4)))) (.cons
    (.assign 6 (.call 232 (.cons (.var 0) (.cons (.bin .add (.lit (.int 12)) (.var 4)) .nil)))) (.cons (.assign 10 (.tup .nil)) (.cons (.ife (.cmp .eq
    (.bin .mod (.var 6) (.lit (.int 5))) (.lit (.int 1))) (.cons (.assign 10 (.tup (.cons (.lit (.int 0)) (.cons (.ix (.ix (.var 2) (.lit (.int 0)))
    (.bin .mod (.bin .fdiv (.var 6) (.lit (.int 5))) (.lit (.int 3)))) .nil)))) .nil) .nil) (.cons (.ife (.cmp .eq (.bin .mod (.bin .fdiv (.var 6)
    (.lit (.int 135))) (.lit (.int 3))) (.lit (.int 1))) (.cons (.ife (.cmp .eq (.bin .mod (.bin .fdiv (.var 6) (.lit (.int 1215))) (.lit (.int 2)))
    (.lit (.int 1))) (.cons (.append 3 (.tup (.cons (.lit (.int 1)) (.cons (.ix (.lst (.cons (.lit (.str [110, 101, 119])) (.cons (.lit (.str [99, 97,
    115, 101])) .nil))) (.bin .mod (.bin .fdiv (.var 6) (.lit (.int 2430))) (.lit (.int 2)))) (.cons (.lit .non) (.cons (.tup (.cons (.ix (.ix (.var
    2) (.lit (.int 0))) (.bin .mod (.bin .fdiv (.var 6) (.lit (.int 4860))) (.lit (.int 3)))) .nil)) .nil)))))) .nil) (.cons (.append 3 (.tup (.cons
    (.lit (.int 1)) (.cons (.lit (.str [103, 117, 101, 115, 115])) (.cons (.ix (.var 1) (.bin .mod (.bin .fdiv (.var 6) (.lit (.int 405))) (.bf .len
    (.cons (.var 1) .nil)))) (.cons (.tup .nil) .nil)))))) .nil)) (.cons (.append 3 (.tup (.cons (.lit (.int 1)) (.cons (.lit (.str [101, 97, 99,
    104])) (.cons (.ix (.var 1) (.bin .mod (.bin .fdiv (.var 6) (.lit (.int 45))) (.bf .len (.cons (.var 1) .nil)))) (.cons (.var 10) .nil))))))
    .nil)) (.cons (.append 3 (.tup (.cons (.lit (.int 0)) (.cons (.ix (.lst (.cons (.lit (.str [103, 105, 118, 101, 110])) (.cons (.lit (.str [101,
    97, 99, 104])) (.cons (.lit (.str [97, 103, 97, 105, 110])) .nil)))) (.bin .mod (.bin .fdiv (.var 6) (.lit (.int 15))) (.lit (.int 3)))) (.cons
    (.ix (.var 1) (.bin .mod (.bin .fdiv (.var 6) (.lit (.int 45))) (.bf .len (.cons (.var 1) .nil)))) (.cons (.var 10) .nil)))))) .nil)) .nil)))))
    (.cons (.assign 5 (.bf .len (.cons (.bor 3) .nil))) (.cons (.assign 6 (.call 232 (.cons (.var 0) (.cons (.lit (.int 16)) .nil)))) (.cons (.assign
    7 (.ix (.ix (.var 2) (.lit (.int 0))) (.bin .mod (.var 6) (.lit (.int 3))))) (.cons (.ife (.cmp .eq (.bin .mod (.bin .fdiv (.var 6) (.lit (.int
    3))) (.lit (.int 6))) (.lit (.int 1))) (.cons (.assign 7 (.ix (.lst (.cons (.lit (.str [88])) (.cons (.lit (.str [])) (.cons (.lit (.int 3))
    (.cons (.lit (.str [110, 111, 116])) (.cons (.lit (.str [99, 45])) (.cons (.lit .non) .nil))))))) (.bin .mod (.bin .fdiv (.var 6) (.lit (.int
    18))) (.lit (.int 6))))) .nil) .nil) (.cons (.assign 8 (.ix (.lst (.cons (.lit (.str [110, 101, 119])) (.cons (.lit (.str [110, 101, 119])) (.cons
    (.lit (.str [110, 101, 119])) (.cons (.lit (.str [110, 101, 119])) (.cons (.lit (.str [99, 97, 115, 101])) (.cons (.lit (.str [103, 117, 101, 115,
    115])) .nil))))))) (.bin .mod (.bin .fdiv (.var 6) (.lit (.int 108))) (.lit (.int 6))))) (.cons (.assign 9 (.ix (.lst (.cons (.lit .non) (.cons
    (.ix (.var 1) (.bin .mod (.bin .fdiv (.var 6) (.lit (.int 648))) (.bf .len (.cons (.var 1) .nil)))) .nil))) (.bf .int (.cons (.cmp .ne (.var 8)
    (.lit (.str [110, 101, 119]))) .nil)))) (.cons (.assign 10 (.tup (.cons (.var 7) .nil))) (.cons (.ife (.or (.cmp .eq (.var 8) (.lit (.str [103,
    117, 101, 115, 115]))) (.cmp .eq (.bin .mod (.bin .fdiv (.var 6) (.lit (.int 648))) (.lit (.int 9))) (.lit (.int 1)))) (.cons (.assign 10 (.ix
    (.lst (.cons (.tup .nil) (.cons (.tup (.cons (.var 7) (.cons (.var 7) .nil))) .nil))) (.bin .mod (.var 6) (.lit (.int 2))))) .nil) .nil) (.cons
    (.append 3 (.tup (.cons (.lit (.int 1)) (.cons (.var 8) (.cons (.var 9) (.cons (.var 10) .nil)))))) (.cons (.for_ 4 (.rng1 (.bin .mod (.call 232
    (.cons (.var 0) (.cons (.lit (.int 17)) .nil))) (.lit (.int 3)))) (.cons (.assign 6 (.call 232 (.cons (.var 0) (.cons (.bin .add (.lit (.int 18))
    (.var 4)) .nil)))) (.cons (.ife (.cmp .eq (.bin .mod (.var 6) (.lit (.int 6))) (.lit (.int 1))) (.cons (.append 3 (.tup (.cons (.lit (.int 2))
    (.cons (.lit (.str [103, 117, 101, 115, 115])) (.cons (.ix (.var 1) (.bin .mod (.bin .fdiv (.var 6) (.lit (.int 6))) (.bf .len (.cons (.var 1)
    .nil)))) (.cons (.tup .nil) .nil)))))) .nil) .nil) (.cons (.append 3 (.tup (.cons (.bin .add (.lit (.int 1)) (.bf .int (.cons (.and (.cmp .eq
    (.bin .mod (.var 6) (.lit (.int 6))) (.lit (.int 1))) (.cmp .eq (.bin .mod (.var 6) (.lit (.int 12))) (.lit (.int 1)))) .nil))) (.cons (.lit (.str
    [97, 110, 121])) (.cons (.ix (.var 1) (.bin .mod (.bin .fdiv (.var 6) (.lit (.int 12))) (.bf .len (.cons (.var 1) .nil)))) (.cons (.tup .nil)
    .nil)))))) .nil)))) (.cons (.retP 3 (.cons (.var 7) (.cons (.var 5) .nil))) .nil))))))))))))),
  .prt⟩
def c_law_new : FD := ⟨[false, false], 4,
  (.cons (.assign 2 (.ix (.ix (.var 0) (.var 1)) (.lit (.int 3)))) (.cons (.ife (.or (.cmp .ne (.ix (.ix (.var 0) (.var 1)) (.lit (.int 1))) (.lit (.str
    [110, 101, 119]))) (.or (.cmp .ne (.bf .len (.cons (.var 2) .nil)) (.lit (.int 1))) (.not (.call 265 (.cons (.ix (.var 2) (.lit (.int 0)))
    .nil))))) (.cons (.ret (.lit (.bl false))) .nil) .nil) (.cons (.for_ 3 (.seq (.sl (.var 0) (.lit .non) (.var 1))) (.cons (.ife (.or (.cmp .isin
    (.ix (.var 2) (.lit (.int 0))) (.ix (.var 3) (.lit (.int 3)))) (.cmp .isin (.ix (.var 2) (.lit (.int 0))) (.call 273 (.cons (.ix (.var 3) (.lit
    (.int 2))) .nil)))) (.cons (.ret (.lit (.bl false))) .nil) .nil) .nil)) (.cons (.ret (.lit (.bl true))) .nil)))),
  .no⟩
def c_law_every : FD := ⟨[false, false], 5,
  (.cons (.assign 2 (.ix (.ix (.var 0) (.var 1)) (.lit (.int 2)))) (.cons (.assign 3 (.ix (.ix (.var 0) (.var 1)) (.lit (.int 3)))) (.cons (.assign 4
    (.call 253 (.cons (.var 0) (.cons (.var 1) (.cons (.ix (.var 3) (.lit (.int 0))) .nil))))) (.cons (.ife (.or (.isN (.var 4)) (.or (.cmp .ne (.ix
    (.var 4) (.lit (.int 0))) (.lit (.str [110, 101, 119]))) (.or (.cmp .ne (.bf .len (.cons (.ix (.var 4) (.lit (.int 2))) .nil)) (.lit (.int 1)))
    (.not (.call 265 (.cons (.ix (.ix (.var 4) (.lit (.int 2))) (.lit (.int 0))) .nil)))))) (.cons (.ret (.lit (.bl false))) .nil) .nil) (.cons (.ife
    (.or (.cmp .ne (.ix (.var 2) (.lit (.int 0))) (.lit (.str [97, 108, 108]))) (.cmp .isin (.ix (.ix (.var 4) (.lit (.int 2))) (.lit (.int 0)))
    (.call 273 (.cons (.var 2) .nil)))) (.cons (.ret (.lit (.bl false))) .nil) .nil) (.cons (.ret (.cmp .eq (.ix (.var 4) (.lit (.int 3))) (.call 263
    (.cons (.ix (.var 2) (.lit (.int 2))) (.cons (.ix (.var 2) (.lit (.int 1))) (.cons (.ix (.ix (.var 4) (.lit (.int 2))) (.lit (.int 0))) .nil))))))
    .nil)))))),
  .no⟩
def c_law_whole_v1 : FD := ⟨[false, true, false, false, false], 12,
  (.cons (.assign 5 (.call 232 (.cons (.var 0) (.cons (.lit (.int 20)) .nil)))) (.cons (.assign 6 (.call 253 (.cons (.bin .add (.bor 1) (.lst (.cons
    (.tup (.cons (.lit (.int 0)) (.cons (.lit (.str [97, 110, 121])) (.cons (.ix (.var 3) (.lit (.int 0))) (.cons (.tup .nil) .nil))))) .nil))) (.cons
    (.bf .len (.cons (.bor 1) .nil)) (.cons (.var 4) .nil))))) (.cons (.assign 7 (.ix (.var 6) (.lit (.int 3)))) (.cons (.ife (.isN (.var 7)) (.cons
    (.assign 7 (.ix (.var 3) (.bin .mod (.bin .fdiv (.var 5) (.lit (.int 7))) (.bf .len (.cons (.var 3) .nil))))) .nil) .nil) (.cons (.assign 8 (.call
    234 (.cons (.bin .fdiv (.var 5) (.lit (.int 30))) .nil))) (.cons (.assign 9 (.call 274 (.cons (.var 7) (.cons (.var 2) (.cons (.var 8) (.cons (.ix
    (.lst (.cons (.lit (.int 0)) (.cons (.bin .mod (.bin .fdiv (.var 5) (.lit (.int 7))) (.lit (.int 50))) (.cons (.lit (.int 0)) (.cons (.bin .mod
    (.bin .fdiv (.var 5) (.lit (.int 7))) (.lit (.int 50))) .nil))))) (.bin .mod (.var 5) (.lit (.int 4)))) .nil)))))) (.cons (.assign 10 (.tup (.cons
    (.ix (.lst (.cons (.lit (.str [97, 108, 108])) (.cons (.lit (.str [97, 108, 108])) (.cons (.lit (.str [97, 108, 108])) (.cons (.lit (.str [115,
    111, 109, 101])) .nil))))) (.bin .mod (.bin .fdiv (.var 5) (.lit (.int 4))) (.lit (.int 4)))) (.cons (.var 8) (.cons (.var 9) .nil))))) (.cons
    (.ife (.cmp .eq (.bin .mod (.bin .fdiv (.var 5) (.lit (.int 16))) (.lit (.int 8))) (.lit (.int 1))) (.cons (.assign 10 (.var 7)) .nil) .nil)
    (.cons (.assign 11 (.var 4)) (.cons (.ife (.cmp .eq (.bin .mod (.bin .fdiv (.var 5) (.lit (.int 128))) (.lit (.int 8))) (.lit (.int 1))) (.cons
    (.assign 11 (.ix (.lst (.cons (.lit (.int 0)) (.cons (.bf .len (.cons (.bor 1) .nil)) (.cons (.neg (.lit (.int 1))) (.cons (.bin .add (.var 4)
    (.lit (.int 1))) (.cons (.var 2) (.cons (.lit (.bl true)) .nil))))))) (.bin .mod (.bin .fdiv (.var 5) (.lit (.int 1024))) (.lit (.int 6))))) .nil)
    .nil) (.cons (.append 1 (.tup (.cons (.lit (.int 0)) (.cons (.lit (.str [101, 118, 101, 114, 121])) (.cons (.var 10) (.cons (.tup (.cons (.var 11)
    .nil)) .nil)))))) (.cons (.retM [1] (.var 4)) .nil)))))))))))),
  .chg [1]⟩
def c_law_v26 : FD := ⟨[false], 13,
  (.cons (.assign 1 (.call 236 (.cons (.var 0) (.cons (.lit (.int 0)) .nil)))) (.cons (.assign 2 (.call 237 (.cons (.var 0) (.cons (.lit (.int 7))
    (.cons (.var 1) (.cons (.lit (.int 3)) .nil)))))) (.pair 3 4 275 (.cons (.var 0) (.cons (.var 2) (.cons (.var 1) .nil))) (.cons (.callM (.asg 5)
    278 (.cons (.var 0) (.cons (.bor 4) (.cons (.prt 3 1) (.cons (.var 2) (.cons (.prt 3 2) .nil))))) [some 4]) (.cons (.assign 6 (.bf .tuple (.cons
    (.bor 4) .nil))) (.cons (.assign 7 (.call 144 (.cons (.var 6) .nil))) (.cons (.assign 8 (.bin .sub (.bf .len (.cons (.bor 4) .nil)) (.lit (.int
    1)))) (.freeze 4 (.cons (.assign 9 (.lst (.cons (.call 277 (.cons (.var 4) (.cons (.var 8) .nil))) (.cons (.call 276 (.cons (.var 4) (.cons (.var
    5) .nil))) .nil)))) (.cons (.assign 10 (.lst (.cons (.call 231 (.cons (.var 6) (.cons (.var 7) (.cons (.var 8) .nil)))) (.cons (.call 231 (.cons
    (.var 6) (.cons (.var 7) (.cons (.var 5) .nil)))) .nil)))) (.cons (.ife (.cmp .ne (.ix (.ix (.var 4) (.var 5)) (.lit (.int 1))) (.lit (.str [110,
    101, 119]))) (.cons (.assign 9 (.bin .add (.sl (.var 9) (.lit .non) (.lit (.int 1))) (.sl (.var 10) (.lit (.int 1)) (.lit .non)))) .nil) .nil)
    (.cons (.assign 11 (.lst (.cons (.call 231 (.cons (.var 6) (.cons (.var 7) (.cons (.var 8) .nil)))) (.cons (.call 231 (.cons (.var 6) (.cons (.var
    7) (.cons (.var 5) .nil)))) .nil)))) (.cons (.ret (.and (.bf .all (.cons (.comp 12 (.seq (.var 10)) (.lit (.bl true)) (.bf .isBool (.cons (.var
    12) .nil))) .nil)) (.and (.cmp .eq (.var 10) (.var 9)) (.and (.cmp .eq (.var 11) (.var 9)) (.cmp .eq (.var 6) (.bf .tuple (.cons (.var 4)
    .nil))))))) .nil))))))))))))),
  .no⟩
def c_law_new_v1 : FD := ⟨[false, false], 4,
  (.cons (.assign 2 (.ix (.ix (.var 0) (.var 1)) (.lit (.int 3)))) (.cons (.ife (.or (.cmp .ne (.bf .len (.cons (.var 2) .nil)) (.lit (.int 1))) (.not
    (.call 265 (.cons (.ix (.var 2) (.lit (.int 0))) .nil)))) (.cons (.ret (.lit (.bl false))) .nil) .nil) (.cons (.for_ 3 (.seq (.sl (.var 0) (.lit
    .non) (.var 1))) (.cons (.ife (.or (.cmp .isin (.ix (.var 2) (.lit (.int 0))) (.ix (.var 3) (.lit (.int 3)))) (.cmp .isin (.ix (.var 2) (.lit
    (.int 0))) (.call 273 (.cons (.ix (.var 3) (.lit (.int 2))) .nil)))) (.cons (.ret (.lit (.bl false))) .nil) .nil) .nil)) (.cons (.ret (.lit (.bl
    true))) .nil)))),
  .no⟩
def c_law_one : FD := ⟨[false, false], 7,
  (.cons (.assign 2 (.ix (.ix (.var 0) (.var 1)) (.lit (.int 2)))) (.cons (.assign 3 (.ix (.ix (.var 0) (.var 1)) (.lit (.int 3)))) (.cons (.ife (.cmp
    .ne (.bf .len (.cons (.var 3) .nil)) (.lit (.int 2))) (.cons (.ret (.lit (.bl false))) .nil) .nil) (.cons (.assign 4 (.call 239 (.cons (.var 0)
    (.cons (.var 1) (.cons (.ix (.var 3) (.lit (.int 0))) .nil))))) (.cons (.assign 5 (.call 253 (.cons (.var 0) (.cons (.var 1) (.cons (.ix (.var 3)
    (.lit (.int 1))) .nil))))) (.cons (.ife (.or (.isN (.var 4)) (.or (.cmp .ne (.ix (.var 4) (.lit (.int 0))) (.lit (.str [115, 111, 109, 101])))
    (.or (.isN (.var 5)) (.cmp .ne (.ix (.var 5) (.lit (.int 0))) (.lit (.str [99, 97, 115, 101])))))) (.cons (.ret (.lit (.bl false))) .nil) .nil)
    (.cons (.ife (.or (.cmp .ne (.bf .len (.cons (.ix (.var 5) (.lit (.int 2))) .nil)) (.lit (.int 1))) (.not (.call 265 (.cons (.ix (.ix (.var 5)
    (.lit (.int 2))) (.lit (.int 0))) .nil)))) (.cons (.ret (.lit (.bl false))) .nil) .nil) (.cons (.assign 6 (.ix (.ix (.var 5) (.lit (.int 2)))
    (.lit (.int 0)))) (.cons (.ife (.or (.cmp .isin (.var 6) (.call 273 (.cons (.var 2) .nil))) (.or (.cmp .isin (.var 6) (.call 273 (.cons (.var 4)
    .nil))) (.cmp .ne (.ix (.var 5) (.lit (.int 3))) (.var 2)))) (.cons (.ret (.lit (.bl false))) .nil) .nil) (.cons (.ret (.cmp .eq (.ix (.var 5)
    (.lit (.int 1))) (.call 263 (.cons (.ix (.var 4) (.lit (.int 2))) (.cons (.ix (.var 4) (.lit (.int 1))) (.cons (.var 6) .nil)))))) .nil)))))))))),
  .no⟩
end Ev
/-! The law's text, its head, its end. -/
namespace LawEnd
open PySem PySem.Spec Ev
open PyProof.Rows hiding St
def top (i : Nat) : Stmt := PySem.Challenge.pw_boxproof_k35_new_and_every.main.body.getD i (.Pass ⟨0, 0, 0, 0⟩)
def fsL0 : List (Nat × Df) := [(154, ⟨c_begins, top 1, ["path", "first"], ["path", "first"]⟩),
    (155, ⟨c_seen, top 2, ["paths", "k", "i"], ["paths", "k", "i"]⟩),
    (157, ⟨c_box_seen, top 3, ["paths", "k", "b"], ["paths", "k", "b"]⟩),
    (159, ⟨c_end_of, top 4, ["paths", "b", "found", "k"], ["paths", "b"]⟩),
    (140, ⟨c_opens, top 9, ["rule"], ["rule"]⟩),
    (144, ⟨c_boxes, top 10, ["lines", "paths", "ahead", "line", "kept"], ["lines"]⟩),
    (5, ⟨c_built, top 17, ["text", "firsts", "sign"], ["text", "firsts"]⟩),
    (6, ⟨c_is_name, top 18, ["text"], ["text"]⟩),
    (7, ⟨c_is_letter, top 19, ["text"], ["text"]⟩),
    (15, ⟨c_parts_of, top 20, ["A"], ["A"]⟩),
    (27, ⟨c_rising, top 21, ["texts"], ["texts"]⟩),
    (28, ⟨c_names_in, top 22, ["A", "found", "part", "term"], ["A"]⟩),
    (29, ⟨c_free_in, top 23, ["A", "found", "part", "term", "letter"], ["A"]⟩),
    (35, ⟨c_put, top 24, ["A", "letter", "name", "part", "term"], ["A", "letter", "name"]⟩),
    (209, ⟨c_is_number_v1, top 26, ["thing"], ["thing"]⟩),
    (210, ⟨c_names_one, top 27, ["thing"], ["thing"]⟩),
    (211, ⟨c_told, top 28, ["lines", "paths", "k", "ref"], ["lines", "paths", "k", "ref"]⟩),
    (212, ⟨c_is_form, top 29, ["A", "sign"], ["A", "sign"]⟩),
    (213, ⟨c_is_box, top 30, ["lines", "paths", "k", "ref"], ["lines", "paths", "k", "ref"]⟩),
    (214, ⟨c_closes, top 31, ["lines", "paths", "k", "ref", "A", "B"], ["lines", "paths", "k", "ref", "A", "B"]⟩)]
def fsL1 : List (Nat × Df) := [(215, ⟨c_named, top 32, ["line", "name"], ["line", "name"]⟩),
    (216, ⟨c_is_new, top 33, ["lines", "k", "refs", "line"], ["lines", "k"]⟩),
    (217, ⟨c_opening, top 34, ["lines", "k", "line", "ahead"], ["lines", "k"]⟩),
    (218, ⟨c_by_one, top 35, ["rule", "S", "A"], ["rule", "S", "A"]⟩),
    (219, ⟨c_by_two, top 36, ["rule", "S", "A", "B"], ["rule", "S", "A", "B"]⟩),
    (220, ⟨c_by_box, top 37, ["lines", "paths", "k", "rule", "S", "ref"], ["lines", "paths", "k"]⟩),
    (221, ⟨c_by_cases, top 38, ["lines", "paths", "k", "S", "refs", "A"], ["lines", "paths", "k"]⟩),
    (222, ⟨c_by_each, top 39, ["A", "S", "name"], ["A", "S", "name"]⟩),
    (223, ⟨c_by_some, top 40, ["A", "S", "name"], ["A", "S", "name"]⟩),
    (224, ⟨c_box_name, top 41, ["lines", "paths", "k", "ref", "rule"], ["lines", "paths", "k", "ref", "rule"]⟩),
    (225, ⟨c_by_every, top 42, ["lines", "paths", "k", "S", "ref", "name"], ["lines", "paths", "k"]⟩),
    (226, ⟨c_by_case, top 43, ["lines", "paths", "k", "S", "refs", "A", "name"], ["lines", "paths", "k"]⟩),
    (227, ⟨c_refs_of, top 44, ["rule"], ["rule"]⟩),
    (228, ⟨c_by_lines, top 45, ["lines", "paths", "k", "rule", "S", "refs"], ["lines", "paths", "k"]⟩),
    (229, ⟨c_by_boxes, top 46, ["lines", "paths", "k", "rule"], ["lines", "paths", "k"]⟩),
    (230, ⟨c_is_told, top 47, ["line"], ["line"]⟩),
    (231, ⟨c_follows, top 48, ["lines", "paths", "k", "line"], ["lines", "paths", "k"]⟩),
    (232, ⟨c_law_cell_at_v1, top 50, ["_law_script", "_law_k", "_law_cell"], ["_law_script", "_law_k"]⟩),
    (233, ⟨c_law_name_by_v2, top 51, ["_law_shape", "_law_cell", "_law_k", "_law_signs", "_law_place", "_law_name", "_law_turn"], ["_law_shape", "_law_cell", "_law_k"]⟩),
    (234, ⟨c_law_letter_by, top 52, ["_law_cell", "_law_signs"], ["_law_cell"]⟩)]
def fsL2 : List (Nat × Df) := [(235, ⟨c_law_made, top 53, ["_law_number", "_law_room", "_law_terms_here", "_law_words", "_law_kind", "_law_rest", "_law_letter", "_law_some_here", "_law_turn", "_law_first", "_law_second"], ["_law_number", "_law_room", "_law_terms_here", "_law_words"]⟩),
    (236, ⟨c_law_draw, top 54, ["_law_script", "_law_at", "_law_shape", "_law_names_here", "_law_words", "_law_k"], ["_law_script", "_law_at"]⟩),
    (237, ⟨c_law_some, top 55, ["_law_script", "_law_at", "_law_drawn", "_law_count", "_law_found", "_law_k", "_law_number"], ["_law_script", "_law_at", "_law_drawn", "_law_count"]⟩),
    (238, ⟨c_law_paths, top 56, ["_law_lines_here", "_law_found", "_law_ahead", "_law_k"], ["_law_lines_here"]⟩),
    (239, ⟨c_law_line, top 57, ["_law_lines_here", "_law_k", "_law_ref", "_law_paths_here"], ["_law_lines_here", "_law_k", "_law_ref"]⟩),
    (253, ⟨c_law_box, top 58, ["_law_lines_here", "_law_k", "_law_ref", "_law_paths_here", "_law_end", "_law_j"], ["_law_lines_here", "_law_k", "_law_ref"]⟩),
    (263, ⟨c_law_put_v1, top 59, ["_law_ka", "_law_letter", "_law_name", "_law_part", "_law_term"], ["_law_ka", "_law_letter", "_law_name"]⟩),
    (264, ⟨c_law_terms_v1, top 60, ["_law_ka", "_law_found", "_law_part"], ["_law_ka"]⟩),
    (265, ⟨c_law_is_name_v2, top 61, ["_law_thing", "_law_sign"], ["_law_thing"]⟩),
    (273, ⟨c_law_names, top 62, ["_law_ka", "_law_found", "_law_part"], ["_law_ka"]⟩),
    (274, ⟨c_law_out, top 63, ["_law_ka", "_law_name", "_law_letter", "_law_number", "_law_some_here", "_law_k", "_law_part"], ["_law_ka", "_law_name", "_law_letter", "_law_number"]⟩),
    (275, ⟨c_law_lines_v2, top 64, ["_law_script", "_law_some_here", "_law_drawn", "_law_lines_here", "_law_k", "_law_b", "_law_cell", "_law_name", "_law_rule", "_law_statement", "_law_refs"], ["_law_script", "_law_some_here", "_law_drawn"]⟩),
    (276, ⟨c_law_new, top 65, ["_law_lines_here", "_law_b", "_law_refs", "_law_line_here"], ["_law_lines_here", "_law_b"]⟩),
    (277, ⟨c_law_every, top 66, ["_law_lines_here", "_law_k", "_law_ks", "_law_refs", "_law_box_here"], ["_law_lines_here", "_law_k"]⟩),
    (278, ⟨c_law_whole_v1, top 67, ["_law_script", "_law_lines_here", "_law_name", "_law_some_here", "_law_b", "_law_cell", "_law_box_here", "_law_end", "_law_letter", "_law_inner", "_law_ks", "_law_ref"], ["_law_script", "_law_lines_here", "_law_name", "_law_some_here", "_law_b"]⟩),
    (279, ⟨c_law_v26, top 68, ["_law_script", "_law_drawn", "_law_some_here", "_law_pair", "_law_lines_here", "_law_b", "_law_handed", "_law_paths_here", "_law_k", "_law_due", "_law_found", "_law_again", "_law_one"], ["_law_script"]⟩)]
def gsL0 : List (Nat × D) := [(0, .str (97 :: 98 :: 99 :: 100 :: 101 :: 102 :: 103 :: 104 :: 105 :: 106 :: 107 :: 108 :: 109 :: 110 :: 111 :: 112 :: 113 :: 114 :: 115 :: 116 :: 117 :: 118 :: 119 :: 120 :: 121 :: 122 :: [])),
    (1, .str (65 :: 66 :: 67 :: 68 :: 69 :: 70 :: 71 :: 72 :: 73 :: 74 :: 75 :: 76 :: 77 :: 78 :: 79 :: 80 :: 81 :: 82 :: 83 :: 84 :: 85 :: 86 :: 87 :: 88 :: 89 :: 90 :: [])),
    (2, .str [48, 49, 50, 51, 52, 53, 54, 55, 56, 57]),
    (3, .tup [.str [110, 111, 116], .str [97, 110, 100], .str [111, 114], .str [116, 104, 101, 110], .str [97, 108, 108], .str [115, 111, 109, 101], .str [102, 97, 108, 115, 101]]),
    (4, .int 8)]
def xsL0 : List (Nat × PySem.Str) := [(42, "BoxError"),
    (65, "NoBox")]
def nmL0 : List (Nat × PySem.Str) := [(154, "begins"),
    (155, "seen"),
    (157, "box_seen"),
    (159, "end_of"),
    (140, "opens"),
    (144, "boxes"),
    (5, "built"),
    (6, "is_name"),
    (7, "is_letter"),
    (15, "parts_of"),
    (27, "rising"),
    (28, "names_in"),
    (29, "free_in"),
    (35, "put"),
    (209, "is_number"),
    (210, "names_one"),
    (211, "told"),
    (212, "is_form"),
    (213, "is_box"),
    (214, "closes")]
def nmL1 : List (Nat × PySem.Str) := [(215, "named"),
    (216, "is_new"),
    (217, "opening"),
    (218, "by_one"),
    (219, "by_two"),
    (220, "by_box"),
    (221, "by_cases"),
    (222, "by_each"),
    (223, "by_some"),
    (224, "box_name"),
    (225, "by_every"),
    (226, "by_case"),
    (227, "refs_of"),
    (228, "by_lines"),
    (229, "by_boxes"),
    (230, "is_told"),
    (231, "follows"),
    (232, "_law_cell_at"),
    (233, "_law_name_by"),
    (234, "_law_letter_by")]
def nmL2 : List (Nat × PySem.Str) := [(235, "_law_made"),
    (236, "_law_draw"),
    (237, "_law_some"),
    (238, "_law_paths"),
    (239, "_law_line"),
    (253, "_law_box"),
    (263, "_law_put"),
    (264, "_law_terms"),
    (265, "_law_is_name"),
    (273, "_law_names"),
    (274, "_law_out"),
    (275, "_law_lines"),
    (276, "_law_new"),
    (277, "_law_every"),
    (278, "_law_whole"),
    (279, "law"),
    (0, "SMALL"),
    (1, "GREAT"),
    (2, "FIGURES"),
    (3, "KEPT")]
def nmL3 : List (Nat × PySem.Str) := [(4, "MOST_SIGNS"),
    (42, "BoxError"),
    (65, "NoBox")]
def emL0 : List (Nat × Nat × Bool) := []
def tx : Tx where
  fs := fsL0 ++ fsL1 ++ fsL2
  gs := gsL0
  xs := xsL0
  nms := nmL0 ++ nmL1 ++ nmL2 ++ nmL3
  ems := emL0
instance : Fn tx.T 154 c_begins := ⟨rfl⟩
instance : Fn tx.T 155 c_seen := ⟨rfl⟩
instance : Fn tx.T 157 c_box_seen := ⟨rfl⟩
instance : Fn tx.T 159 c_end_of := ⟨rfl⟩
instance : Fn tx.T 140 c_opens := ⟨rfl⟩
instance : Fn tx.T 144 c_boxes := ⟨rfl⟩
instance : Fn tx.T 5 c_built := ⟨rfl⟩
instance : Fn tx.T 6 c_is_name := ⟨rfl⟩
instance : Fn tx.T 7 c_is_letter := ⟨rfl⟩
instance : Fn tx.T 15 c_parts_of := ⟨rfl⟩
instance : Fn tx.T 27 c_rising := ⟨rfl⟩
instance : Fn tx.T 28 c_names_in := ⟨rfl⟩
instance : Fn tx.T 29 c_free_in := ⟨rfl⟩
instance : Fn tx.T 35 c_put := ⟨rfl⟩
instance : Fn tx.T 209 c_is_number_v1 := ⟨rfl⟩
instance : Fn tx.T 210 c_names_one := ⟨rfl⟩
instance : Fn tx.T 211 c_told := ⟨rfl⟩
instance : Fn tx.T 212 c_is_form := ⟨rfl⟩
instance : Fn tx.T 213 c_is_box := ⟨rfl⟩
instance : Fn tx.T 214 c_closes := ⟨rfl⟩
instance : Fn tx.T 215 c_named := ⟨rfl⟩
instance : Fn tx.T 216 c_is_new := ⟨rfl⟩
instance : Fn tx.T 217 c_opening := ⟨rfl⟩
instance : Fn tx.T 218 c_by_one := ⟨rfl⟩
instance : Fn tx.T 219 c_by_two := ⟨rfl⟩
instance : Fn tx.T 220 c_by_box := ⟨rfl⟩
instance : Fn tx.T 221 c_by_cases := ⟨rfl⟩
instance : Fn tx.T 222 c_by_each := ⟨rfl⟩
instance : Fn tx.T 223 c_by_some := ⟨rfl⟩
instance : Fn tx.T 224 c_box_name := ⟨rfl⟩
instance : Fn tx.T 225 c_by_every := ⟨rfl⟩
instance : Fn tx.T 226 c_by_case := ⟨rfl⟩
instance : Fn tx.T 227 c_refs_of := ⟨rfl⟩
instance : Fn tx.T 228 c_by_lines := ⟨rfl⟩
instance : Fn tx.T 229 c_by_boxes := ⟨rfl⟩
instance : Fn tx.T 230 c_is_told := ⟨rfl⟩
instance : Fn tx.T 231 c_follows := ⟨rfl⟩
instance : Fn tx.T 232 c_law_cell_at_v1 := ⟨rfl⟩
instance : Fn tx.T 233 c_law_name_by_v2 := ⟨rfl⟩
instance : Fn tx.T 234 c_law_letter_by := ⟨rfl⟩
instance : Fn tx.T 235 c_law_made := ⟨rfl⟩
instance : Fn tx.T 236 c_law_draw := ⟨rfl⟩
instance : Fn tx.T 237 c_law_some := ⟨rfl⟩
instance : Fn tx.T 238 c_law_paths := ⟨rfl⟩
instance : Fn tx.T 239 c_law_line := ⟨rfl⟩
instance : Fn tx.T 253 c_law_box := ⟨rfl⟩
instance : Fn tx.T 263 c_law_put_v1 := ⟨rfl⟩
instance : Fn tx.T 264 c_law_terms_v1 := ⟨rfl⟩
instance : Fn tx.T 265 c_law_is_name_v2 := ⟨rfl⟩
instance : Fn tx.T 273 c_law_names := ⟨rfl⟩
instance : Fn tx.T 274 c_law_out := ⟨rfl⟩
instance : Fn tx.T 275 c_law_lines_v2 := ⟨rfl⟩
instance : Fn tx.T 276 c_law_new := ⟨rfl⟩
instance : Fn tx.T 277 c_law_every := ⟨rfl⟩
instance : Fn tx.T 278 c_law_whole_v1 := ⟨rfl⟩
instance : Fn tx.T 279 c_law_v26 := ⟨rfl⟩
instance : Gl tx.gl 0 (.str (97 :: 98 :: 99 :: 100 :: 101 :: 102 :: 103 :: 104 :: 105 :: 106 :: 107 :: 108 :: 109 :: 110 :: 111 :: 112 :: 113 :: 114 :: 115 :: 116 :: 117 :: 118 :: 119 :: 120 :: 121 :: 122 :: [])) := ⟨rfl⟩
instance : Gl tx.gl 1 (.str (65 :: 66 :: 67 :: 68 :: 69 :: 70 :: 71 :: 72 :: 73 :: 74 :: 75 :: 76 :: 77 :: 78 :: 79 :: 80 :: 81 :: 82 :: 83 :: 84 :: 85 :: 86 :: 87 :: 88 :: 89 :: 90 :: [])) := ⟨rfl⟩
instance : Gl tx.gl 2 (.str [48, 49, 50, 51, 52, 53, 54, 55, 56, 57]) := ⟨rfl⟩
instance : Gl tx.gl 3 (.tup [.str [110, 111, 116], .str [97, 110, 100], .str [111, 114], .str [116, 104, 101, 110], .str [97, 108, 108], .str [115, 111, 109, 101], .str [102, 97, 108, 115, 101]]) := ⟨rfl⟩
instance : Gl tx.gl 4 (.int 8) := ⟨rfl⟩
theorem tx_ok : tx.ok = true := by decide +kernel
def names0 : List PySem.Str := ["begins", "seen", "box_seen", "end_of", "BoxError", "NoBox", "opens", "boxes", "SMALL", "GREAT", "FIGURES", "KEPT", "MOST_SIGNS", "built", "is_name", "is_letter", "parts_of", "rising", "names_in", "free_in"]
def names1 : List PySem.Str := ["put", "is_number", "names_one", "told", "is_form", "is_box", "closes", "named", "is_new", "opening", "by_one", "by_two", "by_box", "by_cases", "by_each", "by_some", "box_name", "by_every", "by_case", "refs_of"]
def names2 : List PySem.Str := ["by_lines", "by_boxes", "is_told", "follows", "_law_cell_at", "_law_name_by", "_law_letter_by", "_law_made", "_law_draw", "_law_some", "_law_paths", "_law_line", "_law_box", "_law_put", "_law_terms", "_law_is_name", "_law_names", "_law_out", "_law_lines", "_law_new"]
def names3 : List PySem.Str := ["_law_every", "_law_whole"]
def names : List PySem.Str := names0 ++ names1 ++ names2 ++ names3
abbrev R : PySem.W.OpenRow := PySem.W.OpenLaw.row PySem.Challenge.rw_boxproof_k35_new_and_every
theorem run (w : World) : HandSHeadRun.RunEq R (PySem.W.view R.prog [68]) (hookX tx 4) (obT tx 4) 3160 names w := by
  intro os
  kernel_rfl
end LawEnd
section
open PySem PySem.W PySem.Calls PyProof.Rows Ev
theorem LawEnd.holds_of (plain : ∀ ns : List Int, ns.length ≤ 63 → callF LawEnd.tx.T LawEnd.tx.gl depthMost 279 [.lst (ns.map .int)] = .ok (.bl true)) : PySem.Challenge.rw_boxproof_k35_new_and_every.Holds := by
  w_on; o_law
  refine HandSHeadRun.head_any (r := OpenLaw.row PySem.Challenge.rw_boxproof_k35_new_and_every) (q := view (OpenLaw.row PySem.Challenge.rw_boxproof_k35_new_and_every).prog [68]) (H := hookX LawEnd.tx 4) (ob := obT LawEnd.tx 4) (M := 3160) (loose := LawEnd.names) (d := HandSHeadRun.topDef (OpenLaw.row PySem.Challenge.rw_boxproof_k35_new_and_every).prog 68) (kwd := []) (obT_eq LawEnd.tx 4)
    (by kernel_rfl) (fun s => by kernel_rfl) LawEnd.run (by kernel_rfl) (by kernel_rfl) (by kernel_rfl) (by rfl) (by first | assumption | decide +kernel) (by decide +kernel) ⟨rfl, rfl, rfl, rfl, rfl, by decide +kernel⟩ ?hw ?hc
  case hw => w_witness2
  case hc => exact walk_ev (l := PySem.Challenge.rw_boxproof_k35_new_and_every) (t := LawEnd.tx) (f := 279) (x := "_law_script") rfl (by kernel_rfl) LawEnd.tx_ok rfl rfl rfl (fun _ h => by cases h) (by kernel_rfl) plain
end

/-! Shared: loops and readings over typed things; cells. -/
namespace Ev
abbrev noX : Nat → Prop := fun _ => False
/-- a block behind so many statements -/
def B.tail : B → Nat → B
  | b, 0 => b
  | .cons _ b, k + 1 => B.tail b k
  | .freeze _ b, k + 1 => B.tail b k
  | b, _ => b
def forBody : S → B
  | .for_ _ _ b => b
  | .whil _ b => b
  | _ => .nil
def B.head : B → S
  | .cons s _ => s
  | _ => .pass
/-- a number as data -/
abbrev eN (k : Nat) : D := .int (k : Int)
section
variable {cf : Nat → List D → Res D} {gl : Nat → Option D} {ρ : Env} {n : En} {x : Nat} {b : B}
theorem okFor_map {α : Type} (dec : α → D) (I : List α → Env → Prop) (hs : ∀ a as ρ, I (a :: as) ρ → okB cf gl b (setV ρ x (dec a)) (n.wl (I as) n.nx)) (he : ∀ ρ, I [] ρ → n.nx ρ) {l : List α} (h : I l ρ) : okFor cf gl x b (l.map dec) ρ n := by
  refine okFor_ind (I := fun ds ρ => ∃ as, ds = as.map dec ∧ I as ρ) (fun d ds ρ ⟨as, e, i⟩ => ?_) (fun ρ ⟨as, e, i⟩ => ?_) ⟨l, rfl, h⟩
  · cases as with
    | nil => cases e
    | cons a as =>
      simp only [List.map_cons, List.cons.injEq] at e
      obtain ⟨rfl, rfl⟩ := e
      exact okB_mono (hs a as ρ i) (fun _ h => ⟨as, rfl, h⟩) (fun _ h => h) (fun _ h => h) (fun _ h => ⟨as, rfl, h⟩) fun _ _ h => h
  · cases as with
    | nil => exact he ρ i
    | cons a as => cases e
theorem okFor_rng {lo : Int} {m : Nat} (I : Nat → Env → Prop) (h0 : I 0 ρ) (hs : ∀ k, k < m → ∀ ρ, I k ρ → okB cf gl b (setV ρ x (.int (lo + (k : Int)))) (n.wl (I (k + 1)) n.nx)) (he : ∀ ρ, I m ρ → n.nx ρ) : okFor cf gl x b (rng lo m) ρ n := by
  refine okFor_at I h0 (fun k d ρ hd i => ?_) fun ρ h => he ρ (by rw [rng_len] at h; exact h)
  obtain ⟨h1, rfl⟩ := rng_get lo m k d hd
  exact hs k h1 ρ i
theorem okFor_rng0 {m : Nat} (I : Nat → Env → Prop) (h0 : I 0 ρ) (hs : ∀ k, k < m → ∀ ρ, I k ρ → okB cf gl b (setV ρ x (.int (k : Int))) (n.wl (I (k + 1)) n.nx)) (he : ∀ ρ, I m ρ → n.nx ρ) : okFor cf gl x b (rng 0 m) ρ n :=
  okFor_rng I h0 (fun k hk ρ i => by rw [Int.zero_add]; exact hs k hk ρ i) he
theorem rng_map (m : Nat) : rng 0 m = (List.range m).map eN := by
  unfold rng
  exact List.map_congr_left fun k _ => by rw [Int.zero_add]
end
/-! ### slices -/
theorem cut_take {α : Type} (xs : List α) (k : Nat) : cut xs none (some (k : Int)) = xs.take k := by
  unfold cut
  rw [HT.sIx_nat]
  show (xs.drop 0).take (min k xs.length - 0) = _
  simp [List.take_eq_take_iff]
theorem cut_drop {α : Type} (xs : List α) (k : Nat) : cut xs (some (k : Int)) none = xs.drop k := by
  unfold cut
  rw [HT.sIx_nat]
  show (xs.drop (min k xs.length)).take (xs.length - min k xs.length) = _
  by_cases h : k ≤ xs.length
  · rw [Nat.min_eq_left h, List.take_of_length_le (by simp)]
  · rw [Nat.min_eq_right (by omega), List.drop_eq_nil_of_le (show xs.length ≤ k by omega)]
    simp
theorem cut_takeI {α : Type} (xs : List α) {i : Int} (h : 0 ≤ i) : cut xs none (some i) = xs.take i.toNat := by
  have e : i = ((i.toNat : Nat) : Int) := by omega
  rw [e, cut_take]; rfl
theorem cut_dropI {α : Type} (xs : List α) {i : Int} (h : 0 ≤ i) : cut xs (some i) none = xs.drop i.toNat := by
  have e : i = ((i.toNat : Nat) : Int) := by omega
  rw [e, cut_drop]; rfl
theorem cut_init {α : Type} (xs : List α) : cut xs none (some (-1)) = xs.dropLast := by
  unfold cut
  show (xs.drop 0).take ((-1 + (xs.length : Int)).toNat - 0) = _
  rw [List.dropLast_eq_take, List.drop_zero, show (-1 + (xs.length : Int)).toNat - 0 = xs.length - 1 by omega]
theorem cut_map {α β : Type} (f : α → β) (xs : List α) (l h : Option Int) : cut (xs.map f) l h = (cut xs l h).map f := by
  unfold cut
  simp [List.map_take, List.map_drop]
/-! ### numbers in lists -/
theorem eqv_N (a b : Nat) : D.eqv (eN a) (eN b) = (a == b) := by
  unfold eN
  rw [eqv_int]
  by_cases h : a = b
  · subst h; rw [beq_self_eq_true, beq_self_eq_true]
  · have : (a : Int) ≠ b := by omega
    rw [beq_eq_false_iff_ne.mpr h, beq_eq_false_iff_ne.mpr this]
theorem eqvL_N : ∀ xs ys : List Nat, D.eqvL (xs.map eN) (ys.map eN) = (xs == ys)
  | [], [] => by simp [D.eqvL]
  | [], _ :: _ => by simp [D.eqvL]
  | _ :: _, [] => by simp [D.eqvL]
  | x :: xs, y :: ys => by
    rw [List.map_cons, List.map_cons, eqv_cons, eqv_N, eqvL_N xs ys]
    rfl
theorem isIn_N (a : Nat) : ∀ xs : List Nat, isIn (eN a) (xs.map eN) = xs.contains a
  | [] => rfl
  | x :: xs => by rw [List.map_cons, isIn_cons', eqv_N, isIn_N a xs, List.contains_cons]
theorem depthL_N : ∀ xs : List Nat, D.depthL (xs.map eN) ≤ 1
  | [] => by simp [D.depthL]
  | x :: xs => by
    show max (D.depth (eN x)) (D.depthL (xs.map eN)) ≤ 1
    have := depthL_N xs
    have : D.depth (eN x) = 1 := by simp [eN, D.depth]
    omega
theorem o_eqtN {PB : Bool → Prop} {xs ys : List Nat} (p : PB (xs == ys)) : okO (opC .eq (.tup (xs.map eN)) (.tup (ys.map eN))) PB := by
  refine o_eq ?_ (by rw [eqv_tup, eqvL_N]; exact p)
  have := depthL_N xs
  simp only [D.depth, eqDeep]
  omega
theorem o_intN {PB : Bool → Prop} {a : Nat} {xs : List Nat} (p : PB (xs.contains a)) : okO (opC .isin (.int (a : Int)) (.tup (xs.map eN))) PB := o_inti (by
  show PB (isIn (eN a) _)
  rw [isIn_N]; exact p)
theorem o_nintN {PB : Bool → Prop} {a : Nat} {xs : List Nat} (p : PB (!xs.contains a)) : okO (opC .notin (.int (a : Int)) (.tup (xs.map eN))) PB := o_ninti (by
  show PB (!isIn (eN a) _)
  rw [isIn_N]; exact p)
/-- an item of a list of encoded things, by a place that is a number -/
theorem o_ixlm {α : Type} {dec : α → D} {P : D → Prop} {xs : List α} {i : Int} (h0 : 0 ≤ i) (h1 : i < xs.length) (p : ∀ a, xs[i.toNat]? = some a → P (dec a)) : okO (opIx (.lst (xs.map dec)) (.int i)) P :=
  o_ixl' h0 (by simpa using h1) fun d hd => by
    simp only [List.getElem?_map, Option.map_eq_some_iff] at hd
    obtain ⟨a, h2, rfl⟩ := hd
    exact p a h2
/-! ### cells -/
section
variable {T : Nat → Option FD} {gl : Nat → Option D}
/-- a number from nought, below 2 ^ 31 -/
def num31 (d : D) : Prop := ∃ m : Int, d = .int m ∧ 0 ≤ m ∧ m < 2147483648
end
end Ev

/-! Lines and boxes: what the laws draw. -/
namespace Ev
/-- whether a rule opens a box -/
def opR (r : List Nat) : Bool := r == [103, 117, 101, 115, 115] || (r == [110, 101, 119] || r == [99, 97, 115, 101])
theorem isIn_op (r : List Nat) : isIn (.str r) [.str [103, 117, 101, 115, 115], .str [110, 101, 119], .str [99, 97, 115, 101]] = opR r := by
  simp only [isIn_cons', isIn_nil, eqv_str, Bool.or_false, opR]
def lst (o : Bool) : Nat := if o then 1 else 0
/-- levels that there can be -/
def LevOk (rules : List (List Nat)) (ls : List Nat) : Prop := ∀ j l, ls[j]? = some l → lst (opR (rules.getD j [])) ≤ l ∧ l ≤ 60 ∧ l ≤ (if j = 0 then 0 else ls.getD (j - 1) 0) + lst (opR (rules.getD j []))
theorem getD_app_lt {α : Type} {xs ys : List α} {j : Nat} {d : α} (h : j < xs.length) : (xs ++ ys).getD j d = xs.getD j d := by
  simp [List.getElem?_append_left h]
section
variable {T : Nat → Option FD} {gl : Nat → Option D}
/-- the boxes behind so many lines -/
def pth (rules : List (List Nat)) (ls : List Nat) : Nat → List Nat
  | 0 => []
  | k + 1 => if opR (rules.getD k []) then (pth rules ls k).take (ls.getD k 0 - 1) ++ [k] else (pth rules ls k).take (ls.getD k 0)
def pths (rules : List (List Nat)) (ls : List Nat) : List (List Nat) := (List.range rules.length).map fun k => pth rules ls (k + 1)
def ePaths (ps : List (List Nat)) : D := .tup (ps.map fun p => .tup (p.map eN))
theorem pth_len {rules : List (List Nat)} {ls : List Nat} (ok : LevOk rules ls) : ∀ k, k ≤ ls.length → (pth rules ls k).length = if k = 0 then 0 else ls.getD (k - 1) 0
  | 0, _ => rfl
  | k + 1, h => by
    have ih := pth_len ok k (by omega)
    have hk : ls[k]? = some (ls.getD k 0) := by simp [show k < ls.length by omega]
    obtain ⟨a, _, c⟩ := ok k _ hk
    rw [if_neg (by omega)]
    show (pth rules ls (k + 1)).length = ls.getD k 0
    unfold pth
    rw [← ih] at c
    split
    · rename_i q
      rw [q] at a c
      simp only [lst, if_true] at a c
      rw [List.length_append, List.length_take]
      simp only [List.length_cons, List.length_nil]
      omega
    · rename_i q
      have q : opR (rules.getD k []) = false := by simpa using q
      rw [q] at a c
      simp only [lst, Bool.false_eq_true, if_false] at a c
      rw [List.length_take]
      omega
theorem pth_le {rules : List (List Nat)} {ls : List Nat} (ok : LevOk rules ls) {k : Nat} (h : k ≤ ls.length) : (pth rules ls k).length ≤ 60 := by
  rw [pth_len ok k h]
  split
  · omega
  · exact (ok (k - 1) (ls.getD (k - 1) 0) (by simp [show k - 1 < ls.length by omega])).2.1
theorem pths_get {rules : List (List Nat)} {ls : List Nat} {k : Nat} (h : k < rules.length) : (pths rules ls)[k]? = some (pth rules ls (k + 1)) := by
  unfold pths
  simp [h]
end
end Ev

/-! Names, letters, words. -/
namespace Ev
abbrev small : List Nat := 97 :: 98 :: 99 :: 100 :: 101 :: 102 :: 103 :: 104 :: 105 :: 106 :: 107 :: 108 :: 109 :: 110 :: 111 :: 112 :: 113 :: 114 :: 115 :: 116 :: 117 :: 118 :: 119 :: 120 :: 121 :: 122 :: []
abbrev great : List Nat := 65 :: 66 :: 67 :: 68 :: 69 :: 70 :: 71 :: 72 :: 73 :: 74 :: 75 :: 76 :: 77 :: 78 :: 79 :: 80 :: 81 :: 82 :: 83 :: 84 :: 85 :: 86 :: 87 :: 88 :: 89 :: 90 :: []
abbrev figs : List Nat := [48, 49, 50, 51, 52, 53, 54, 55, 56, 57]
abbrev kept : List (List Nat) := [[110, 111, 116], [97, 110, 100], [111, 114], [116, 104, 101, 110], [97, 108, 108], [115, 111, 109, 101], [102, 97, 108, 115, 101]]
def tailOk (t : List Nat) : Bool := t.all fun c => small.contains c || figs.contains c
def builtS (t fs : List Nat) : Bool := decide (1 ≤ t.length) && decide (t.length ≤ 8) && fs.contains (t.getD 0 0) && tailOk (t.drop 1)
def nameS (t : List Nat) : Bool := builtS t small && !kept.contains t
def letterS (t : List Nat) : Bool := builtS t great
theorem isIn_strs (t : List Nat) : ∀ l : List (List Nat), isIn (.str t) (l.map .str) = l.contains t
  | [] => rfl
  | x :: l => by rw [List.map_cons, isIn_cons', eqv_str, isIn_strs t l, List.contains_cons]
section
variable {T : Nat → Option FD} {gl : Nat → Option D}
theorem built_ok [Gl gl 0 (.str small)] [Gl gl 2 (.str figs)] [Gl gl 4 (.int 8)] [Fn T 5 c_built] {n : Nat} (hn : 1 ≤ n) (t fs : List Nat) : callF T gl n 5 [.str t, .str fs] = .ok (.bl (builtS t fs)) := by
  refine eq_of_okR (okR_call (k := 0) hn rfl fun n hn => ?_)
  (repeat' ((try (conv => whnf)) <;> first | with_reducible refine stepE ?_ | with_reducible refine stepEs ?_ | with_reducible refine stepB ?_ | with_reducible refine stepS ?_ | refine okO_of (o := getSh _ _) rfl ?_ | with_reducible refine okK_bl ?_ | with_reducible refine okT_tt ?_ | with_reducible refine okT_nff ?_ | with_reducible refine okT_dec (fun hT => ?_) (fun hT => ?_) | with_reducible refine okT_bl (fun hT => ?_) (fun hT => ?_) | refine okO_of (o := opC _ (.int _) (.int _)) rfl ?_ | refine okO_of (o := opF _ _) rfl ?_ | with_reducible refine okO_of glob_eq ?_)) <;> (try (conv => whnf))
  · have h : ¬ t.length ≤ 8 := by simp at hT; omega
    simp [builtS, h]
  · refine o_ixs' (by omega) (by omega) fun c hc => ?_
    have hc : t[0]? = some c := by simpa using hc
    have h1 : 1 ≤ t.length := by omega
    have h8 : t.length ≤ 8 := by simp at *; omega
    have hg : t.getD 0 0 = c := by simp [hc]
    (repeat' ((try (conv => whnf)) <;> first | with_reducible refine stepE ?_ | with_reducible refine stepB ?_ | with_reducible refine stepS ?_ | refine okO_of (o := getSh _ _) rfl ?_ | with_reducible refine okK_bl ?_ | with_reducible refine okT_bl (fun hT => ?_) (fun hT => ?_) | with_reducible refine o_nins ?_ | with_reducible refine o_sls fun tS hS hL => ?_ | refine okO_of (o := ixPart _ _) rfl ?_ | with_reducible refine stepIt ?_ | refine okO_of (o := itemsOf _) rfl ?_)) <;> (try (conv => whnf))
    · have hf : fs.contains c = false := by simpa using hT
      have eb : builtS t fs = false := by
        unfold builtS
        rw [hg, hf, Bool.and_false, Bool.false_and]
      rw [eb]
    · have hf : fs.contains c = true := by simpa using hT
      have htl : tS = cut t (some ((1 : Nat) : Int)) none := hS
      rw [cut_drop] at htl
      have eb : builtS t fs = tailOk tS := by
        unfold builtS
        rw [hg, hf, htl]
        simp [h1, h8]
      rw [eb]
      refine okFor_map (dec := fun c => D.str [c]) (I := fun cs ρ => (∃ v2, ρ = [some (.sh, .str t), some (.sh, .str fs), v2]) ∧ tailOk tS = tailOk cs) (fun c cs ρ ⟨⟨v2, hρ⟩, e⟩ => ?_) (fun ρ ⟨⟨v2, hρ⟩, e⟩ => ?_) ⟨⟨_, rfl⟩, rfl⟩
      · subst hρ
        have e2 : tailOk (c :: cs) = ((small.contains c || figs.contains c) && tailOk cs) := by simp only [tailOk, List.all_cons]
        rw [e2] at e
        rw [e]
        clear e e2
        generalize hs : small.contains c = a
        generalize hf2 : figs.contains c = a2
        (repeat' ((try (conv => whnf)) <;> first | with_reducible refine stepE ?_ | with_reducible refine stepB ?_ | with_reducible refine stepS ?_ | refine okO_of (o := getSh _ _) rfl ?_ | with_reducible refine okK_bl ?_ | with_reducible refine okT_ff ?_ | with_reducible refine okT_bl (fun hT => ?_) (fun hT => ?_) | with_reducible refine o_nins ?_ | with_reducible refine okO_of glob_eq ?_)) <;> (try (conv => whnf))
        all_goals first
          | (simp only [Bool.not_eq_true', Bool.not_eq_false', hs, hf2] at *
             simp only [*, Bool.or_false, Bool.false_or, Bool.true_or, Bool.false_and, Bool.true_and]
             done)
          | (refine ⟨⟨_, rfl⟩, ?_⟩
             simp only [Bool.not_eq_true', Bool.not_eq_false', hs, hf2] at *
             simp only [*, Bool.or_false, Bool.false_or, Bool.true_or, Bool.or_true, Bool.false_and, Bool.true_and])
      · subst hρ
        (repeat' ((try (conv => whnf)) <;> first | with_reducible refine stepE ?_ | with_reducible refine stepB ?_ | with_reducible refine stepS ?_)) <;> (try (conv => whnf))
        rw [e]
        rfl
  · have h : ¬ 1 ≤ t.length := by omega
    simp [builtS, h]
theorem is_name_ok [Gl gl 0 (.str small)] [Gl gl 2 (.str figs)] [Gl gl 3 (.tup (kept.map .str))] [Gl gl 4 (.int 8)] [Fn T 5 c_built] [Fn T 6 c_is_name] {n : Nat} (hn : 2 ≤ n) (t : List Nat) : callF T gl n 6 [.str t] = .ok (.bl (nameS t)) := by
  refine eq_of_okR (okR_call (k := 1) hn rfl fun n hn => ?_)
  (repeat' ((try (conv => whnf)) <;> first | refine okR_of (built_ok (by omega) _ _) ?_ | with_reducible refine stepE ?_ | with_reducible refine stepEs ?_ | with_reducible refine stepB ?_ | with_reducible refine stepS ?_ | refine okO_of (o := getSh _ _) rfl ?_ | with_reducible refine okK_bl ?_ | with_reducible refine okT_bl (fun hT => ?_) (fun hT => ?_) | with_reducible refine o_nints ?_ | with_reducible refine okO_of glob_eq ?_)) <;> (try (conv => whnf))
  · rw [isIn_strs]
    unfold nameS
    rw [hT, Bool.true_and]
  · unfold nameS
    rw [hT, Bool.false_and]
theorem is_letter_ok [Gl gl 0 (.str small)] [Gl gl 1 (.str great)] [Gl gl 2 (.str figs)] [Gl gl 4 (.int 8)] [Fn T 5 c_built] [Fn T 7 c_is_letter] {n : Nat} (hn : 2 ≤ n) (t : List Nat) : callF T gl n 7 [.str t] = .ok (.bl (letterS t)) := by
  refine eq_of_okR (okR_call (k := 1) hn rfl fun n hn => ?_)
  (repeat' ((try (conv => whnf)) <;> first | refine okR_of (built_ok (by omega) _ _) ?_ | with_reducible refine stepE ?_ | with_reducible refine stepEs ?_ | with_reducible refine stepB ?_ | with_reducible refine stepS ?_ | refine okO_of (o := getSh _ _) rfl ?_ | with_reducible refine okO_of glob_eq ?_)) <;> (try (conv => whnf))
  rfl
end
end Ev

/-! Statements, and how the laws draw them. -/
namespace Ev
inductive Op where | and | or | thn
  deriving DecidableEq
inductive Stm where
  | is (w : List Nat) (ts : List (List Nat)) | fls | not (a : Stm) | bin (o : Op) (a b : Stm) | qu (q : Bool) (x : List Nat) (a : Stm)
  deriving DecidableEq
def Op.s : Op → List Nat
  | .and => [97, 110, 100]
  | .or => [111, 114]
  | .thn => [116, 104, 101, 110]
def quS (q : Bool) : List Nat := if q then [97, 108, 108] else [115, 111, 109, 101]
def Stm.enc : Stm → D
  | .is w ts => .tup [.str [105, 115], .str w, .tup (ts.map .str)]
  | .fls => .tup [.str [102, 97, 108, 115, 101]]
  | .not a => .tup [.str [110, 111, 116], a.enc]
  | .bin o a b => .tup [.str o.s, a.enc, b.enc]
  | .qu q x a => .tup [.str (quS q), .str x, a.enc]
def Stm.dp : Stm → Nat
  | .is _ _ => 1
  | .fls => 1
  | .not a => a.dp + 1
  | .bin _ a b => max a.dp b.dp + 1
  | .qu _ _ a => a.dp + 1
def Stm.sz : Stm → Nat
  | .is _ _ => 1
  | .fls => 1
  | .not a => a.sz + 1
  | .bin _ a b => a.sz + b.sz + 1
  | .qu _ _ a => a.sz + 1
def termOk (t : List Nat) : Bool := nameS t || letterS t
def Stm.wf : Stm → Prop
  | .is w ts => nameS w = true ∧ ts.length ≤ 3 ∧ ∀ t ∈ ts, termOk t = true
  | .fls => True
  | .not a => a.wf
  | .bin _ a b => a.wf ∧ b.wf
  | .qu _ x a => letterS x = true ∧ a.wf
theorem o_setI {xs : List D} {i : Int} {d : D} {Q : List D → Prop} (h0 : 0 ≤ i) (h1 : i < xs.length) (p : Q (xs.set i.toNat d)) : okO (setL xs (.int i) d) Q := okO_of (by
  show (ixN xs.length i).map (fun n => xs.set n d) = _
  rw [ixN_int h0 h1]
  rfl) p
theorem o_setIm {α : Type} {f : α → D} {r : List α} {i : Int} {a : α} {Q : List D → Prop} (h0 : 0 ≤ i) (h1 : i < r.length) (p : Q ((r.set i.toNat a).map f)) : okO (setL (r.map f) (.int i) (f a)) Q :=
  o_setI h0 (by simpa using h1) (by rw [List.map_set] at p; exact p)
/-- what the signs of a name are -/
structure SignsOk (fs : List Nat) (t : List Nat) (k : Nat) : Prop where
  len : t.length = k
  first : 0 < k → t.getD 0 0 ∈ fs
  rest : ∀ i c, 0 < i → t[i]? = some c → c ∈ small ++ figs
theorem signs_built {fs t : List Nat} {k : Nat} (h : SignsOk fs t k) (h1 : 1 ≤ k) (h8 : k ≤ 8) : builtS t fs = true := by
  unfold builtS
  have hl := h.len
  have hf := h.first (by omega)
  have ht : tailOk (t.drop 1) = true := by
    unfold tailOk
    rw [List.all_eq_true]
    intro c hc
    obtain ⟨i, hi⟩ := List.mem_iff_getElem?.mp hc
    rw [List.getElem?_drop] at hi
    have := h.rest (1 + i) c (by omega) hi
    rw [← List.contains_append]
    simpa using this
  rw [ht]
  simp only [Bool.and_true, Bool.and_eq_true, decide_eq_true_eq]
  exact ⟨⟨by omega, by omega⟩, by simpa using hf⟩
section
variable {T : Nat → Option FD} {gl : Nat → Option D}
theorem kept_nought {t : List Nat} (h : t ∈ kept) : builtS (t ++ [48]) small = true ∧ kept.contains (t ++ [48]) = false := by
  revert h
  revert t
  decide
/-- a drawn statement -/
def drawn (k z : Nat) (d : D) : Prop := ∃ A : Stm, d = A.enc ∧ A.wf ∧ A.dp ≤ k ∧ A.sz ≤ z
end
end Ev

/-! Statements drawn. -/
namespace Ev
def baseDp (m : Int) : Nat := if m < 30 then 6 else 1
section
variable {T : Nat → Option FD} {gl : Nat → Option D}
end
end Ev

/-! A statement's parts. -/
namespace Ev
def Stm.parts : Stm → List Stm
  | .is _ _ => []
  | .fls => []
  | .not a => [a]
  | .bin _ a b => [a, b]
  | .qu _ _ a => [a]
section
variable {T : Nat → Option FD} {gl : Nat → Option D}
theorem parts_of_ok [Fn T 15 c_parts_of] {n : Nat} (hn : 1 ≤ n) (A : Stm) : callF T gl n 15 [A.enc] = .ok (.tup (A.parts.map Stm.enc)) := by
  refine eq_of_okR (okR_call (k := 0) hn rfl fun n hn => ?_)
  cases A with
  | is w ts =>
    unfold Stm.enc
    (repeat' ((try (conv => whnf)) <;> first | with_reducible refine stepE ?_ | with_reducible refine stepEs ?_ | with_reducible refine stepB ?_ | with_reducible refine stepS ?_ | refine okO_of (o := getSh _ _) rfl ?_ | with_reducible refine okK_bl ?_ | with_reducible refine okT_ct (by decide) ?_ | with_reducible refine okT_cf (by decide) ?_ | with_reducible refine o_eqs ?_ | refine okO_of (o := opIx (.tup (_ :: _)) _) rfl ?_)) <;> (try (conv => whnf))
    rfl
  | fls =>
    unfold Stm.enc
    (repeat' ((try (conv => whnf)) <;> first | with_reducible refine stepE ?_ | with_reducible refine stepB ?_ | with_reducible refine stepS ?_ | refine okO_of (o := getSh _ _) rfl ?_ | with_reducible refine okK_bl ?_ | with_reducible refine okT_cf (by decide) ?_ | with_reducible refine o_eqs ?_ | refine okO_of (o := opIx (.tup (_ :: _)) _) rfl ?_ | refine okO_of (o := ixPart _ _) rfl ?_)) <;> (try (conv => whnf))
    refine o_slt fun t ht hl => ?_
    subst ht
    (try (conv => whnf)) <;> (try (conv => whnf))
    rfl
  | not a =>
    unfold Stm.enc
    (repeat' ((try (conv => whnf)) <;> first | with_reducible refine stepE ?_ | with_reducible refine stepEs ?_ | with_reducible refine stepB ?_ | with_reducible refine stepS ?_ | refine okO_of (o := getSh _ _) rfl ?_ | with_reducible refine okT_ct (by decide) ?_ | with_reducible refine o_eqs ?_ | refine okO_of (o := opIx (.tup (_ :: _)) _) rfl ?_)) <;> (try (conv => whnf))
    rfl
  | bin o a b =>
    unfold Stm.enc
    cases o
    all_goals
      (repeat' ((try (conv => whnf)) <;> first | with_reducible refine stepE ?_ | with_reducible refine stepB ?_ | with_reducible refine stepS ?_ | refine okO_of (o := getSh _ _) rfl ?_ | with_reducible refine okK_bl ?_ | with_reducible refine okT_cf (by decide) ?_ | with_reducible refine o_eqs ?_ | refine okO_of (o := opIx (.tup (_ :: _)) _) rfl ?_ | refine okO_of (o := ixPart _ _) rfl ?_)) <;> (try (conv => whnf))
      refine o_slt fun t ht hl => ?_
      subst ht
      (try (conv => whnf)) <;> (try (conv => whnf))
      rfl
  | qu q x a =>
    unfold Stm.enc
    cases q
    all_goals
      (repeat' ((try (conv => whnf)) <;> first | with_reducible refine stepE ?_ | with_reducible refine stepEs ?_ | with_reducible refine stepB ?_ | with_reducible refine stepS ?_ | refine okO_of (o := getSh _ _) rfl ?_ | with_reducible refine okK_bl ?_ | with_reducible refine okT_tt ?_ | with_reducible refine okT_ct (by decide) ?_ | with_reducible refine okT_cf (by decide) ?_ | with_reducible refine o_eqs ?_ | refine okO_of (o := opIx (.tup (_ :: _)) _) rfl ?_)) <;> (try (conv => whnf))
      rfl
end
end Ev

/-! What stands in a statement. -/
namespace Ev
theorem dTexts_strs : ∀ l : List (List Nat), dTexts (l.map .str) = some l
  | [] => rfl
  | x :: l => by
    show (dTexts (l.map .str)).map (x :: ·) = _
    rw [dTexts_strs l]
    rfl
theorem o_sortedSet {l : List (List Nat)} {ds : List D} {P : D → Prop} (e : ds = l.map .str) (h : l.length < 4000) (p : P (.lst ((sortU l).map .str))) : okO (opF .sortedSet [.lst ds]) P := okO_of (by
  subst e
  show (dTexts (l.map .str)).bind _ = _
  rw [dTexts_strs]
  have h2 : PySem.scanBound = 4096 := rfl
  show (if l.length + 1 < PySem.scanBound then _ else _) = _
  rw [if_pos (by omega)]) p
/-- the terms that stand free -/
def Stm.ft : Stm → List (List Nat)
  | .is _ ts => ts
  | .fls => []
  | .not a => a.ft
  | .bin _ a b => a.ft ++ b.ft
  | .qu _ x a => a.ft.filter fun t => !(t == x)
def Stm.nms : Stm → List (List Nat)
  | .is _ ts => sortU (ts.filter nameS)
  | .fls => []
  | .not a => sortU a.nms
  | .bin _ a b => sortU (a.nms ++ b.nms)
  | .qu _ _ a => sortU a.nms
def Stm.fre : Stm → List (List Nat)
  | .is _ ts => sortU (ts.filter letterS)
  | .fls => []
  | .not a => sortU a.fre
  | .bin _ a b => sortU (a.fre ++ b.fre)
  | .qu _ x a => sortU (a.fre.filter fun t => !(t == x))
def Stm.lt : Stm → List (List Nat) → List (List Nat)
  | .is _ ts, b => ts.filter fun t => !b.contains t
  | .fls, _ => []
  | .not a, b => a.lt b
  | .bin _ a c, b => a.lt b ++ c.lt b
  | .qu _ x a, b => a.lt (b ++ [x])
theorem filt_len {α : Type} (p : α → Bool) (l : List α) : (l.filter p).length ≤ l.length := List.length_filter_le p l
theorem nms_len : ∀ A : Stm, A.wf → A.nms.length ≤ 3 * A.sz
  | .is w ts, wf => by
    have h1 := sortU_len (ts.filter nameS)
    have h2 := filt_len nameS ts
    have h3 := wf.2.1
    simp only [Stm.nms, Stm.sz]
    omega
  | .fls, _ => by simp [Stm.nms]
  | .not a, wf => by
    have h1 := sortU_len a.nms
    have h2 := nms_len a wf
    simp only [Stm.nms, Stm.sz]
    omega
  | .bin _ a b, wf => by
    have h1 := sortU_len (a.nms ++ b.nms)
    have h2 := nms_len a wf.1
    have h3 := nms_len b wf.2
    rw [List.length_append] at h1
    simp only [Stm.nms, Stm.sz]
    omega
  | .qu _ x a, wf => by
    have h1 := sortU_len a.nms
    have h2 := nms_len a wf.2
    simp only [Stm.nms, Stm.sz]
    omega
theorem fre_len : ∀ A : Stm, A.wf → A.fre.length ≤ 3 * A.sz
  | .is w ts, wf => by
    have h1 := sortU_len (ts.filter letterS)
    have h2 := filt_len letterS ts
    have h3 := wf.2.1
    simp only [Stm.fre, Stm.sz]
    omega
  | .fls, _ => by simp [Stm.fre]
  | .not a, wf => by
    have h1 := sortU_len a.fre
    have h2 := fre_len a wf
    simp only [Stm.fre, Stm.sz]
    omega
  | .bin _ a b, wf => by
    have h1 := sortU_len (a.fre ++ b.fre)
    have h2 := fre_len a wf.1
    have h3 := fre_len b wf.2
    rw [List.length_append] at h1
    simp only [Stm.fre, Stm.sz]
    omega
  | .qu _ x a, wf => by
    have h1 := sortU_len (a.fre.filter fun t => !(t == x))
    have h2 := fre_len a wf.2
    have h3 := filt_len (fun t => !(t == x)) a.fre
    simp only [Stm.fre, Stm.sz]
    omega
theorem name_letter {t : List Nat} (h : nameS t = true) : letterS t = false := by
  unfold nameS builtS at h
  unfold letterS builtS
  simp only [Bool.and_eq_true] at h
  have h1 := h.1.1.2
  generalize t.getD 0 0 = c at h1 ⊢
  have h2 : c ∈ small := by simpa using h1
  have h3 : great.contains c = false := by
    have : ∀ c ∈ small, great.contains c = false := by decide
    exact this c h2
  rw [h3]
  simp
theorem nms_mem : ∀ (A : Stm) (k : List Nat), A.wf → (k ∈ A.nms ↔ k ∈ A.ft ∧ nameS k = true)
  | .is w ts, k, wf => by simp only [Stm.nms, Stm.ft, sortU_mem, List.mem_filter]
  | .fls, k, wf => by simp [Stm.nms, Stm.ft]
  | .not a, k, wf => by simp only [Stm.nms, Stm.ft, sortU_mem, nms_mem a k wf]
  | .bin _ a b, k, wf => by
    simp only [Stm.nms, Stm.ft, sortU_mem, List.mem_append, nms_mem a k wf.1, nms_mem b k wf.2]
    constructor
    · rintro (h | h)
      · exact ⟨.inl h.1, h.2⟩
      · exact ⟨.inr h.1, h.2⟩
    · rintro ⟨h | h, h2⟩
      · exact .inl ⟨h, h2⟩
      · exact .inr ⟨h, h2⟩
  | .qu _ x a, k, wf => by
    simp only [Stm.nms, Stm.ft, sortU_mem, nms_mem a k wf.2, List.mem_filter]
    constructor
    · rintro ⟨h1, h2⟩
      refine ⟨⟨h1, ?_⟩, h2⟩
      have : k ≠ x := by
        rintro rfl
        have := name_letter h2
        rw [wf.1] at this
        cases this
      simpa using this
    · rintro ⟨⟨h1, _⟩, h2⟩
      exact ⟨h1, h2⟩
theorem fre_mem : ∀ (A : Stm) (k : List Nat), (k ∈ A.fre ↔ k ∈ A.ft ∧ letterS k = true)
  | .is w ts, k => by simp only [Stm.fre, Stm.ft, sortU_mem, List.mem_filter]
  | .fls, k => by simp [Stm.fre, Stm.ft]
  | .not a, k => by simp only [Stm.fre, Stm.ft, sortU_mem, fre_mem a k]
  | .bin _ a b, k => by
    simp only [Stm.fre, Stm.ft, sortU_mem, List.mem_append, fre_mem a k, fre_mem b k]
    constructor
    · rintro (h | h)
      · exact ⟨.inl h.1, h.2⟩
      · exact ⟨.inr h.1, h.2⟩
    · rintro ⟨h | h, h2⟩
      · exact .inl ⟨h, h2⟩
      · exact .inr ⟨h, h2⟩
  | .qu _ x a, k => by
    simp only [Stm.fre, Stm.ft, sortU_mem, List.mem_filter, fre_mem a k]
    constructor
    · rintro ⟨⟨h1, h2⟩, h3⟩
      exact ⟨⟨h1, h3⟩, h2⟩
    · rintro ⟨⟨h1, h2⟩, h3⟩
      exact ⟨⟨h1, h3⟩, h2⟩
section
variable {T : Nat → Option FD} {gl : Nat → Option D}
theorem rising_ok [Fn T 27 c_rising] {n : Nat} (hn : 1 ≤ n) {ds : List D} {l : List (List Nat)} (e : ds = l.map .str) (h : l.length < 4000) : callF T gl n 27 [.lst ds] = .ok (.tup ((sortU l).map .str)) := by
  refine eq_of_okR (okR_call (k := 0) hn rfl fun n hn => ?_)
  (repeat' ((try (conv => whnf)) <;> first | refine o_sortedSet e h ?_ | with_reducible refine stepE ?_ | with_reducible refine stepEs ?_ | with_reducible refine stepB ?_ | with_reducible refine stepS ?_ | refine okO_of (o := getSh _ _) rfl ?_ | refine okO_of (o := opF _ _) rfl ?_)) <;> (try (conv => whnf))
theorem names_in_ok [Gl gl 0 (.str small)] [Gl gl 2 (.str figs)] [Gl gl 3 (.tup (kept.map .str))] [Gl gl 4 (.int 8)] [Fn T 5 c_built] [Fn T 6 c_is_name] [Fn T 15 c_parts_of] [Fn T 27 c_rising] [Fn T 28 c_names_in] :
    ∀ (A : Stm) {n : Nat}, A.dp + 3 ≤ n → A.wf → 3 * A.sz < 4000 → callF T gl n 28 [A.enc] = .ok (.tup (A.nms.map .str))
  | .is w ts, n, hn, wf, hz => by
    refine eq_of_okR (okR_call (k := 3) hn rfl fun n hn => ?_)
    have pp := fun h => parts_of_ok (T := T) (gl := gl) (n := n) h (.is w ts)
    have h3 := wf.2.1
    have h2 := filt_len nameS ts
    unfold Stm.enc at pp ⊢
    (repeat' ((try (conv => whnf)) <;> first | with_reducible refine stepE ?_ | with_reducible refine stepEs ?_ | with_reducible refine stepB ?_ | with_reducible refine stepS ?_ | refine okO_of (o := getSh _ _) rfl ?_ | with_reducible refine okT_ct (by decide) ?_ | with_reducible refine o_eqs ?_ | refine okO_of (o := opIx (.tup (_ :: _)) _) rfl ?_ | with_reducible refine stepIt ?_ | refine okO_of (o := listOf _) rfl ?_ | refine okO_of (o := itemsOf _) rfl ?_)) <;> (try (conv => whnf))
    refine okComp_filter D.str nameS D.str (fun t _ => ?_) (fun t _ _ => ?_) ?_
    · (repeat' ((try (conv => whnf)) <;> first | refine okR_of (is_name_ok (by omega) _) ?_ | with_reducible refine stepE ?_ | with_reducible refine stepEs ?_ | refine okO_of (o := getSh _ _) rfl ?_)) <;> (try (conv => whnf))
    · (repeat' ((try (conv => whnf)) <;> first | with_reducible refine stepE ?_ | refine okO_of (o := getSh _ _) rfl ?_)) <;> (try (conv => whnf))
    (repeat' ((try (conv => whnf)) <;> first | refine okR_of (pp (by omega)) ?_ | with_reducible refine stepE ?_ | with_reducible refine stepEs ?_ | with_reducible refine stepB ?_ | with_reducible refine stepS ?_ | refine okO_of (o := getSh _ _) rfl ?_ | with_reducible refine stepIt ?_ | refine okO_of (o := listOf _) rfl ?_ | refine okO_of (o := itemsOf _) rfl ?_)) <;> (try (conv => whnf))
    simp only [Stm.parts, List.map_nil]
    (repeat' ((try (conv => whnf)) <;> first | refine okR_of (rising_ok (l := ts.filter nameS) (by omega) rfl (by omega)) ?_ | with_reducible refine stepE ?_ | with_reducible refine stepEs ?_ | with_reducible refine stepB ?_ | with_reducible refine stepS ?_ | refine okO_of (o := getSh _ _) rfl ?_ | refine okO_of (o := getOwn _ _) rfl ?_ | with_reducible refine okFor_nil ?_)) <;> (try (conv => whnf))
    rfl
  | .fls, n, hn, wf, hz => by
    refine eq_of_okR (okR_call (k := 3) hn rfl fun n hn => ?_)
    have pp := fun h => parts_of_ok (T := T) (gl := gl) (n := n) h .fls
    unfold Stm.enc at pp ⊢
    (repeat' ((try (conv => whnf)) <;> first | refine okR_of (pp (by omega)) ?_ | with_reducible refine stepE ?_ | with_reducible refine stepEs ?_ | with_reducible refine stepB ?_ | with_reducible refine stepS ?_ | refine okO_of (o := getSh _ _) rfl ?_ | with_reducible refine okT_cf (by decide) ?_ | with_reducible refine o_eqs ?_ | refine okO_of (o := opIx (.tup (_ :: _)) _) rfl ?_ | with_reducible refine stepIt ?_ | refine okO_of (o := listOf _) rfl ?_ | refine okO_of (o := itemsOf _) rfl ?_)) <;> (try (conv => whnf))
    simp only [Stm.parts, List.map_nil]
    (repeat' ((try (conv => whnf)) <;> first | refine okR_of (rising_ok (l := .nil) (by omega) rfl (by decide)) ?_ | with_reducible refine stepE ?_ | with_reducible refine stepEs ?_ | with_reducible refine stepB ?_ | with_reducible refine stepS ?_ | refine okO_of (o := getSh _ _) rfl ?_ | refine okO_of (o := getOwn _ _) rfl ?_ | with_reducible refine okFor_nil ?_)) <;> (try (conv => whnf))
    rfl
  | .not a, n, hn, wf, hz => by
    refine eq_of_okR (okR_call (k := a.dp + 3) hn rfl fun n hn => ?_)
    have pp := fun h => parts_of_ok (T := T) (gl := gl) (n := n) h (.not a)
    have hz2 : 3 * a.sz < 4000 := by simp only [Stm.sz] at hz; omega
    have ih := fun h => names_in_ok a (n := n) h wf hz2
    have h2 := nms_len a wf
    have lv := line_val
    unfold Stm.enc at pp ⊢
    (repeat' ((try (conv => whnf)) <;> first | refine okR_of (pp (by omega)) ?_ | with_reducible refine stepE ?_ | with_reducible refine stepEs ?_ | with_reducible refine stepB ?_ | with_reducible refine stepS ?_ | refine okO_of (o := getSh _ _) rfl ?_ | with_reducible refine okT_cf (by decide) ?_ | with_reducible refine o_eqs ?_ | refine okO_of (o := opIx (.tup (_ :: _)) _) rfl ?_ | with_reducible refine stepIt ?_ | refine okO_of (o := listOf _) rfl ?_ | refine okO_of (o := itemsOf _) rfl ?_)) <;> (try (conv => whnf))
    simp only [Stm.parts, List.map_cons, List.map_nil]
    (repeat' ((try (conv => whnf)) <;> first | refine o_ext (by simp only [List.length_nil, List.length_map]; omega) ?_ | refine okR_of (ih (by omega)) ?_ | refine okR_of (rising_ok (l := a.nms) (by omega) (by simp) (by omega)) ?_ | with_reducible refine stepE ?_ | with_reducible refine stepEs ?_ | with_reducible refine stepB ?_ | with_reducible refine stepS ?_ | refine okO_of (o := getSh _ _) rfl ?_ | refine okO_of (o := getOwn _ _) rfl ?_ | refine okO_of (o := seqOf _) rfl ?_ | with_reducible refine okFor_cons ?_ | with_reducible refine okFor_nil ?_)) <;> (try (conv => whnf))
    rfl
  | .bin o a b, n, hn, wf, hz => by
    refine eq_of_okR (okR_call (k := max a.dp b.dp + 3) hn rfl fun n hn => ?_)
    have pp := fun h => parts_of_ok (T := T) (gl := gl) (n := n) h (.bin o a b)
    have hz2 : 3 * a.sz + 3 * b.sz < 4000 := by simp only [Stm.sz] at hz; omega
    have ih1 := fun h => names_in_ok a (n := n) h wf.1 (by omega)
    have ih2 := fun h => names_in_ok b (n := n) h wf.2 (by omega)
    have h2 := nms_len a wf.1
    have h3 := nms_len b wf.2
    have h4 : (a.nms ++ b.nms).length < 4000 := by rw [List.length_append]; omega
    have lv := line_val
    unfold Stm.enc at pp ⊢
    cases o
    all_goals
      (repeat' ((try (conv => whnf)) <;> first | refine okR_of (pp (by omega)) ?_ | with_reducible refine stepE ?_ | with_reducible refine stepEs ?_ | with_reducible refine stepB ?_ | with_reducible refine stepS ?_ | refine okO_of (o := getSh _ _) rfl ?_ | with_reducible refine okT_cf (by decide) ?_ | with_reducible refine o_eqs ?_ | refine okO_of (o := opIx (.tup (_ :: _)) _) rfl ?_ | with_reducible refine stepIt ?_ | refine okO_of (o := listOf _) rfl ?_ | refine okO_of (o := itemsOf _) rfl ?_)) <;> (try (conv => whnf))
      simp only [Stm.parts, List.map_cons, List.map_nil]
      (repeat' ((try (conv => whnf)) <;> first | refine o_ext (by simp only [List.length_nil, List.length_append, List.length_map]; omega) ?_ | refine okR_of (ih1 (by omega)) ?_ | refine okR_of (ih2 (by omega)) ?_ | refine okR_of (rising_ok (l := a.nms ++ b.nms) (by omega) (by simp) h4) ?_ | with_reducible refine stepE ?_ | with_reducible refine stepEs ?_ | with_reducible refine stepB ?_ | with_reducible refine stepS ?_ | refine okO_of (o := getSh _ _) rfl ?_ | refine okO_of (o := getOwn _ _) rfl ?_ | refine okO_of (o := seqOf _) rfl ?_ | with_reducible refine okFor_cons ?_ | with_reducible refine okFor_nil ?_)) <;> (try (conv => whnf))
      rfl
  | .qu q x a, n, hn, wf, hz => by
    refine eq_of_okR (okR_call (k := a.dp + 3) hn rfl fun n hn => ?_)
    have pp := fun h => parts_of_ok (T := T) (gl := gl) (n := n) h (.qu q x a)
    have hz2 : 3 * a.sz < 4000 := by simp only [Stm.sz] at hz; omega
    have ih := fun h => names_in_ok a (n := n) h wf.2 hz2
    have h2 := nms_len a wf.2
    have lv := line_val
    unfold Stm.enc at pp ⊢
    cases q
    all_goals
      (repeat' ((try (conv => whnf)) <;> first | refine okR_of (pp (by omega)) ?_ | with_reducible refine stepE ?_ | with_reducible refine stepEs ?_ | with_reducible refine stepB ?_ | with_reducible refine stepS ?_ | refine okO_of (o := getSh _ _) rfl ?_ | with_reducible refine okT_cf (by decide) ?_ | with_reducible refine o_eqs ?_ | refine okO_of (o := opIx (.tup (_ :: _)) _) rfl ?_ | with_reducible refine stepIt ?_ | refine okO_of (o := listOf _) rfl ?_ | refine okO_of (o := itemsOf _) rfl ?_)) <;> (try (conv => whnf))
      simp only [Stm.parts, List.map_cons, List.map_nil]
      (repeat' ((try (conv => whnf)) <;> first | refine o_ext (by simp only [List.length_nil, List.length_map]; omega) ?_ | refine okR_of (ih (by omega)) ?_ | refine okR_of (rising_ok (l := a.nms) (by omega) (by simp) (by omega)) ?_ | with_reducible refine stepE ?_ | with_reducible refine stepEs ?_ | with_reducible refine stepB ?_ | with_reducible refine stepS ?_ | refine okO_of (o := getSh _ _) rfl ?_ | refine okO_of (o := getOwn _ _) rfl ?_ | refine okO_of (o := seqOf _) rfl ?_ | with_reducible refine okFor_cons ?_ | with_reducible refine okFor_nil ?_)) <;> (try (conv => whnf))
      rfl
theorem free_in_ok [Gl gl 0 (.str small)] [Gl gl 2 (.str figs)] [Gl gl 1 (.str great)] [Gl gl 4 (.int 8)] [Fn T 5 c_built] [Fn T 7 c_is_letter] [Fn T 15 c_parts_of] [Fn T 27 c_rising] [Fn T 29 c_free_in] :
    ∀ (A : Stm) {n : Nat}, A.dp + 3 ≤ n → A.wf → 3 * A.sz < 4000 → callF T gl n 29 [A.enc] = .ok (.tup (A.fre.map .str))
  | .is w ts, n, hn, wf, hz => by
    refine eq_of_okR (okR_call (k := 3) hn rfl fun n hn => ?_)
    have pp := fun h => parts_of_ok (T := T) (gl := gl) (n := n) h (.is w ts)
    have h3 := wf.2.1
    have h2 := filt_len letterS ts
    unfold Stm.enc at pp ⊢
    (repeat' ((try (conv => whnf)) <;> first | with_reducible refine stepE ?_ | with_reducible refine stepEs ?_ | with_reducible refine stepB ?_ | with_reducible refine stepS ?_ | refine okO_of (o := getSh _ _) rfl ?_ | with_reducible refine okT_ct (by decide) ?_ | with_reducible refine o_eqs ?_ | refine okO_of (o := opIx (.tup (_ :: _)) _) rfl ?_ | with_reducible refine stepIt ?_ | refine okO_of (o := listOf _) rfl ?_ | refine okO_of (o := itemsOf _) rfl ?_)) <;> (try (conv => whnf))
    refine okComp_filter D.str letterS D.str (fun t _ => ?_) (fun t _ _ => ?_) ?_
    · (repeat' ((try (conv => whnf)) <;> first | refine okR_of (is_letter_ok (by omega) _) ?_ | with_reducible refine stepE ?_ | with_reducible refine stepEs ?_ | refine okO_of (o := getSh _ _) rfl ?_)) <;> (try (conv => whnf))
    · (repeat' ((try (conv => whnf)) <;> first | with_reducible refine stepE ?_ | refine okO_of (o := getSh _ _) rfl ?_)) <;> (try (conv => whnf))
    (repeat' ((try (conv => whnf)) <;> first | refine okR_of (pp (by omega)) ?_ | with_reducible refine stepE ?_ | with_reducible refine stepEs ?_ | with_reducible refine stepB ?_ | with_reducible refine stepS ?_ | refine okO_of (o := getSh _ _) rfl ?_ | with_reducible refine stepIt ?_ | refine okO_of (o := listOf _) rfl ?_ | refine okO_of (o := itemsOf _) rfl ?_)) <;> (try (conv => whnf))
    simp only [Stm.parts, List.map_nil]
    (repeat' ((try (conv => whnf)) <;> first | refine okR_of (rising_ok (l := ts.filter letterS) (by omega) rfl (by omega)) ?_ | with_reducible refine stepE ?_ | with_reducible refine stepEs ?_ | with_reducible refine stepB ?_ | with_reducible refine stepS ?_ | refine okO_of (o := getSh _ _) rfl ?_ | with_reducible refine okK_bl ?_ | with_reducible refine okT_cf (by decide) ?_ | with_reducible refine o_eqs ?_ | refine okO_of (o := opIx (.tup (_ :: _)) _) rfl ?_ | refine okO_of (o := getOwn _ _) rfl ?_ | with_reducible refine okFor_nil ?_)) <;> (try (conv => whnf))
    rfl
  | .fls, n, hn, wf, hz => by
    refine eq_of_okR (okR_call (k := 3) hn rfl fun n hn => ?_)
    have pp := fun h => parts_of_ok (T := T) (gl := gl) (n := n) h .fls
    unfold Stm.enc at pp ⊢
    (repeat' ((try (conv => whnf)) <;> first | refine okR_of (pp (by omega)) ?_ | with_reducible refine stepE ?_ | with_reducible refine stepEs ?_ | with_reducible refine stepB ?_ | with_reducible refine stepS ?_ | refine okO_of (o := getSh _ _) rfl ?_ | with_reducible refine okT_cf (by decide) ?_ | with_reducible refine o_eqs ?_ | refine okO_of (o := opIx (.tup (_ :: _)) _) rfl ?_ | with_reducible refine stepIt ?_ | refine okO_of (o := listOf _) rfl ?_ | refine okO_of (o := itemsOf _) rfl ?_)) <;> (try (conv => whnf))
    simp only [Stm.parts, List.map_nil]
    (repeat' ((try (conv => whnf)) <;> first | refine okR_of (rising_ok (l := .nil) (by omega) rfl (by decide)) ?_ | with_reducible refine stepE ?_ | with_reducible refine stepEs ?_ | with_reducible refine stepB ?_ | with_reducible refine stepS ?_ | refine okO_of (o := getSh _ _) rfl ?_ | with_reducible refine okK_bl ?_ | with_reducible refine okT_cf (by decide) ?_ | with_reducible refine o_eqs ?_ | refine okO_of (o := opIx (.tup (_ :: _)) _) rfl ?_ | refine okO_of (o := getOwn _ _) rfl ?_ | with_reducible refine okFor_nil ?_)) <;> (try (conv => whnf))
    rfl
  | .not a, n, hn, wf, hz => by
    refine eq_of_okR (okR_call (k := a.dp + 3) hn rfl fun n hn => ?_)
    have pp := fun h => parts_of_ok (T := T) (gl := gl) (n := n) h (.not a)
    have hz2 : 3 * a.sz < 4000 := by simp only [Stm.sz] at hz; omega
    have ih := fun h => free_in_ok a (n := n) h wf hz2
    have h2 := fre_len a wf
    have lv := line_val
    unfold Stm.enc at pp ⊢
    (repeat' ((try (conv => whnf)) <;> first | refine okR_of (pp (by omega)) ?_ | with_reducible refine stepE ?_ | with_reducible refine stepEs ?_ | with_reducible refine stepB ?_ | with_reducible refine stepS ?_ | refine okO_of (o := getSh _ _) rfl ?_ | with_reducible refine okT_cf (by decide) ?_ | with_reducible refine o_eqs ?_ | refine okO_of (o := opIx (.tup (_ :: _)) _) rfl ?_ | with_reducible refine stepIt ?_ | refine okO_of (o := listOf _) rfl ?_ | refine okO_of (o := itemsOf _) rfl ?_)) <;> (try (conv => whnf))
    simp only [Stm.parts, List.map_cons, List.map_nil]
    (repeat' ((try (conv => whnf)) <;> first | refine o_ext (by simp only [List.length_nil, List.length_map]; omega) ?_ | refine okR_of (ih (by omega)) ?_ | refine okR_of (rising_ok (l := a.fre) (by omega) (by simp) (by omega)) ?_ | with_reducible refine stepE ?_ | with_reducible refine stepEs ?_ | with_reducible refine stepB ?_ | with_reducible refine stepS ?_ | refine okO_of (o := getSh _ _) rfl ?_ | with_reducible refine okK_bl ?_ | with_reducible refine okT_cf (by decide) ?_ | with_reducible refine o_eqs ?_ | refine okO_of (o := opIx (.tup (_ :: _)) _) rfl ?_ | refine okO_of (o := getOwn _ _) rfl ?_ | refine okO_of (o := seqOf _) rfl ?_ | with_reducible refine okFor_cons ?_ | with_reducible refine okFor_nil ?_)) <;> (try (conv => whnf))
    rfl
  | .bin o a b, n, hn, wf, hz => by
    refine eq_of_okR (okR_call (k := max a.dp b.dp + 3) hn rfl fun n hn => ?_)
    have pp := fun h => parts_of_ok (T := T) (gl := gl) (n := n) h (.bin o a b)
    have hz2 : 3 * a.sz + 3 * b.sz < 4000 := by simp only [Stm.sz] at hz; omega
    have ih1 := fun h => free_in_ok a (n := n) h wf.1 (by omega)
    have ih2 := fun h => free_in_ok b (n := n) h wf.2 (by omega)
    have h2 := fre_len a wf.1
    have h3 := fre_len b wf.2
    have h4 : (a.fre ++ b.fre).length < 4000 := by rw [List.length_append]; omega
    have lv := line_val
    unfold Stm.enc at pp ⊢
    cases o
    all_goals
      (repeat' ((try (conv => whnf)) <;> first | refine okR_of (pp (by omega)) ?_ | with_reducible refine stepE ?_ | with_reducible refine stepEs ?_ | with_reducible refine stepB ?_ | with_reducible refine stepS ?_ | refine okO_of (o := getSh _ _) rfl ?_ | with_reducible refine okT_cf (by decide) ?_ | with_reducible refine o_eqs ?_ | refine okO_of (o := opIx (.tup (_ :: _)) _) rfl ?_ | with_reducible refine stepIt ?_ | refine okO_of (o := listOf _) rfl ?_ | refine okO_of (o := itemsOf _) rfl ?_)) <;> (try (conv => whnf))
      simp only [Stm.parts, List.map_cons, List.map_nil]
      (repeat' ((try (conv => whnf)) <;> first | refine o_ext (by simp only [List.length_nil, List.length_append, List.length_map]; omega) ?_ | refine okR_of (ih1 (by omega)) ?_ | refine okR_of (ih2 (by omega)) ?_ | refine okR_of (rising_ok (l := a.fre ++ b.fre) (by omega) (by simp) h4) ?_ | with_reducible refine stepE ?_ | with_reducible refine stepEs ?_ | with_reducible refine stepB ?_ | with_reducible refine stepS ?_ | refine okO_of (o := getSh _ _) rfl ?_ | with_reducible refine okK_bl ?_ | with_reducible refine okT_cf (by decide) ?_ | with_reducible refine o_eqs ?_ | refine okO_of (o := opIx (.tup (_ :: _)) _) rfl ?_ | refine okO_of (o := getOwn _ _) rfl ?_ | refine okO_of (o := seqOf _) rfl ?_ | with_reducible refine okFor_cons ?_ | with_reducible refine okFor_nil ?_)) <;> (try (conv => whnf))
      rfl
  | .qu q x a, n, hn, wf, hz => by
    refine eq_of_okR (okR_call (k := a.dp + 3) hn rfl fun n hn => ?_)
    have pp := fun h => parts_of_ok (T := T) (gl := gl) (n := n) h (.qu q x a)
    have hz2 : 3 * a.sz < 4000 := by simp only [Stm.sz] at hz; omega
    have ih := fun h => free_in_ok a (n := n) h wf.2 hz2
    have h2 := fre_len a wf.2
    have h3 := filt_len (fun t => !(t == x)) a.fre
    have lv := line_val
    unfold Stm.enc at pp ⊢
    cases q
    all_goals
      (repeat' ((try (conv => whnf)) <;> first | refine okR_of (pp (by omega)) ?_ | with_reducible refine stepE ?_ | with_reducible refine stepEs ?_ | with_reducible refine stepB ?_ | with_reducible refine stepS ?_ | refine okO_of (o := getSh _ _) rfl ?_ | with_reducible refine okT_cf (by decide) ?_ | with_reducible refine o_eqs ?_ | refine okO_of (o := opIx (.tup (_ :: _)) _) rfl ?_ | with_reducible refine stepIt ?_ | refine okO_of (o := listOf _) rfl ?_ | refine okO_of (o := itemsOf _) rfl ?_)) <;> (try (conv => whnf))
      simp only [Stm.parts, List.map_cons, List.map_nil]
      (repeat' ((try (conv => whnf)) <;> first | refine o_ext (by simp only [List.length_nil, List.length_map]; omega) ?_ | refine okR_of (ih (by omega)) ?_ | with_reducible refine stepE ?_ | with_reducible refine stepEs ?_ | with_reducible refine stepB ?_ | with_reducible refine stepS ?_ | refine okO_of (o := getSh _ _) rfl ?_ | with_reducible refine okK_bl ?_ | with_reducible refine okT_tt ?_ | with_reducible refine okT_ct (by decide) ?_ | with_reducible refine okT_cf (by decide) ?_ | with_reducible refine o_eqs ?_ | refine okO_of (o := opIx (.tup (_ :: _)) _) rfl ?_ | refine okO_of (o := getOwn _ _) rfl ?_ | with_reducible refine stepIt ?_ | refine okO_of (o := seqOf _) rfl ?_ | refine okO_of (o := itemsOf _) rfl ?_ | with_reducible refine okFor_cons ?_ | with_reducible refine okFor_nil ?_)) <;> (try (conv => whnf))
      refine okComp_filter D.str (fun t => !(t == x)) D.str (fun t _ => ?_) (fun t _ _ => ?_) ?_
      · (repeat' ((try (conv => whnf)) <;> first | with_reducible refine stepE ?_ | refine okO_of (o := getSh _ _) rfl ?_ | with_reducible refine o_nes ?_ | refine okO_of (o := opIx (.tup (_ :: _)) _) rfl ?_)) <;> (try (conv => whnf))
      · (repeat' ((try (conv => whnf)) <;> first | with_reducible refine stepE ?_ | refine okO_of (o := getSh _ _) rfl ?_)) <;> (try (conv => whnf))
      (repeat' ((try (conv => whnf)) <;> first | refine okR_of (rising_ok (l := a.fre.filter fun t => !(t == x)) (by omega) rfl (by omega)) ?_ | with_reducible refine stepE ?_ | with_reducible refine stepEs ?_ | with_reducible refine stepB ?_ | with_reducible refine stepS ?_ | refine okO_of (o := getSh _ _) rfl ?_ | refine okO_of (o := getOwn _ _) rfl ?_ | refine okO_of (o := listOf _) rfl ?_)) <;> (try (conv => whnf))
      rfl
end
end Ev

/-! Closed statements drawn (k31 to k37). -/
namespace Ev
theorem signs_snoc {fs t : List Nat} {k c : Nat} (h : SignsOk fs t k) (h0 : k = 0 → c ∈ fs) (h1 : 0 < k → c ∈ small ++ figs) : SignsOk fs (t ++ [c]) (k + 1) := by
  have hl := h.len
  refine ⟨by simp [hl], fun _ => ?_, fun j d hj e => ?_⟩
  · cases k with
    | zero =>
      have : t = [] := List.length_eq_zero_iff.mp hl
      subst this
      exact h0 rfl
    | succ k =>
      have := h.first (by omega)
      rw [List.getD_eq_getElem?_getD] at this ⊢
      rw [List.getElem?_append_left (by omega)]
      exact this
  · by_cases q : j < t.length
    · rw [List.getElem?_append_left q] at e
      exact h.rest j d hj e
    · rw [List.getElem?_append_right (by omega)] at e
      have : j - t.length = 0 := by
        have := (List.getElem?_eq_some_iff.mp e).1
        simp at this
        omega
      rw [this] at e
      cases e
      exact h1 (by omega)
def num31' (d : D) : Prop := ∃ m : Int, d = .int m ∧ 0 ≤ m ∧ m < 2147483648
section
variable {T : Nat → Option FD} {gl : Nat → Option D}
theorem cell_at_v1_ok [Fn T 232 c_law_cell_at_v1] {n : Nat} (hn : 1 ≤ n) (s : List Int) (k : Int) : okR (callF T gl n 232 [.lst (s.map .int), .int k]) noX num31' := by
  refine okR_call (k := 0) hn rfl fun n hn => ?_
  (repeat' ((try (conv => whnf)) <;> first | with_reducible refine stepE ?_ | with_reducible refine stepEs ?_ | with_reducible refine stepB ?_ | with_reducible refine stepS ?_ | refine okO_of (o := getSh _ _) rfl ?_ | with_reducible refine okT_dec (fun hT => ?_) (fun hT => ?_) | with_reducible refine o_mod (by first | decide | omega | (simp only [List.length_map, List.length_range, List.length_cons, List.length_nil, List.length_append]; omega)) ?_ | with_reducible refine o_eqi ?_ | refine okO_of (o := opF _ _) rfl ?_)) <;> (try (conv => whnf))
  · exact ⟨0, rfl, by omega, by omega⟩
  · simp only [List.length_map] at hT ⊢
    have hl : 0 < (s.length : Int) := by omega
    have h0 : 0 ≤ k % (s.length : Int) := Int.emod_nonneg _ (by omega)
    have h1 : k % (s.length : Int) < s.length := Int.emod_lt_of_pos _ hl
    refine o_ixi h0 h1 ?_
    (repeat' ((try (conv => whnf)) <;> first | with_reducible refine stepE ?_ | with_reducible refine stepB ?_ | with_reducible refine stepS ?_ | refine okO_of (o := getSh _ _) rfl ?_ | with_reducible refine o_addi ?_ | with_reducible refine o_mod (by first | decide | omega | (simp only [List.length_map, List.length_range, List.length_cons, List.length_nil, List.length_append]; omega)) ?_ | with_reducible refine o_mul (by first | (exact Or.inl (by decide)) | (exact Or.inr (by decide)) | omega) ?_)) <;> (try (conv => whnf))
    exact ⟨_, rfl, by omega, by omega⟩
abbrev s36 : List Nat := 97 :: 98 :: 99 :: 100 :: 101 :: 102 :: 103 :: 104 :: 105 :: 106 :: 107 :: 108 :: 109 :: 110 :: 111 :: 112 :: 113 :: 114 :: 115 :: 116 :: 117 :: 118 :: 119 :: 120 :: 121 :: 122 :: 48 :: 49 :: 50 :: 51 :: 52 :: 53 :: 54 :: 55 :: 56 :: 57 :: []
theorem s36_26 {j c : Nat} (hj : j < 26) (h : s36[j]? = some c) : c ∈ small := by
  have e : ∀ j < 26, s36[j]? = small[j]? := by decide
  rw [e j hj] at h
  exact List.mem_of_getElem? h
theorem s36_36 {j c : Nat} (h : s36[j]? = some c) : c ∈ small ++ figs := List.mem_of_getElem? (show (small ++ figs)[j]? = some c from h)
theorem name_by_v2_ok [Fn T 233 c_law_name_by_v2] {n : Nat} (hn : 1 ≤ n) (i c k : Int) : okR (callF T gl n 233 [.int i, .int c, .int k]) noX fun d => ∃ t, d = .str t ∧ nameS t = true := by
  refine okR_call (k := 0) hn rfl fun n hn => ?_
  have lv := line_val
  have fin : ∀ c : Int, okB (callF T gl n) gl (c_law_name_by_v2.body.tail 3) [some (.sh, .int i), some (.sh, .int c), some (.sh, .int k), some (.sh, .str s36), some (.sh, .int (i / 2 % 8)), none, none] (.fn (fun d => ∃ t, d = .str t ∧ nameS t = true) noX) := fun c => by
    generalize hp : i / 2 % 8 = p
    have p0 : 0 ≤ p := by omega
    have p7 : p < 8 := by omega
    (repeat' ((try (conv => whnf)) <;> first | with_reducible refine stepE ?_ | with_reducible refine stepB ?_ | with_reducible refine stepS ?_ | refine okO_of (o := getSh _ _) rfl ?_ | with_reducible refine o_addi ?_ | with_reducible refine o_subi ?_ | with_reducible refine o_mod (by first | decide | omega | (simp only [List.length_map, List.length_range, List.length_cons, List.length_nil, List.length_append]; omega)) ?_ | with_reducible refine o_fdiv (by first | decide | omega | (simp only [List.length_map, List.length_range, List.length_cons, List.length_nil, List.length_append]; omega)) (by first | decide | omega | (simp only [List.length_map, List.length_range, List.length_cons, List.length_nil, List.length_append]; omega)) ?_ | with_reducible refine stepIt ?_)) <;> (try (conv => whnf))
    have m0 := Int.emod_nonneg (c / 7) (show (8 - p) ≠ 0 by omega)
    have m1 := Int.emod_lt_of_pos (c / 7) (show 0 < 8 - p by omega)
    generalize hq : c / 7 % (8 - p) = q at *
    (try (conv => whnf)) <;> (try (conv => whnf))
    refine o_rng1 (by omega) (by omega) ?_
    refine okFor_rng0 (I := fun k' ρ => ∃ (t : List Nat) (v6 : Option (Fl × D)), SignsOk small t k' ∧ ρ = [some (.sh, .int i), some (.sh, .int c), some (.sh, .int k), some (.sh, .str s36), some (.sh, .int p), some (.sh, .str t), v6]) ⟨[], _, ⟨rfl, fun h => absurd h (by omega), fun i c hi h => by simp at h⟩, rfl⟩ ?_ ?_
    · intro k' hk ρ ⟨t, v6, hs, hρ⟩
      subst hρ
      have hl := hs.len
      (repeat' ((try (conv => whnf)) <;> first | with_reducible refine stepE ?_ | with_reducible refine stepB ?_ | with_reducible refine stepS ?_ | refine okO_of (o := getSh _ _) rfl ?_ | with_reducible refine okT_dec (fun hT => ?_) (fun hT => ?_) | with_reducible refine o_addi ?_ | with_reducible refine o_mod (by first | decide | omega | (simp only [List.length_map, List.length_range, List.length_cons, List.length_nil, List.length_append]; omega)) ?_ | with_reducible refine o_fdiv (by first | decide | omega | (simp only [List.length_map, List.length_range, List.length_cons, List.length_nil, List.length_append]; omega)) (by first | decide | omega | (simp only [List.length_map, List.length_range, List.length_cons, List.length_nil, List.length_append]; omega)) ?_ | with_reducible refine o_mul (by first | (exact Or.inl (by decide)) | (exact Or.inr (by decide)) | omega) ?_ | with_reducible refine o_eqi ?_)) <;> (try (conv => whnf))
      · refine o_ixs' (by omega) (by simp only [List.length_cons, List.length_nil]; omega) fun c hc => ?_
        refine o_adds (by simp only [List.length_cons, List.length_nil]; omega) ?_
        (repeat' ((try (conv => whnf)) <;> (with_reducible refine stepB ?_))) <;> (try (conv => whnf))
        have hc := s36_26 (by omega) hc
        exact ⟨t ++ [c], _, signs_snoc hs (fun _ => hc) (fun _ => List.mem_append_left _ hc), rfl⟩
      · refine o_ixs' (by omega) (by simp only [List.length_cons, List.length_nil]; omega) fun c hc => ?_
        refine o_adds (by simp only [List.length_cons, List.length_nil]; omega) ?_
        (repeat' ((try (conv => whnf)) <;> (with_reducible refine stepB ?_))) <;> (try (conv => whnf))
        have hc := s36_26 (by omega) hc
        exact ⟨t ++ [c], _, signs_snoc hs (fun _ => hc) (fun _ => List.mem_append_left _ hc), rfl⟩
      · refine o_ixs' (by omega) (by simp only [List.length_cons, List.length_nil]; omega) fun c hc => ?_
        refine o_adds (by simp only [List.length_cons, List.length_nil]; omega) ?_
        (repeat' ((try (conv => whnf)) <;> (with_reducible refine stepB ?_))) <;> (try (conv => whnf))
        have hc := s36_36 hc
        exact ⟨t ++ [c], _, signs_snoc hs (fun h => by omega) (fun _ => hc), rfl⟩
    · intro ρ ⟨t, v6, hs, hρ⟩
      subst hρ
      have hb := signs_built hs (by omega) (by omega)
      have hl := hs.len
      (repeat' ((try (conv => whnf)) <;> first | with_reducible refine stepE ?_ | with_reducible refine stepEs ?_ | with_reducible refine stepB ?_ | with_reducible refine stepS ?_ | refine okO_of (o := getSh _ _) rfl ?_ | with_reducible refine okT_bl (fun hT => ?_) (fun hT => ?_) | with_reducible refine o_inls ?_ | with_reducible refine o_adds (by (simp only [List.length_append, List.length_cons, List.length_nil, List.length_map, line_val]; omega)) ?_)) <;> (try (conv => whnf))
      all_goals
        rw [show [D.str [110, 111, 116], D.str [97, 110, 100], D.str [111, 114], D.str [116, 104, 101, 110], D.str [97, 108, 108], D.str [115, 111, 109, 101], D.str [102, 97, 108, 115, 101]] = kept.map D.str from rfl, isIn_strs] at hT
      · have hm : t ∈ kept := by simpa using hT
        obtain ⟨b1, b2⟩ := kept_nought hm
        (try (conv => whnf)) <;> (try (conv => whnf))
        exact ⟨_, rfl, by unfold nameS; rw [b1, b2]; rfl⟩
      · exact ⟨_, rfl, by unfold nameS; rw [hb, hT]; rfl⟩
  (repeat' ((try (conv => whnf)) <;> first | refine fin _ | with_reducible refine stepE ?_ | with_reducible refine stepB ?_ | with_reducible refine stepS ?_ | refine okO_of (o := getSh _ _) rfl ?_ | with_reducible refine okT_dec (fun hT => ?_) (fun hT => ?_) | with_reducible refine o_mod (by first | decide | omega | (simp only [List.length_map, List.length_range, List.length_cons, List.length_nil, List.length_append]; omega)) ?_ | with_reducible refine o_fdiv (by first | decide | omega | (simp only [List.length_map, List.length_range, List.length_cons, List.length_nil, List.length_append]; omega)) (by first | decide | omega | (simp only [List.length_map, List.length_range, List.length_cons, List.length_nil, List.length_append]; omega)) ?_ | with_reducible refine o_eqi ?_)) <;> (try (conv => whnf))
theorem letter_by_ok [Fn T 234 c_law_letter_by] {n : Nat} (hn : 1 ≤ n) (i : Int) : okR (callF T gl n 234 [.int i]) noX fun d => ∃ t, d = .str t ∧ letterS t = true := by
  refine okR_call (k := 0) hn rfl fun n hn => ?_
  have lv := line_val
  (repeat' ((try (conv => whnf)) <;> first | with_reducible refine stepE ?_ | with_reducible refine stepB ?_ | with_reducible refine stepS ?_ | refine okO_of (o := getSh _ _) rfl ?_ | with_reducible refine o_mod (by first | decide | omega | (simp only [List.length_map, List.length_range, List.length_cons, List.length_nil, List.length_append]; omega)) ?_)) <;> (try (conv => whnf))
  refine o_ixs' (by omega) (by simp only [List.length_cons, List.length_nil]; omega) fun c hc => ?_
  have hc : c ∈ great := List.mem_of_getElem? hc
  (repeat' ((try (conv => whnf)) <;> first | with_reducible refine stepE ?_ | with_reducible refine stepEs ?_ | refine okO_of (o := getSh _ _) rfl ?_ | with_reducible refine o_mod (by first | decide | omega | (simp only [List.length_map, List.length_range, List.length_cons, List.length_nil, List.length_append]; omega)) ?_ | with_reducible refine o_fdiv (by first | decide | omega | (simp only [List.length_map, List.length_range, List.length_cons, List.length_nil, List.length_append]; omega)) (by first | decide | omega | (simp only [List.length_map, List.length_range, List.length_cons, List.length_nil, List.length_append]; omega)) ?_)) <;> (try (conv => whnf))
  refine o_ixl' (by omega) (by simp only [List.length_cons, List.length_nil]; omega) fun d hd => ?_
  have := List.mem_of_getElem? hd
  simp only [List.mem_cons, List.not_mem_nil, or_false] at this
  have key : ∀ r : List Nat, r.length ≤ 7 → tailOk r = true → letterS ([c] ++ r) = true := fun r h1 h2 => by
    unfold letterS builtS
    have : great.contains (([c] ++ r).getD 0 0) = true := by simpa using hc
    rw [this]
    simp only [List.singleton_append, List.length_cons, List.drop_succ_cons, List.drop_zero, h2, Bool.and_true, Bool.and_eq_true, decide_eq_true_eq]
    omega
  rcases this with h | h | h | h | h <;> subst h
  all_goals
    refine o_adds (by simp only [List.length_cons, List.length_nil]; omega) ?_
    exact ⟨_, rfl, key _ (by decide) (by decide)⟩
/-- what is drawn with so much room of these terms -/
structure MadeOk (r : Nat) (ts : List (List Nat)) (A : Stm) : Prop where
  wf : A.wf
  dp : A.dp ≤ r + 1
  sz : A.sz + 1 ≤ 2 ^ (r + 1)
  ft : ∀ t ∈ A.ft, t ∈ ts
theorem MadeOk.le {r q : Nat} {ts : List (List Nat)} {A : Stm} (h : MadeOk r ts A) (l : r ≤ q) : MadeOk q ts A := ⟨h.wf, by have := h.dp; omega, Nat.le_trans h.sz (Nat.pow_le_pow_right (by omega) (by omega)), h.ft⟩
theorem two_pow_pos (r : Nat) : 2 ≤ 2 ^ (r + 1) := Nat.le_trans (by decide : 2 ≤ 2 ^ 1) (Nat.pow_le_pow_right (by omega) (by omega))
theorem made_ok [Fn T 234 c_law_letter_by] [Fn T 235 c_law_made] : ∀ (z r : Nat) (j i : Int) (ts ws : List (List Nat)) {n : Nat}, r ≤ z → j = (r : Int) → r + 2 ≤ n → 0 < ts.length → ts.length + r ≤ 1000 → (∀ t ∈ ts, termOk t = true) → ws.length = 3 → (∀ w ∈ ws, nameS w = true) →
    okR (callF T gl n 235 [.int i, .int j, .lst (ts.map .str), .lst (ws.map .str)]) noX fun d => ∃ A : Stm, d = A.enc ∧ MadeOk r ts A
  | z, r, j, i, ts, ws, n, hz, hj, hn, t0, t1, ht, w3, hw => by
    refine okR_call (k := r + 1) hn rfl fun n hn => ?_
    have lv := line_val
    have tp := two_pow_pos r
    (repeat' ((try (conv => whnf)) <;> first | with_reducible refine stepE ?_ | with_reducible refine stepEs ?_ | with_reducible refine stepB ?_ | with_reducible refine stepS ?_ | refine okO_of (o := getSh _ _) rfl ?_ | with_reducible refine okK_bl ?_ | with_reducible refine okT_tt ?_ | with_reducible refine okT_dec (fun hT => ?_) (fun hT => ?_) | with_reducible refine o_addi ?_ | with_reducible refine o_subi ?_ | with_reducible refine o_mod (by first | decide | omega | (simp only [List.length_map, List.length_range, List.length_cons, List.length_nil, List.length_append]; omega)) ?_ | with_reducible refine o_fdiv (by first | decide | omega | (simp only [List.length_map, List.length_range, List.length_cons, List.length_nil, List.length_append]; omega)) (by first | decide | omega | (simp only [List.length_map, List.length_range, List.length_cons, List.length_nil, List.length_append]; omega)) ?_ | with_reducible refine o_mul (by first | (exact Or.inl (by decide)) | (exact Or.inr (by decide)) | omega) ?_ | with_reducible refine o_eqi ?_ | refine okO_of (o := opC _ (.int _) (.int _)) rfl ?_ | with_reducible refine stepIt ?_ | refine okO_of (o := listOf _) rfl ?_)) <;> (try (conv => whnf))
    any_goals
      refine o_rng1 (by omega) (by omega) ?_
      refine okFor_rng0 (I := fun k ρ => ∃ (l : List (List Nat)) (m : Int) (v8 : Option (Fl × D)), l.length = k ∧ (∀ t ∈ l, t ∈ ts) ∧ 0 ≤ m ∧ m < 2147483648 ∧ ρ = [some (.sh, .int i), some (.sh, .int j), some (.sh, .lst (ts.map .str)), some (.sh, .lst (ws.map .str)), some (.sh, .int (i % 9)), some (.sh, .int m), none, some (.own, .lst (l.map .str)), v8, none, none]) ⟨[], _, _, rfl, by simp, by omega, by omega, rfl⟩ ?_ ?_
      · intro k hk ρ ⟨l, m, v8, h1, h2, m0, m1, hρ⟩
        subst hρ
        (repeat' ((try (conv => whnf)) <;> first | with_reducible refine stepE ?_ | with_reducible refine stepEs ?_ | with_reducible refine stepB ?_ | with_reducible refine stepS ?_ | refine okO_of (o := getSh _ _) rfl ?_ | with_reducible refine o_addi ?_ | with_reducible refine o_mod (by first | decide | omega | (simp only [List.length_map, List.length_range, List.length_cons, List.length_nil, List.length_append]; omega)) ?_ | with_reducible refine o_fdiv (by first | decide | omega | (simp only [List.length_map, List.length_range, List.length_cons, List.length_nil, List.length_append]; omega)) (by first | decide | omega | (simp only [List.length_map, List.length_range, List.length_cons, List.length_nil, List.length_append]; omega)) ?_ | with_reducible refine o_mul (by first | (exact Or.inl (by decide)) | (exact Or.inr (by decide)) | omega) ?_ | refine okO_of (o := opF _ _) rfl ?_ | refine okO_of (o := getOwn _ _) rfl ?_)) <;> (try (conv => whnf))
        simp only [List.length_map]
        refine o_ixlm (dec := fun t : List Nat => D.str t) (Int.emod_nonneg _ (by omega)) (Int.emod_lt_of_pos _ (by omega)) fun t hm => ?_
        refine o_app (by simp; omega) ?_
        (repeat' ((try (conv => whnf)) <;> (with_reducible refine stepB ?_))) <;> (try (conv => whnf))
        refine ⟨l ++ [t], _, _, by simp [h1], fun u hu => ?_, ?_, ?_, by simp; rfl⟩
        · rcases List.mem_append.mp hu with hu | hu
          · exact h2 u hu
          · simp at hu; subst hu; exact List.mem_of_getElem? hm
        · omega
        · omega
      · intro ρ ⟨l, m, v8, h1, h2, m0, m1, hρ⟩
        subst hρ
        (repeat' ((try (conv => whnf)) <;> first | with_reducible refine stepE ?_ | with_reducible refine stepEs ?_ | with_reducible refine stepB ?_ | with_reducible refine stepS ?_ | refine okO_of (o := getSh _ _) rfl ?_ | with_reducible refine o_mod (by first | decide | omega | (simp only [List.length_map, List.length_range, List.length_cons, List.length_nil, List.length_append]; omega)) ?_ | with_reducible refine o_fdiv (by first | decide | omega | (simp only [List.length_map, List.length_range, List.length_cons, List.length_nil, List.length_append]; omega)) (by first | decide | omega | (simp only [List.length_map, List.length_range, List.length_cons, List.length_nil, List.length_append]; omega)) ?_)) <;> (try (conv => whnf))
        refine o_ixlm (dec := fun t : List Nat => D.str t) (by omega) (by omega) fun w hm => ?_
        (repeat' ((try (conv => whnf)) <;> first | with_reducible refine stepE ?_ | with_reducible refine stepEs ?_ | refine okO_of (o := opF _ _) rfl ?_ | refine okO_of (o := getAny _ _) rfl ?_)) <;> (try (conv => whnf))
        exact ⟨.is w l, rfl, ⟨hw w (List.mem_of_getElem? hm), by omega, fun t h => ht t (h2 t h)⟩, by simp [Stm.dp], by simp only [Stm.sz]; omega, h2⟩
    · exact ⟨.fls, rfl, trivial, by simp [Stm.dp], by simp only [Stm.sz]; omega, fun t h => by cases h⟩
    all_goals
      obtain ⟨q, rfl⟩ : ∃ q, r = q + 1 := ⟨r - 1, by omega⟩
      obtain ⟨y, rfl⟩ : ∃ y, z = y + 1 := ⟨z - 1, by omega⟩
      have pq : 2 ^ (q + 1 + 1) = 2 * 2 ^ (q + 1) := by rw [Nat.pow_succ]; omega
    · refine okR_then (made_ok y q _ _ ts ws (by omega) (by omega) (by omega) t0 (by omega) ht w3 hw) fun d ⟨A, hd, hA⟩ => ?_
      subst hd
      (repeat' ((try (conv => whnf)) <;> (with_reducible refine stepEs ?_))) <;> (try (conv => whnf))
      have := hA.dp
      have := hA.sz
      exact ⟨.not A, rfl, hA.wf, by simp only [Stm.dp]; omega, by simp only [Stm.sz]; omega, hA.ft⟩
    · refine okR_then (made_ok y q _ _ ts ws (by omega) (by omega) (by omega) t0 (by omega) ht w3 hw) fun d ⟨A, hd, hA⟩ => ?_
      subst hd
      (repeat' ((try (conv => whnf)) <;> first | with_reducible refine stepE ?_ | with_reducible refine stepEs ?_ | with_reducible refine stepB ?_ | with_reducible refine stepS ?_ | refine okO_of (o := getSh _ _) rfl ?_ | with_reducible refine o_subi ?_ | with_reducible refine o_mod (by first | decide | omega | (simp only [List.length_map, List.length_range, List.length_cons, List.length_nil, List.length_append]; omega)) ?_ | with_reducible refine o_mul (by first | (exact Or.inl (by decide)) | (exact Or.inr (by decide)) | omega) ?_)) <;> (try (conv => whnf))
      refine okR_then (made_ok y q _ _ ts ws (by omega) (by omega) (by omega) t0 (by omega) ht w3 hw) fun d ⟨B, hd, hB⟩ => ?_
      subst hd
      (repeat' ((try (conv => whnf)) <;> first | with_reducible refine stepE ?_ | with_reducible refine stepEs ?_ | with_reducible refine stepB ?_ | with_reducible refine stepS ?_ | refine okO_of (o := getSh _ _) rfl ?_ | with_reducible refine o_subi ?_)) <;> (try (conv => whnf))
      refine o_ixl' (by omega) (by simp only [List.length_cons, List.length_nil]; omega) fun d hd => ?_
      obtain ⟨o, rfl⟩ : ∃ o : Op, d = .str o.s := by
        have := List.mem_of_getElem? hd
        simp only [List.mem_cons, List.not_mem_nil, or_false] at this
        rcases this with h | h | h
        · exact ⟨.and, h⟩
        · exact ⟨.or, h⟩
        · exact ⟨.thn, h⟩
      (repeat' ((try (conv => whnf)) <;> first | with_reducible refine stepE ?_ | with_reducible refine stepEs ?_ | refine okO_of (o := getSh _ _) rfl ?_)) <;> (try (conv => whnf))
      have := hA.dp
      have := hA.sz
      have := hB.dp
      have := hB.sz
      refine ⟨.bin o A B, rfl, ⟨hA.wf, hB.wf⟩, by simp only [Stm.dp]; omega, by simp only [Stm.sz]; omega, fun t h => ?_⟩
      rcases List.mem_append.mp h with h | h
      · exact hA.ft t h
      · exact hB.ft t h
    · refine okR_then (letter_by_ok (by omega) _) fun d ⟨x, hd, hx⟩ => ?_
      subst hd
      (repeat' ((try (conv => whnf)) <;> first | with_reducible refine stepE ?_ | with_reducible refine stepEs ?_ | with_reducible refine stepB ?_ | with_reducible refine stepS ?_ | refine okO_of (o := getSh _ _) rfl ?_ | with_reducible refine o_mod (by first | decide | omega | (simp only [List.length_map, List.length_range, List.length_cons, List.length_nil, List.length_append]; omega)) ?_ | with_reducible refine o_mul (by first | (exact Or.inl (by decide)) | (exact Or.inr (by decide)) | omega) ?_)) <;> (try (conv => whnf))
      refine o_ixl' (by omega) (by simp only [List.length_cons, List.length_nil]; omega) fun d hd => ?_
      obtain ⟨k, rfl⟩ : ∃ k : Bool, d = .str (quS k) := by
        have := List.mem_of_getElem? hd
        simp only [List.mem_cons, List.not_mem_nil, or_false] at this
        rcases this with h | h
        · exact ⟨true, h⟩
        · exact ⟨false, h⟩
      (repeat' ((try (conv => whnf)) <;> first | with_reducible refine stepE ?_ | with_reducible refine stepEs ?_ | refine okO_of (o := getSh _ _) rfl ?_ | with_reducible refine o_subi ?_)) <;> (try (conv => whnf))
      refine o_addl (by simp; omega) ?_
      rw [show ts.map D.str ++ [D.str x] = (ts ++ [x]).map D.str by simp]
      (repeat' ((try (conv => whnf)) <;> first | with_reducible refine stepE ?_ | with_reducible refine stepEs ?_ | refine okO_of (o := getSh _ _) rfl ?_)) <;> (try (conv => whnf))
      refine okR_then (made_ok y q _ _ (ts ++ [x]) ws (by omega) (by omega) (by omega) (by simp) (by simp; omega) (fun t h => ?_) w3 hw) fun d ⟨A, hd, hA⟩ => ?_
      · rcases List.mem_append.mp h with h | h
        · exact ht t h
        · simp at h
          subst h
          simp [termOk, hx]
      subst hd
      (repeat' ((try (conv => whnf)) <;> (with_reducible refine stepEs ?_))) <;> (try (conv => whnf))
      have := hA.dp
      have := hA.sz
      refine ⟨.qu k x A, rfl, ⟨hx, hA.wf⟩, by simp only [Stm.dp]; omega, by simp only [Stm.sz]; omega, fun t h => ?_⟩
      obtain ⟨h1, h2⟩ := List.mem_filter.mp h
      rcases List.mem_append.mp (hA.ft t h1) with h | h
      · exact h
      · simp at h
        subst h
        simp at h2
/-- what stands drawn: closed ones of names alone -/
structure Clo (d z : Nat) (A : Stm) : Prop where
  wf : A.wf
  dp : A.dp ≤ d
  sz : A.sz ≤ z
  fre : A.fre = []
abbrev Cl := Clo 10 1000
theorem Clo.le {d z e y : Nat} {A : Stm} (h : Clo d z A) (l : d ≤ e) (m : z ≤ y) : Clo e y A := ⟨h.wf, Nat.le_trans h.dp l, Nat.le_trans h.sz m, h.fre⟩
theorem sortU_nil {l : List (List Nat)} (h : l = []) : sortU l = [] := by subst h; rfl
theorem Clo.fls {d z : Nat} (h : 1 ≤ d) (h2 : 1 ≤ z) : Clo d z .fls := ⟨trivial, h, h2, rfl⟩
theorem Clo.not {d z : Nat} {A : Stm} (h : Clo d z A) : Clo (d + 1) (z + 1) (.not A) := ⟨h.wf, by have := h.dp; simp only [Stm.dp]; omega, by have := h.sz; simp only [Stm.sz]; omega, sortU_nil h.fre⟩
theorem Clo.bin {d z y : Nat} {A B : Stm} (o : Op) (h : Clo d z A) (k : Clo d y B) : Clo (d + 1) (z + y + 1) (.bin o A B) := ⟨⟨h.wf, k.wf⟩, by have := h.dp; have := k.dp; simp only [Stm.dp]; omega, by have := h.sz; have := k.sz; simp only [Stm.sz]; omega, sortU_nil (by rw [h.fre, k.fre]; rfl)⟩
theorem fre_bin {o : Op} {A B : Stm} (h : (Stm.bin o A B).fre = []) : A.fre = [] ∧ B.fre = [] := by
  have e : ∀ k, k ∉ (Stm.bin o A B).fre := fun k hk => by rw [h] at hk; cases hk
  constructor <;> refine List.eq_nil_iff_forall_not_mem.mpr fun k hk => e k ((fre_mem _ k).mpr ?_)
  · obtain ⟨m1, m2⟩ := (fre_mem _ k).mp hk
    exact ⟨List.mem_append_left _ m1, m2⟩
  · obtain ⟨m1, m2⟩ := (fre_mem _ k).mp hk
    exact ⟨List.mem_append_right _ m1, m2⟩
theorem Clo.left {d z : Nat} {o : Op} {A B : Stm} (h : Clo d z (.bin o A B)) : Clo d z A := ⟨h.wf.1, by have := h.dp; simp only [Stm.dp] at this; omega, by have := h.sz; simp only [Stm.sz] at this; omega, (fre_bin h.fre).1⟩
theorem Clo.right {d z : Nat} {o : Op} {A B : Stm} (h : Clo d z (.bin o A B)) : Clo d z B := ⟨h.wf.2, by have := h.dp; simp only [Stm.dp] at this; omega, by have := h.sz; simp only [Stm.sz] at this; omega, (fre_bin h.fre).2⟩
theorem nil_of_mem {α : Type} {l : List α} (h : ∀ a, a ∉ l) : l = [] := List.eq_nil_iff_forall_not_mem.mpr h
theorem MadeOk.cl {r : Nat} {ts : List (List Nat)} {A : Stm} (h : MadeOk r ts A) (r4 : r ≤ 4) (ht : ∀ t ∈ ts, nameS t = true) : Clo 5 31 A := by
  have h1 := h.dp
  have h2 := h.sz
  have : 2 ^ (r + 1) ≤ 2 ^ 5 := Nat.pow_le_pow_right (by omega) (by omega)
  refine ⟨h.wf, by omega, by omega, nil_of_mem fun t hm => ?_⟩
  obtain ⟨m1, m2⟩ := (fre_mem A t).mp hm
  rw [name_letter (ht t (h.ft t m1))] at m2
  cases m2
/-- names and words drawn -/
structure DrawOk (ns ws : List (List Nat)) : Prop where
  n3 : ns.length = 3
  w3 : ws.length = 3
  n : ∀ t ∈ ns, nameS t = true
  w : ∀ t ∈ ws, nameS t = true
theorem draw_ok [Fn T 232 c_law_cell_at_v1] [Fn T 233 c_law_name_by_v2] [Fn T 236 c_law_draw] {n : Nat} (hn : 2 ≤ n) (s : List Int) (a : Int) :
    okR (callF T gl n 236 [.lst (s.map .int), .int a]) noX fun d => ∃ ns ws, d = .lst [.lst (ns.map .str), .lst (ws.map .str)] ∧ DrawOk ns ws := by
  refine okR_call (k := 1) hn rfl fun n hn => ?_
  have lv := line_val
  (repeat' ((try (conv => whnf)) <;> first | with_reducible refine stepE ?_ | with_reducible refine stepEs ?_ | with_reducible refine stepB ?_ | with_reducible refine stepS ?_ | refine okO_of (o := getSh _ _) rfl ?_)) <;> (try (conv => whnf))
  refine okR_then (cell_at_v1_ok (by omega) s _) fun d ⟨m, hd, m0, m1⟩ => ?_
  subst hd
  have all : ∀ (l : List (List Nat)), l.length = 3 → (∀ (k a : Nat) (b : List Nat), (List.range 3)[k]? = some a → l[k]? = some b → nameS b = true) → ∀ t ∈ l, nameS t = true := fun l h3 h t ht => by
    obtain ⟨j, hj⟩ := List.mem_iff_getElem?.mp ht
    have := (List.getElem?_eq_some_iff.mp hj).1
    exact h j j t (List.getElem?_range (by omega)) hj
  (repeat' ((try (conv => whnf)) <;> first | with_reducible refine stepE ?_ | with_reducible refine stepB ?_ | with_reducible refine stepS ?_ | with_reducible refine stepIt ?_)) <;> (try (conv => whnf))
  refine o_rng1 (by omega) (by omega) ?_
  rw [rng_map]
  refine okComp_each eN (fun t : List Nat => D.str t) (fun _ t => nameS t = true) (fun x _ => ?_) fun ns hr hp => ?_
  · (repeat' ((try (conv => whnf)) <;> first | with_reducible refine stepE ?_ | with_reducible refine stepEs ?_ | refine okO_of (o := getSh _ _) rfl ?_ | with_reducible refine o_addi ?_ | with_reducible refine o_fdiv (by first | decide | omega | (simp only [List.length_map, List.length_range, List.length_cons, List.length_nil, List.length_append]; omega)) (by first | decide | omega | (simp only [List.length_map, List.length_range, List.length_cons, List.length_nil, List.length_append]; omega)) ?_)) <;> (try (conv => whnf))
    refine okR_then (cell_at_v1_ok (by omega) s _) fun d ⟨c, hd, c0, c1⟩ => ?_
    subst hd
    (repeat' ((try (conv => whnf)) <;> first | with_reducible refine stepE ?_ | with_reducible refine stepEs ?_ | refine okO_of (o := getSh _ _) rfl ?_)) <;> (try (conv => whnf))
    exact name_by_v2_ok (by omega) _ _ _
  have n3 : ns.length = 3 := hr
  have hn := all ns n3 hp
  (repeat' ((try (conv => whnf)) <;> first | with_reducible refine stepE ?_ | with_reducible refine stepB ?_ | with_reducible refine stepS ?_ | refine okO_of (o := getOwn _ _) rfl ?_ | with_reducible refine stepIt ?_ | refine okO_of (o := listOf _) rfl ?_)) <;> (try (conv => whnf))
  refine o_rng1 (by omega) (by omega) ?_
  rw [rng_map]
  refine okComp_each eN (fun t : List Nat => D.str t) (fun _ t => nameS t = true) (fun x _ => ?_) fun ws hr hp => ?_
  · (repeat' ((try (conv => whnf)) <;> first | with_reducible refine stepE ?_ | with_reducible refine stepEs ?_ | refine okO_of (o := getSh _ _) rfl ?_ | with_reducible refine o_addi ?_ | with_reducible refine o_fdiv (by first | decide | omega | (simp only [List.length_map, List.length_range, List.length_cons, List.length_nil, List.length_append]; omega)) (by first | decide | omega | (simp only [List.length_map, List.length_range, List.length_cons, List.length_nil, List.length_append]; omega)) ?_)) <;> (try (conv => whnf))
    refine okR_then (cell_at_v1_ok (by omega) s _) fun d ⟨c, hd, c0, c1⟩ => ?_
    subst hd
    (repeat' ((try (conv => whnf)) <;> first | with_reducible refine stepE ?_ | with_reducible refine stepEs ?_ | refine okO_of (o := getSh _ _) rfl ?_ | with_reducible refine o_addi ?_)) <;> (try (conv => whnf))
    exact name_by_v2_ok (by omega) _ _ _
  have w3 : ws.length = 3 := hr
  have hw := all ws w3 hp
  (repeat' ((try (conv => whnf)) <;> first | with_reducible refine stepE ?_ | with_reducible refine stepEs ?_ | with_reducible refine stepB ?_ | with_reducible refine stepS ?_ | refine okO_of (o := getSh _ _) rfl ?_ | with_reducible refine okT_dec (fun hT => ?_) (fun hT => ?_) | with_reducible refine o_mod (by first | decide | omega | (simp only [List.length_map, List.length_range, List.length_cons, List.length_nil, List.length_append]; omega)) ?_ | with_reducible refine o_eqi ?_ | refine okO_of (o := getOwn _ _) rfl ?_ | refine okO_of (o := listOf _) rfl ?_)) <;> (try (conv => whnf))
  · refine o_ixlm (dec := fun t : List Nat => D.str t) (by omega) (by omega) fun t0 h0 => ?_
    have h0 := hn t0 (List.mem_of_getElem? h0)
    (repeat' ((try (conv => whnf)) <;> (with_reducible refine stepE ?_))) <;> (try (conv => whnf))
    refine o_setIm (f := fun t : List Nat => D.str t) (by omega) (by omega) ?_
    (repeat' ((try (conv => whnf)) <;> first | with_reducible refine stepE ?_ | with_reducible refine stepEs ?_ | with_reducible refine stepB ?_ | with_reducible refine stepS ?_ | refine okO_of (o := getSh _ _) rfl ?_ | refine okO_of (o := getOwn _ _) rfl ?_)) <;> (try (conv => whnf))
    refine ⟨ns, ws.set 0 t0, rfl, n3, by simpa using w3, hn, fun t ht => ?_⟩
    rcases List.mem_or_eq_of_mem_set ht with h | h
    · exact hw t h
    · subst h; exact h0
  · exact ⟨ns, ws, rfl, n3, w3, hn, hw⟩
end
end Ev

/-! Lines of a proof: their boxes, what is told of them. -/
namespace Ev
structure Ln where
  lv : Nat
  rule : List Nat
  st : Option Stm
  refs : List D
def eStm : Option Stm → D
  | some A => A.enc
  | none => .non
def Ln.enc (l : Ln) : D := .tup [.int (l.lv : Int), .str l.rule, eStm l.st, .tup l.refs]
abbrev rls (ls : List Ln) : List (List Nat) := ls.map Ln.rule
abbrev lvs (ls : List Ln) : List Nat := ls.map Ln.lv
structure LinesOk (ls : List Ln) : Prop where
  len : ls.length ≤ 80
  lev : LevOk (rls ls) (lvs ls)
abbrev path (ls : List Ln) (k : Nat) : List Nat := pth (rls ls) (lvs ls) k
abbrev paths (ls : List Ln) : List (List Nat) := pths (rls ls) (lvs ls)
/-- a ref: a number or a text -/
def RefOk (d : D) : Prop := (∃ i : Int, d = .int i) ∨ ∃ t, d = .str t
def seenB (ls : List Ln) (k i : Nat) : Bool := (path ls (k + 1)).take (path ls (i + 1)).length == path ls (i + 1)
def toldS (ls : List Ln) (k : Nat) : D → Option Stm
  | .int i => if 0 ≤ i ∧ i < k ∧ seenB ls k i.toNat = true then (ls[i.toNat]?).bind Ln.st else none
  | _ => none
theorem line_at {ls : List Ln} {k : Nat} (h : k < ls.length) : (rls ls).getD k [] = ls[k].rule ∧ (lvs ls).getD k 0 = ls[k].lv := by
  simp [h]
/-- the level of the last line -/
def lastLv (ls : List Ln) : Nat := if ls.length = 0 then 0 else (lvs ls).getD (ls.length - 1) 0
theorem lastLv_snoc (ls : List Ln) (l : Ln) : lastLv (ls ++ [l]) = l.lv := by simp [lastLv]
theorem levOk_snoc {ls : List Ln} {l : Ln} (h : LevOk (rls ls) (lvs ls)) (h1 : lst (opR l.rule) ≤ l.lv) (h2 : l.lv ≤ 60) (h3 : l.lv ≤ lastLv ls + lst (opR l.rule)) : LevOk (rls (ls ++ [l])) (lvs (ls ++ [l])) := by
  have er : rls (ls ++ [l]) = rls ls ++ [l.rule] := by simp [rls]
  have el : lvs (ls ++ [l]) = lvs ls ++ [l.lv] := by simp [lvs]
  rw [er, el]
  intro j x hx
  by_cases hj : j < ls.length
  · rw [List.getElem?_append_left (by simpa using hj)] at hx
    obtain ⟨a, b, c⟩ := h j x hx
    rw [getD_app_lt (by simpa using hj)]
    refine ⟨a, b, ?_⟩
    split
    · rename_i q; rw [if_pos q] at c; exact c
    · rename_i q
      rw [if_neg q] at c
      rw [getD_app_lt (by simp; omega)]
      exact c
  · have hl := (List.getElem?_eq_some_iff.mp hx).1
    simp at hl
    obtain rfl : j = ls.length := by omega
    simp at hx
    subst hx
    have e1 : (rls ls ++ [l.rule]).getD ls.length [] = l.rule := by simp
    rw [e1]
    refine ⟨h1, h2, ?_⟩
    unfold lastLv at h3
    split
    · rename_i q; rw [if_pos q] at h3; exact h3
    · rename_i q
      rw [if_neg q] at h3
      rw [getD_app_lt (by simp; omega)]
      exact h3
section
variable {T : Nat → Option FD} {gl : Nat → Option D}
theorem opens_ok [Fn T 140 c_opens] {n : Nat} (hn : 1 ≤ n) (r : List Nat) : callF T gl n 140 [.str r] = .ok (.bl (opR r)) := by
  refine eq_of_okR (okR_call (k := 0) hn rfl fun n hn => ?_)
  (repeat' ((try (conv => whnf)) <;> first | with_reducible refine stepE ?_ | with_reducible refine stepB ?_ | with_reducible refine stepS ?_ | refine okO_of (o := getSh _ _) rfl ?_ | with_reducible refine okK_bl ?_ | with_reducible refine okT_bl (fun hT => ?_) (fun hT => ?_) | with_reducible refine o_eqs ?_)) <;> (try (conv => whnf))
  · simp only [opR]
    simp_all
  · simp only [opR]
    simp_all
  · simp only [opR]
    rename_i h1
    have h1 : (r == [103, 117, 101, 115, 115]) = false := by simpa using h1
    have h2 : (r == [110, 101, 119]) = false := by simpa using hT
    rw [h1, h2]
    rfl
theorem boxes_ok [Fn T 140 c_opens] [Fn T 144 c_boxes] {n : Nat} (hn : 2 ≤ n) (ls : List Ln) (ok : LinesOk ls) : callF T gl n 144 [.tup (ls.map Ln.enc)] = .ok (ePaths (paths ls)) := by
  refine eq_of_okR (okR_call (k := 1) hn rfl fun n hn => ?_)
  have lv := line_val
  have l80 := ok.len
  (repeat' ((try (conv => whnf)) <;> first | with_reducible refine stepE ?_ | with_reducible refine stepEs ?_ | with_reducible refine stepB ?_ | with_reducible refine stepS ?_ | refine okO_of (o := getSh _ _) rfl ?_ | with_reducible refine stepIt ?_ | refine okO_of (o := listOf _) rfl ?_ | refine okO_of (o := itemsOf _) rfl ?_)) <;> (try (conv => whnf))
  refine okFor_at (I := fun k ρ => ∃ (v3 v4 : Option (Fl × D)), ρ = [some (.sh, .tup (ls.map Ln.enc)), some (.own, .lst (((List.range k).map fun k => path ls (k + 1)).map fun p => D.tup (p.map eN))), some (.sh, .tup ((path ls k).map eN)), v3, v4]) ⟨_, _, rfl⟩ (fun k d ρ hd ⟨v3, v4, hρ⟩ => ?_) (fun ρ ⟨v3, v4, hρ⟩ => ?_)
  · subst hρ
    have hk : k < ls.length := by
      have := (List.getElem?_eq_some_iff.mp hd).1
      simpa using this
    obtain rfl : d = ls[k].enc := by
      rw [List.getElem?_map, List.getElem?_eq_getElem hk] at hd
      cases hd
      rfl
    obtain ⟨er, el⟩ := line_at hk
    have pl := pth_len ok.lev k (by simp; omega)
    have hgl : (lvs ls)[k]? = some ((lvs ls).getD k 0) := by simp [hk]
    obtain ⟨q1, q2, q3⟩ := ok.lev k _ hgl
    rw [← pl, er, el] at q3
    rw [er, el] at q1
    rw [el] at q2
    have p60 := pth_le ok.lev (k := k) (by simp; omega)
    have e1 : ((List.range k).map fun k => path ls (k + 1)).length = k := by simp
    have hx : ls[k].enc = .tup [.int (ls[k].lv : Int), .str ls[k].rule, eStm ls[k].st, .tup ls[k].refs] := rfl
    have e80 : ((List.range k).map fun k => path ls (k + 1)).length < line := by rw [e1]; omega
    rw [hx]
    change ls[k].lv ≤ (path ls k).length + _ at q3
    change (path ls k).length ≤ 60 at p60
    generalize ls[k].lv = lk at *
    generalize ls[k].rule = rk at *
    have ho := opens_ok (T := T) (gl := gl) (n := n) (by omega) rk
    generalize hop : opR rk = op at *
    cases op
    · simp only [lst, Bool.false_eq_true, if_false] at q1 q3
      have ep : path ls (k + 1) = (path ls k).take lk := by
        show (if opR ((rls ls).getD k []) then _ else (pth (rls ls) (lvs ls) k).take ((lvs ls).getD k 0)) = _
        rw [er, el, hop]
        rfl
      (repeat' ((try (conv => whnf)) <;> first | refine okR_of (ho) ?_ | with_reducible refine stepE ?_ | with_reducible refine stepEs ?_ | with_reducible refine stepB ?_ | with_reducible refine stepS ?_ | refine okO_of (o := getSh _ _) rfl ?_ | with_reducible refine okK_bl ?_ | with_reducible refine okT_ff ?_ | with_reducible refine okT_nff ?_ | with_reducible refine okT_dec (fun hT => ?_) (fun hT => ?_) | with_reducible refine okT_bl (fun hT => ?_) (fun hT => ?_) | refine okO_of (o := opC _ (.int _) (.int _)) rfl ?_ | refine okO_of (o := opIx (.tup (_ :: _)) _) rfl ?_ | refine okO_of (o := opF _ _) rfl ?_ | refine okO_of (o := ixPart _ _) rfl ?_)) <;> (try (conv => whnf))
      · exfalso
        simp at hT
        omega
      · refine o_slt fun t ht _ => ?_
        rw [cut_map, cut_take] at ht
        subst ht
        (repeat' ((try (conv => whnf)) <;> first | refine okR_of (ho) ?_ | with_reducible refine stepE ?_ | with_reducible refine stepEs ?_ | with_reducible refine stepB ?_ | with_reducible refine stepS ?_ | refine okO_of (o := getSh _ _) rfl ?_ | with_reducible refine okT_ff ?_ | refine okO_of (o := opIx (.tup (_ :: _)) _) rfl ?_ | refine okO_of (o := getOwn _ _) rfl ?_)) <;> (try (conv => whnf))
        refine o_app (by rw [List.length_map]; exact e80) ?_
        (repeat' ((try (conv => whnf)) <;> (with_reducible refine stepB ?_))) <;> (try (conv => whnf))
        refine ⟨some (.sh, .tup [.int (lk : Int), .str rk, eStm ls[k].st, .tup ls[k].refs]), some (.sh, .int (lk : Int)), ?_⟩
        rw [List.range_succ, List.map_append, List.map_append, ep]
        simp [setOwn, setV, ep, eN]
      · omega
    · simp only [lst, if_true] at q1 q3
      have e : ((lk : Nat) : Int) - 1 = ((lk - 1 : Nat) : Int) := by omega
      have ep : path ls (k + 1) = (path ls k).take (lk - 1) ++ [k] := by
        show (if opR ((rls ls).getD k []) then (pth (rls ls) (lvs ls) k).take ((lvs ls).getD k 0 - 1) ++ [k] else _) = _
        rw [er, el, hop]
        rfl
      (repeat' ((try (conv => whnf)) <;> first | refine okR_of (ho) ?_ | with_reducible refine stepE ?_ | with_reducible refine stepEs ?_ | with_reducible refine stepB ?_ | with_reducible refine stepS ?_ | refine okO_of (o := getSh _ _) rfl ?_ | with_reducible refine okK_bl ?_ | with_reducible refine okT_tt ?_ | with_reducible refine okT_nff ?_ | with_reducible refine okT_dec (fun hT => ?_) (fun hT => ?_) | with_reducible refine okT_bl (fun hT => ?_) (fun hT => ?_) | with_reducible refine o_subi ?_ | refine okO_of (o := opC _ (.int _) (.int _)) rfl ?_ | refine okO_of (o := opIx (.tup (_ :: _)) _) rfl ?_ | refine okO_of (o := opF _ _) rfl ?_ | refine okO_of (o := ixPart _ _) rfl ?_)) <;> (try (conv => whnf))
      · exfalso
        simp at hT
        omega
      · refine o_slt fun t ht _ => ?_
        rw [e, cut_map, cut_take] at ht
        subst ht
        (repeat' ((try (conv => whnf)) <;> first | refine okR_of (ho) ?_ | with_reducible refine stepE ?_ | with_reducible refine stepEs ?_ | with_reducible refine stepB ?_ | with_reducible refine stepS ?_ | refine okO_of (o := getSh _ _) rfl ?_ | with_reducible refine okT_tt ?_ | refine okO_of (o := opIx (.tup (_ :: _)) _) rfl ?_ | refine okO_of (o := opF _ _) rfl ?_ | refine okO_of (o := getAny _ _) rfl ?_)) <;> (try (conv => whnf))
        rw [List.length_map, e1]
        refine o_addt (by simp; omega) ?_
        (repeat' ((try (conv => whnf)) <;> first | with_reducible refine stepE ?_ | with_reducible refine stepB ?_ | with_reducible refine stepS ?_ | refine okO_of (o := getSh _ _) rfl ?_ | refine okO_of (o := getOwn _ _) rfl ?_)) <;> (try (conv => whnf))
        refine o_app (by rw [List.length_map]; exact e80) ?_
        (repeat' ((try (conv => whnf)) <;> (with_reducible refine stepB ?_))) <;> (try (conv => whnf))
        refine ⟨some (.sh, .tup [.int (lk : Int), .str rk, eStm ls[k].st, .tup ls[k].refs]), some (.sh, .int ((lk : Int) - 1)), ?_⟩
        rw [List.range_succ, List.map_append, List.map_append, ep]
        simp [setOwn, setV, ep, eN]
      · omega
  · subst hρ
    (repeat' ((try (conv => whnf)) <;> first | with_reducible refine stepE ?_ | with_reducible refine stepEs ?_ | with_reducible refine stepB ?_ | with_reducible refine stepS ?_ | refine okO_of (o := opF _ _) rfl ?_ | refine okO_of (o := getAny _ _) rfl ?_)) <;> (try (conv => whnf))
    simp [ePaths, paths, pths]
theorem begins_ok [Fn T 154 c_begins] {n : Nat} (hn : 1 ≤ n) (p q : List Nat) : callF T gl n 154 [.tup (p.map eN), .tup (q.map eN)] = .ok (.bl (p.take q.length == q)) := by
  refine eq_of_okR (okR_call (k := 0) hn rfl fun n hn => ?_)
  (repeat' ((try (conv => whnf)) <;> first | with_reducible refine stepE ?_ | with_reducible refine stepEs ?_ | with_reducible refine stepB ?_ | with_reducible refine stepS ?_ | refine okO_of (o := getSh _ _) rfl ?_ | refine okO_of (o := opF _ _) rfl ?_ | refine okO_of (o := ixPart _ _) rfl ?_)) <;> (try (conv => whnf))
  refine o_slt fun t ht hl => ?_
  rw [List.length_map, cut_map, cut_take] at ht
  subst ht
  (repeat' ((try (conv => whnf)) <;> first | with_reducible refine stepE ?_ | refine okO_of (o := getSh _ _) rfl ?_)) <;> (try (conv => whnf))
  refine o_eqtN ?_
  (try (conv => whnf)) <;> (try (conv => whnf))
theorem o_lnl {ls : List Ln} {k : Nat} (hk : k < ls.length) {P : D → Prop} (p : P ls[k].enc) : okO (opIx (.lst (ls.map Ln.enc)) (.int (k : Int))) P := o_ixl (by simp [hk]) p
theorem o_ln1 {l : Ln} {P : D → Prop} (p : P (.str l.rule)) : okO (opIx l.enc (.int 1)) P := okO_of rfl p
theorem o_ln2 {l : Ln} {P : D → Prop} (p : P (eStm l.st)) : okO (opIx l.enc (.int 2)) P := okO_of rfl p
theorem o_ln3 {l : Ln} {P : D → Prop} (p : P (.tup l.refs)) : okO (opIx l.enc (.int 3)) P := okO_of rfl p
theorem paths_get {ls : List Ln} {k : Nat} (h : k < ls.length) : (paths ls)[k]? = some (path ls (k + 1)) := pths_get (by simpa using h)
theorem law_paths_ok [Fn T 238 c_law_paths] {n : Nat} (hn : 1 ≤ n) (ls : List Ln) (ok : LinesOk ls) : callF T gl n 238 [.lst (ls.map Ln.enc)] = .ok (.lst ((paths ls).map fun p => .tup (p.map eN))) := by
  refine eq_of_okR (okR_call (k := 0) hn rfl fun n hn => ?_)
  have lv := line_val
  have l80 := ok.len
  (repeat' ((try (conv => whnf)) <;> first | with_reducible refine stepE ?_ | with_reducible refine stepEs ?_ | with_reducible refine stepB ?_ | with_reducible refine stepS ?_ | refine okO_of (o := getSh _ _) rfl ?_ | refine okO_of (o := opF _ _) rfl ?_ | with_reducible refine stepIt ?_ | refine okO_of (o := listOf _) rfl ?_)) <;> (try (conv => whnf))
  refine o_rng1 (by simp only [List.length_map]; omega) (by simp only [List.length_map]; omega) ?_
  refine okFor_rng0 (I := fun k ρ => ∃ (v3 : Option (Fl × D)), ρ = [some (.sh, .lst (ls.map Ln.enc)), some (.own, .lst (((List.range k).map fun k => path ls (k + 1)).map fun p => D.tup (p.map eN))), some (.sh, .tup ((path ls k).map eN)), v3]) ⟨_, rfl⟩ (fun k hk ρ ⟨v3, hρ⟩ => ?_) (fun ρ ⟨v3, hρ⟩ => ?_)
  · subst hρ
    have hk : k < ls.length := by simpa using hk
    obtain ⟨er, el⟩ := line_at hk
    have pl := pth_len ok.lev k (by simp; omega)
    have hgl : (lvs ls)[k]? = some ((lvs ls).getD k 0) := by simp [hk]
    obtain ⟨q1, q2, q3⟩ := ok.lev k _ hgl
    rw [← pl, er, el] at q3
    rw [er, el] at q1
    rw [el] at q2
    have p60 := pth_le ok.lev (k := k) (by simp; omega)
    have e1 : ((List.range k).map fun k => path ls (k + 1)).length = k := by simp
    have e80 : ((List.range k).map fun k => path ls (k + 1)).length < line := by rw [e1]; omega
    change ls[k].lv ≤ (path ls k).length + _ at q3
    change (path ls k).length ≤ 60 at p60
    (repeat' ((try (conv => whnf)) <;> first | refine o_lnl hk ?_ | refine o_ln1 ?_ | with_reducible refine stepE ?_ | with_reducible refine stepEs ?_ | with_reducible refine stepB ?_ | with_reducible refine stepS ?_ | refine okO_of (o := getSh _ _) rfl ?_ | with_reducible refine okT_bl (fun hT => ?_) (fun hT => ?_) | with_reducible refine o_subi ?_ | with_reducible refine o_inls ?_ | refine okO_of (o := opIx (.tup (_ :: _)) _) rfl ?_ | refine okO_of (o := ixPart _ _) rfl ?_)) <;> (try (conv => whnf))
    · rw [isIn_op] at hT
      rw [hT] at q1 q3
      simp only [lst, if_true] at q1 q3
      have e : ((ls[k].lv : Nat) : Int) - 1 = ((ls[k].lv - 1 : Nat) : Int) := by omega
      have ep : path ls (k + 1) = (path ls k).take (ls[k].lv - 1) ++ [k] := by
        show (if opR ((rls ls).getD k []) then (pth (rls ls) (lvs ls) k).take ((lvs ls).getD k 0 - 1) ++ [k] else _) = _
        rw [er, el, hT]
        rfl
      (try (conv => whnf)) <;> (try (conv => whnf))
      refine o_slt fun t ht _ => ?_
      rw [e, cut_map, cut_take] at ht
      subst ht
      (repeat' ((try (conv => whnf)) <;> first | with_reducible refine stepE ?_ | with_reducible refine stepEs ?_ | refine okO_of (o := getSh _ _) rfl ?_)) <;> (try (conv => whnf))
      refine o_addt (by simp; omega) ?_
      (repeat' ((try (conv => whnf)) <;> first | with_reducible refine stepE ?_ | with_reducible refine stepB ?_ | with_reducible refine stepS ?_ | refine okO_of (o := getSh _ _) rfl ?_ | refine okO_of (o := getOwn _ _) rfl ?_)) <;> (try (conv => whnf))
      refine o_app (by rw [List.length_map]; exact e80) ?_
      (repeat' ((try (conv => whnf)) <;> (with_reducible refine stepB ?_))) <;> (try (conv => whnf))
      refine ⟨some (.sh, .int (k : Int)), ?_⟩
      rw [List.range_succ, List.map_append, List.map_append, ep]
      simp [setOwn, setV, ep, eN]
    · rw [isIn_op] at hT
      have ep : path ls (k + 1) = (path ls k).take ls[k].lv := by
        show (if opR ((rls ls).getD k []) then _ else (pth (rls ls) (lvs ls) k).take ((lvs ls).getD k 0)) = _
        rw [er, el, hT]
        rfl
      (try (conv => whnf)) <;> (try (conv => whnf))
      refine o_slt fun t ht _ => ?_
      rw [cut_map, cut_take] at ht
      subst ht
      (repeat' ((try (conv => whnf)) <;> first | with_reducible refine stepE ?_ | with_reducible refine stepB ?_ | with_reducible refine stepS ?_ | refine okO_of (o := getSh _ _) rfl ?_ | refine okO_of (o := getOwn _ _) rfl ?_)) <;> (try (conv => whnf))
      refine o_app (by rw [List.length_map]; exact e80) ?_
      (repeat' ((try (conv => whnf)) <;> (with_reducible refine stepB ?_))) <;> (try (conv => whnf))
      refine ⟨some (.sh, .int (k : Int)), ?_⟩
      rw [List.range_succ, List.map_append, List.map_append, ep]
      simp [setOwn, setV, ep, eN]
  · subst hρ
    (repeat' ((try (conv => whnf)) <;> first | with_reducible refine stepB ?_ | with_reducible refine stepS ?_ | refine okO_of (o := getOwn _ _) rfl ?_)) <;> (try (conv => whnf))
    simp [paths, pths]
end
end Ev

/-! Whether a line follows: the parts that all rules share. -/
namespace Ev
/-- so many kinds of lines: closed statements, or none -/
structure LnOk (l : Ln) : Prop where
  st : ∀ A, l.st = some A → Cl A
  refs : l.refs.length ≤ 100 ∧ ∀ r ∈ l.refs, RefOk r
theorem enc_depth : ∀ A : Stm, A.enc.depth ≤ A.dp + 2
  | .is w ts => by
    have : D.depthL (ts.map .str) ≤ 1 := by
      induction ts with
      | nil => simp [D.depthL]
      | cons t ts ih => simp only [List.map_cons, D.depthL, D.depth]; omega
    simp only [Stm.enc, D.depth, D.depthL, Stm.dp]
    omega
  | .fls => by simp [Stm.enc, D.depth, D.depthL, Stm.dp]
  | .not a => by
    have := enc_depth a
    simp only [Stm.enc, D.depth, D.depthL, Stm.dp]
    omega
  | .bin o a b => by
    have := enc_depth a
    have := enc_depth b
    simp only [Stm.enc, D.depth, D.depthL, Stm.dp]
    omega
  | .qu q x a => by
    have := enc_depth a
    simp only [Stm.enc, D.depth, D.depthL, Stm.dp]
    omega
theorem Cl.depth {A : Stm} (h : Cl A) : A.enc.depth ≤ 12 := by
  have := enc_depth A
  have := h.dp
  omega
theorem ref_depth {r : D} (h : RefOk r) : r.depth = 1 := by
  rcases h with ⟨i, rfl⟩ | ⟨t, rfl⟩ <;> simp [D.depth]
theorem refs_depth : ∀ {l : List D}, (∀ r ∈ l, RefOk r) → D.depthL l ≤ 1
  | [], _ => by simp [D.depthL]
  | r :: l, h => by
    have := refs_depth (l := l) fun x hx => h x (List.mem_cons_of_mem _ hx)
    have := ref_depth (h r (List.mem_cons_self ..))
    simp only [D.depthL]
    omega
theorem LnOk.depth {l : Ln} (h : LnOk l) : l.enc.depth ≤ 13 := by
  have h1 := refs_depth h.refs.2
  have h2 : (eStm l.st).depth ≤ 12 := by
    cases hs : l.st with
    | none => simp [eStm, D.depth]
    | some A => exact (h.st A hs).depth
  simp only [Ln.enc, D.depth, D.depthL]
  omega
def givenR : List Nat := [103, 105, 118, 101, 110]
def guessR : List Nat := [103, 117, 101, 115, 115]
def newR : List Nat := [110, 101, 119]
def caseR : List Nat := [99, 97, 115, 101]
/-- a given or a guess -/
def openS (ls : List Ln) (k : Nat) (l : Ln) : Bool := l.refs.isEmpty && (l.rule == guessR || (decide (l.lv = 0) && (ls.take k).all fun a => a.rule == givenR))
theorem dBools_map : ∀ l : List Bool, dBools (l.map .bl) = some l := fun l => by
  induction l with
  | nil => rfl
  | cons a l ih => simp only [List.map_cons, dBools, ih, Option.map_some]
theorem o_all {l : List Bool} {P : D → Prop} (p : P (.bl (l.all id))) : okO (opF .all [.lst (l.map .bl)]) P := okO_of (by show (dBools _).map _ = _; rw [dBools_map]; rfl) p
theorem o_any {l : List Bool} {P : D → Prop} (p : P (.bl (l.any id))) : okO (opF .any [.lst (l.map .bl)]) P := okO_of (by show (dBools _).map _ = _; rw [dBools_map]; rfl) p
section
variable {T : Nat → Option FD} {gl : Nat → Option D}
end
end Ev

/-! Lines that follow by one or two statements. -/
namespace Ev
def Stm.hd : Stm → List Nat
  | .is _ _ => [105, 115]
  | .fls => [102, 97, 108, 115, 101]
  | .not _ => [110, 111, 116]
  | .bin o _ _ => o.s
  | .qu q _ _ => quS q
theorem o_hd {A : Stm} {P : D → Prop} (p : P (.str A.hd)) : okO (opIx A.enc (.int 0)) P := okO_of (by cases A <;> rfl) p
theorem o_ln1r {l : Ln} {r : List Nat} (h : l.rule = r) {P : D → Prop} (p : P (.str r)) : okO (opIx l.enc (.int 1)) P := o_ln1 (by rw [h]; exact p)
theorem o_ln2r {l : Ln} {A : Stm} (h : l.st = some A) {P : D → Prop} (p : P A.enc) : okO (opIx l.enc (.int 2)) P := o_ln2 (by rw [h]; exact p)
theorem o_ln3r {l : Ln} {r : List D} (h : l.refs = r) {P : D → Prop} (p : P (.tup r)) : okO (opIx l.enc (.int 3)) P := o_ln3 (by rw [h]; exact p)
abbrev sAgain : List Nat := [97, 103, 97, 105, 110]
abbrev sLeft : List Nat := [108, 101, 102, 116]
abbrev sRight : List Nat := [114, 105, 103, 104, 116]
abbrev sEither : List Nat := [101, 105, 116, 104, 101, 114]
abbrev sAny : List Nat := [97, 110, 121]
abbrev sBoth : List Nat := [98, 111, 116, 104]
abbrev sUse : List Nat := [117, 115, 101]
abbrev sClash : List Nat := [99, 108, 97, 115, 104]
abbrev sThen : List Nat := [116, 104, 101, 110]
abbrev sDeny : List Nat := [100, 101, 110, 121]
abbrev sAbsurd : List Nat := [97, 98, 115, 117, 114, 100]
abbrev sEvery : List Nat := [101, 118, 101, 114, 121]
abbrev sEach : List Nat := [101, 97, 99, 104]
abbrev sSome : List Nat := [115, 111, 109, 101]
abbrev sOne : List Nat := [111, 110, 101]
abbrev sCases : List Nat := [99, 97, 115, 101, 115]
abbrev sAnd : List Nat := [97, 110, 100]
abbrev sOr : List Nat := [111, 114]
abbrev sFalse : List Nat := [102, 97, 108, 115, 101]
abbrev ones : List D := [.str sAgain, .str sLeft, .str sRight, .str sEither, .str sAny]
abbrev twos : List D := [.str sBoth, .str sUse, .str sClash]
abbrev byBoxes : List D := [.str sThen, .str sDeny, .str sAbsurd, .str sCases, .str sEvery, .str sOne]
abbrev byOpen : List D := [.str [103, 105, 118, 101, 110], .str [103, 117, 101, 115, 115], .str [110, 101, 119], .str [99, 97, 115, 101]]
def refsOf (r : List Nat) : Int := if isIn (.str r) [.str sAgain, .str sLeft, .str sRight, .str sEither, .str sAny, .str sThen, .str sDeny, .str sAbsurd, .str sEvery] then 1 else if isIn (.str r) [.str sBoth, .str sUse, .str sClash, .str sEach, .str sSome, .str sOne] then 2 else if r == sCases then 3 else 0
/-- S from A, by these -/
def one32 (r : List Nat) (S A : Stm) : Bool :=
  if r == sAgain then D.eqv S.enc A.enc
  else if r == sLeft then (match A with
    | .bin .and a _ => D.eqv S.enc a.enc
    | _ => false)
  else if r == sRight then (match A with
    | .bin .and _ b => D.eqv S.enc b.enc
    | _ => false)
  else if r == sEither then (match S with
    | .bin .or a b => D.eqv A.enc a.enc || D.eqv A.enc b.enc
    | _ => false)
  else (match A with
    | .fls => true
    | _ => false)
def two32 (r : List Nat) (S A B : Stm) : Bool :=
  if r == sBoth then D.eqv S.enc (.tup [.str sAnd, A.enc, B.enc])
  else if r == sUse then D.eqv A.enc (.tup [.str sThen, B.enc, S.enc])
  else D.eqv S.enc (.tup [.str sFalse]) && D.eqv B.enc (.tup [.str [110, 111, 116], A.enc])
def oneO (r : List Nat) (S : Stm) : Option Stm → Bool
  | some A => one32 r S A
  | none => false
def twoO (r : List Nat) (S : Stm) : Option Stm → Option Stm → Bool
  | some A, some B => two32 r S A B
  | _, _ => false
theorem isNon_enc (A : Stm) : isNon A.enc = false := by cases A <;> rfl
theorem eqv_non (A : Stm) : D.eqv A.enc .non = false := by cases A <;> simp [Stm.enc, D.eqv]
theorem enc_0 {A : Stm} {P : D → Prop} {i : Int} {d : D} (e : opIx A.enc (.int i) = some d) (p : P d) : okO (opIx A.enc (.int i)) P := okO_of e p
section
variable {T : Nat → Option FD} {gl : Nat → Option D}
theorem refs_of_ok [Fn T 227 c_refs_of] {n : Nat} (hn : 1 ≤ n) (r : List Nat) : callF T gl n 227 [.str r] = .ok (.int (refsOf r)) := by
  refine eq_of_okR (okR_call (k := 0) hn rfl fun n hn => ?_)
  (repeat' ((try (conv => whnf)) <;> first | with_reducible refine stepE ?_ | with_reducible refine stepEs ?_ | with_reducible refine stepB ?_ | with_reducible refine stepS ?_ | refine okO_of (o := getSh _ _) rfl ?_ | with_reducible refine okT_bl (fun hT => ?_) (fun hT => ?_) | with_reducible refine o_eqs ?_ | with_reducible refine o_ints ?_)) <;> (try (conv => whnf))
  all_goals simp_all [refsOf]
theorem is_form_ok [Fn T 212 c_is_form] {n : Nat} (hn : 1 ≤ n) (A : Option Stm) (s : List Nat) : callF T gl n 212 [eStm A, .str s] = .ok (.bl (match A with
    | some A => A.hd == s
    | none => false)) := by
  refine eq_of_okR (okR_call (k := 0) hn rfl fun n hn => ?_)
  cases A with
  | none =>
    show okB _ _ _ (c_is_form.start [.non, .str s]) _
    (repeat' ((try (conv => whnf)) <;> first | with_reducible refine stepE ?_ | with_reducible refine stepB ?_ | with_reducible refine stepS ?_ | refine okO_of (o := getSh _ _) rfl ?_ | with_reducible refine okT_cf (by decide) ?_)) <;> (try (conv => whnf))
  | some A =>
    show okB _ _ _ (c_is_form.start [A.enc, .str s]) _
    have hN : (!isNon A.enc) = true := by rw [isNon_enc]; rfl
    (repeat' ((try (conv => whnf)) <;> first | refine okT_ct hN ?_ | refine o_hd ?_ | with_reducible refine stepE ?_ | with_reducible refine stepB ?_ | with_reducible refine stepS ?_ | refine okO_of (o := getSh _ _) rfl ?_ | with_reducible refine okK_bl ?_ | with_reducible refine o_eqs ?_)) <;> (try (conv => whnf))
theorem two_of {r : List Nat} (hr : isIn (.str r) twos = true) : r = sBoth ∨ r = sUse ∨ r = sClash := by
  rw [show twos = [sBoth, sUse, sClash].map .str from rfl, isIn_strs] at hr
  simpa using hr
theorem one_of {r : List Nat} (hr : isIn (.str r) ones = true) : r = sAgain ∨ r = sLeft ∨ r = sRight ∨ r = sEither ∨ r = sAny := by
  rw [show ones = [sAgain, sLeft, sRight, sEither, sAny].map .str from rfl, isIn_strs] at hr
  simpa using hr
theorem two_items {α : Type} {l : List α} (h : l.length = 2) : ∃ x y, l = [x, y] := by
  match l, h with
  | [x, y], _ => exact ⟨x, y, rfl⟩
/-- what a line has by these refs -/
def by32 (ls : List Ln) (k : Nat) (r : List Nat) (S : Stm) (refs : List D) : Bool :=
  if isIn (.str r) ones then (match refs with
    | [x] => oneO r S (toldS ls k x)
    | _ => false)
  else (match refs with
    | [x, y] => twoO r S (toldS ls k x) (toldS ls k y)
    | _ => false)
end
end Ev

/-! A name put for a letter. -/
namespace Ev
def Stm.put (x m : List Nat) : Stm → Stm
  | .is w ts => .is w (ts.map fun t => if t = x then m else t)
  | .fls => .fls
  | .not a => .not (a.put x m)
  | .bin o a b => .bin o (a.put x m) (b.put x m)
  | .qu q y a => if y = x then .qu q y a else .qu q y (a.put x m)
theorem put_dp (x m : List Nat) : ∀ A : Stm, (A.put x m).dp = A.dp
  | .is w ts => rfl
  | .fls => rfl
  | .not a => by simp only [Stm.put, Stm.dp, put_dp x m a]
  | .bin o a b => by simp only [Stm.put, Stm.dp, put_dp x m a, put_dp x m b]
  | .qu q y a => by
    simp only [Stm.put]
    split
    · rfl
    · simp only [Stm.dp, put_dp x m a]
section
variable {T : Nat → Option FD} {gl : Nat → Option D}
theorem put_ok [Fn T 15 c_parts_of] [Fn T 35 c_put] (x m : List Nat) : ∀ (A : Stm) {n : Nat}, A.dp + 1 ≤ n → callF T gl n 35 [A.enc, .str x, .str m] = .ok (A.put x m).enc
  | .is w ts, n, hn => by
    refine eq_of_okR (okR_call (k := 1) hn rfl fun n hn => ?_)
    unfold Stm.enc
    (repeat' ((try (conv => whnf)) <;> first | with_reducible refine stepE ?_ | with_reducible refine stepEs ?_ | with_reducible refine stepB ?_ | with_reducible refine stepS ?_ | refine okO_of (o := getSh _ _) rfl ?_ | with_reducible refine okT_ct (by decide) ?_ | with_reducible refine o_eqs ?_ | refine okO_of (o := opIx (.tup (_ :: _)) _) rfl ?_ | with_reducible refine stepIt ?_ | refine okO_of (o := itemsOf _) rfl ?_)) <;> (try (conv => whnf))
    refine okComp_map D.str (fun t => D.str (if t = x then m else t)) (fun t _ => ?_) ?_
    · (repeat' ((try (conv => whnf)) <;> first | with_reducible refine stepE ?_ | refine okO_of (o := getSh _ _) rfl ?_ | with_reducible refine okT_bl (fun hT => ?_) (fun hT => ?_) | with_reducible refine o_eqs ?_)) <;> (try (conv => whnf))
      · have : t = x := by simpa using hT
        rw [if_pos this]
      · have : ¬ t = x := by simpa using hT
        rw [if_neg this]
    · (repeat' ((try (conv => whnf)) <;> first | with_reducible refine stepEs ?_ | refine okO_of (o := opF _ _) rfl ?_)) <;> (try (conv => whnf))
      simp [Stm.put, Stm.enc, Function.comp_def]
  | .fls, n, hn => by
    refine eq_of_okR (okR_call (k := 1) hn rfl fun n hn => ?_)
    have pp := fun h => parts_of_ok (T := T) (gl := gl) (n := n) h .fls
    unfold Stm.enc at pp ⊢
    (repeat' ((try (conv => whnf)) <;> first | refine okR_of (pp (by omega)) ?_ | with_reducible refine stepE ?_ | with_reducible refine stepEs ?_ | with_reducible refine stepB ?_ | with_reducible refine stepS ?_ | refine okO_of (o := getSh _ _) rfl ?_ | with_reducible refine okK_bl ?_ | with_reducible refine okT_cf (by decide) ?_ | with_reducible refine o_eqs ?_ | refine okO_of (o := opIx (.tup (_ :: _)) _) rfl ?_ | with_reducible refine stepIt ?_ | refine okO_of (o := itemsOf _) rfl ?_)) <;> (try (conv => whnf))
    simp only [Stm.parts, List.map_nil]
    (repeat' ((try (conv => whnf)) <;> first | with_reducible refine stepEs ?_ | refine okO_of (o := opF _ _) rfl ?_ | with_reducible refine okComp_nil ?_)) <;> (try (conv => whnf))
    refine o_addt (by rw [line_val]; simp) ?_
    (try (conv => whnf)) <;> (try (conv => whnf))
    rfl
  | .not a, n, hn => by
    refine eq_of_okR (okR_call (k := a.dp + 1) hn rfl fun n hn => ?_)
    have pp := fun h => parts_of_ok (T := T) (gl := gl) (n := n) h (.not a)
    have ih := fun h => put_ok x m a (n := n) h
    unfold Stm.enc at pp ⊢
    (repeat' ((try (conv => whnf)) <;> first | refine okR_of (pp (by omega)) ?_ | with_reducible refine stepE ?_ | with_reducible refine stepEs ?_ | with_reducible refine stepB ?_ | with_reducible refine stepS ?_ | refine okO_of (o := getSh _ _) rfl ?_ | with_reducible refine okK_bl ?_ | with_reducible refine okT_cf (by decide) ?_ | with_reducible refine o_eqs ?_ | refine okO_of (o := opIx (.tup (_ :: _)) _) rfl ?_ | with_reducible refine stepIt ?_ | refine okO_of (o := itemsOf _) rfl ?_)) <;> (try (conv => whnf))
    simp only [Stm.parts, List.map_cons, List.map_nil]
    (repeat' ((try (conv => whnf)) <;> first | refine okR_of (ih (by omega)) ?_ | with_reducible refine stepE ?_ | with_reducible refine stepEs ?_ | refine okO_of (o := getSh _ _) rfl ?_ | with_reducible refine okT_tt ?_ | refine okO_of (o := opF _ _) rfl ?_ | with_reducible refine okComp_cons ?_ | with_reducible refine okComp_nil ?_)) <;> (try (conv => whnf))
    refine o_addt (by rw [line_val]; simp) ?_
    (try (conv => whnf)) <;> (try (conv => whnf))
    rfl
  | .bin o a b, n, hn => by
    refine eq_of_okR (okR_call (k := max a.dp b.dp + 1) hn rfl fun n hn => ?_)
    have pp := fun h => parts_of_ok (T := T) (gl := gl) (n := n) h (.bin o a b)
    have ih1 := fun h => put_ok x m a (n := n) h
    have ih2 := fun h => put_ok x m b (n := n) h
    unfold Stm.enc at pp ⊢
    cases o
    all_goals
      (repeat' ((try (conv => whnf)) <;> first | refine okR_of (pp (by omega)) ?_ | with_reducible refine stepE ?_ | with_reducible refine stepEs ?_ | with_reducible refine stepB ?_ | with_reducible refine stepS ?_ | refine okO_of (o := getSh _ _) rfl ?_ | with_reducible refine okK_bl ?_ | with_reducible refine okT_cf (by decide) ?_ | with_reducible refine o_eqs ?_ | refine okO_of (o := opIx (.tup (_ :: _)) _) rfl ?_ | with_reducible refine stepIt ?_ | refine okO_of (o := itemsOf _) rfl ?_)) <;> (try (conv => whnf))
      simp only [Stm.parts, List.map_cons, List.map_nil]
      (repeat' ((try (conv => whnf)) <;> first | refine okR_of (ih1 (by omega)) ?_ | refine okR_of (ih2 (by omega)) ?_ | with_reducible refine stepE ?_ | with_reducible refine stepEs ?_ | refine okO_of (o := getSh _ _) rfl ?_ | with_reducible refine okT_tt ?_ | refine okO_of (o := opF _ _) rfl ?_ | with_reducible refine okComp_cons ?_ | with_reducible refine okComp_nil ?_)) <;> (try (conv => whnf))
      refine o_addt (by rw [line_val]; simp) ?_
      (try (conv => whnf)) <;> (try (conv => whnf))
      rfl
  | .qu q y a, n, hn => by
    refine eq_of_okR (okR_call (k := a.dp + 1) hn rfl fun n hn => ?_)
    have ih := fun h => put_ok x m a (n := n) h
    unfold Stm.enc
    cases q
    all_goals
      (repeat' ((try (conv => whnf)) <;> first | refine okR_of (ih (by omega)) ?_ | with_reducible refine stepE ?_ | with_reducible refine stepEs ?_ | with_reducible refine stepB ?_ | with_reducible refine stepS ?_ | refine okO_of (o := getSh _ _) rfl ?_ | with_reducible refine okK_bl ?_ | with_reducible refine okT_tt ?_ | with_reducible refine okT_ct (by decide) ?_ | with_reducible refine okT_cf (by decide) ?_ | with_reducible refine okT_bl (fun hT => ?_) (fun hT => ?_) | with_reducible refine o_eqs ?_ | refine okO_of (o := opIx (.tup (_ :: _)) _) rfl ?_)) <;> (try (conv => whnf))
      · have : y = x := by simpa using hT
        simp [Stm.put, this, Stm.enc]
      · have : ¬ y = x := by simpa using hT
        simp [Stm.put, this, Stm.enc]
end
end Ev

/-! Whether a line follows: of any lines. -/
namespace Ev
theorem eqvL_strs : ∀ xs ys : List (List Nat), D.eqvL (xs.map .str) (ys.map .str) = (xs == ys)
  | [], [] => by simp [D.eqvL]
  | [], _ :: _ => by simp [D.eqvL]
  | _ :: _, [] => by simp [D.eqvL]
  | x :: xs, y :: ys => by
    rw [List.map_cons, List.map_cons, eqv_cons, eqv_str, eqvL_strs xs ys]
    rfl
theorem ops_inj (o p : Op) : (o.s == p.s) = decide (o = p) := by cases o <;> cases p <;> rfl
theorem qus_inj (o p : Bool) : (quS o == quS p) = decide (o = p) := by cases o <;> cases p <;> rfl
theorem hd_ne {x y : List Nat} {xs ys : List D} (h : (x == y) = false) : D.eqv (.tup (.str x :: xs)) (.tup (.str y :: ys)) = false := by rw [eqv_tup, eqv_cons, eqv_str, h]; rfl
theorem eqv_stm (A B : Stm) : D.eqv A.enc B.enc = decide (A = B) := by
  induction A generalizing B with
  | is w ts => cases B with
    | is v us =>
      simp only [Stm.enc, eqv_tup, eqv_cons, eqv_str, eqv_nil, eqvL_strs, Bool.and_true, Stm.is.injEq]
      by_cases h1 : w = v <;> by_cases h2 : ts = us <;> simp [h1, h2]
    | bin o a b => cases o <;> (refine (hd_ne (by decide)).trans (by simp))
    | qu q x a => cases q <;> (refine (hd_ne (by decide)).trans (by simp))
    | _ => (refine (hd_ne (by decide)).trans (by simp))
  | fls => cases B with
    | bin o a b => cases o <;> (refine (hd_ne (by decide)).trans (by simp))
    | qu q x a => cases q <;> (refine (hd_ne (by decide)).trans (by simp))
    | fls => simp [eqv_refl]
    | _ => (refine (hd_ne (by decide)).trans (by simp))
  | not a ih => cases B with
    | bin o a b => cases o <;> (refine (hd_ne (by decide)).trans (by simp))
    | qu q x a => cases q <;> (refine (hd_ne (by decide)).trans (by simp))
    | not b => simp only [Stm.enc, eqv_tup, eqv_cons, eqv_str, eqv_nil, Bool.and_true, ih, Stm.not.injEq, beq_self_eq_true, Bool.true_and]
    | _ => (refine (hd_ne (by decide)).trans (by simp))
  | bin o a b ih1 ih2 => cases B with
    | bin p c d => simp only [Stm.enc, eqv_tup, eqv_cons, eqv_str, eqv_nil, Bool.and_true, ih1, ih2, ops_inj, Stm.bin.injEq, Bool.decide_and]
    | qu q x a => cases q <;> cases o <;> (refine (hd_ne (by decide)).trans (by simp))
    | _ => cases o <;> (refine (hd_ne (by decide)).trans (by simp))
  | qu q x a ih => cases B with
    | bin p c d => cases q <;> cases p <;> (refine (hd_ne (by decide)).trans (by simp))
    | qu p y c =>
      simp only [Stm.enc, eqv_tup, eqv_cons, eqv_str, eqv_nil, Bool.and_true, ih, qus_inj, Stm.qu.injEq, Bool.decide_and]
      by_cases h1 : x = y <;> simp [h1]
    | _ => cases q <;> (refine (hd_ne (by decide)).trans (by simp))
theorem eqv_eStm (x : Option Stm) (B : Stm) : D.eqv (eStm x) B.enc = decide (x = some B) := by
  cases x with
  | none => rw [show eStm none = D.non from rfl, eqv_comm, eqv_non]; simp
  | some A => rw [show eStm (some A) = A.enc from rfl, eqv_stm]; simp
/-- a statement as it may come -/
structure StOk (A : Stm) : Prop where
  wf : A.wf
  dp : A.dp ≤ 100
  sz : 3 * A.sz < 4000
structure Lg where
  lv : Int
  rule : List Nat
  st : Option Stm
  refs : List D
def Lg.enc (l : Lg) : D := .tup [.int l.lv, .str l.rule, eStm l.st, .tup l.refs]
def Ln.g (l : Ln) : Lg := ⟨l.lv, l.rule, l.st, l.refs⟩
theorem Ln.g_enc (l : Ln) : l.g.enc = l.enc := rfl
def flatD : D → Bool
  | .non | .bl _ | .int _ | .str _ => true
  | _ => false
structure LgOk (l : Lg) : Prop where
  st : ∀ A, l.st = some A → StOk A
  refs : l.refs.length ≤ 1000 ∧ ∀ r ∈ l.refs, flatD r = true
def begB (p q : List Nat) : Bool := p.take q.length == q
abbrev nth (P : List (List Nat)) (k : Nat) : List Nat := P.getD k []
def toldG (ls : List Lg) (P : List (List Nat)) (k : Nat) : D → Option Stm
  | .int i => if 0 ≤ i ∧ i < k ∧ begB (nth P k) (nth P i.toNat) = true then (ls[i.toNat]?).bind Lg.st else none
  | _ => none
def ruleAt (ls : List Lg) (i : Nat) : List Nat := ((ls[i]?).map Lg.rule).getD []
def stAt (ls : List Lg) (i : Nat) : Option Stm := (ls[i]?).bind Lg.st
def refsAt (ls : List Lg) (i : Nat) : List D := ((ls[i]?).map Lg.refs).getD []
def boxSeenB (P : List (List Nat)) (k b : Nat) : Bool := !(nth P k).contains b && begB (nth P k) (nth P b).dropLast
def boxG (ls : List Lg) (P : List (List Nat)) (k : Nat) : D → Option Nat
  | .int i => if 0 ≤ i ∧ i < k ∧ opR (ruleAt ls i.toNat) = true ∧ boxSeenB P k i.toNat = true then some i.toNat else none
  | _ => none
def endG (P : List (List Nat)) (b : Nat) : Nat := (List.range' b (P.length - b)).foldl (fun f j => if nth P j == nth P b then j else f) b
def closesG (ls : List Lg) (P : List (List Nat)) (k : Nat) (r : D) (A B : Stm) : Bool := match boxG ls P k r with
  | some b => ruleAt ls b == guessR && (decide (stAt ls b = some A) && decide (stAt ls (endG P b) = some B))
  | none => false
def nameRef : List D → Option (List Nat)
  | [.str t] => if nameS t = true then some t else none
  | _ => none
def boxNameG (ls : List Lg) (P : List (List Nat)) (k : Nat) (r : D) (rule : List Nat) : Option (List Nat) := match boxG ls P k r with
  | some b => if ruleAt ls b == rule then nameRef (refsAt ls b) else none
  | none => none
def namedG (t : List Nat) (l : Lg) : Bool := (match l.st with
  | some A => A.nms.contains t
  | none => false) || isIn (.str t) l.refs
def newG (ls : List Lg) (k : Nat) (refs : List D) : Bool := match nameRef refs with
  | some t => !((ls.take k).any (namedG t))
  | none => false
def oneG (r : List Nat) (S : Stm) (A : Option Stm) : Bool :=
  if r == sAgain then decide (A = some S)
  else if r == sLeft then (match A with
    | some (.bin .and a _) => decide (S = a)
    | _ => false)
  else if r == sRight then (match A with
    | some (.bin .and _ b) => decide (S = b)
    | _ => false)
  else if r == sEither then (match S with
    | .bin .or a b => decide (A = some a) || decide (A = some b)
    | _ => false)
  else decide (A = some .fls)
def twoG (r : List Nat) (S : Stm) : Option Stm → Option Stm → Bool
  | some A, some B => if r == sBoth then decide (S = .bin .and A B) else if r == sUse then decide (A = .bin .thn B S) else decide (S = .fls) && decide (B = .not A)
  | _, _ => false
def eachG (S : Stm) : Option Stm → D → Bool
  | some (.qu true x a), .str t => nameS t && decide (S = a.put x t)
  | _, _ => false
def someG (S : Stm) (A : Option Stm) : D → Bool
  | .str t => (match S with
    | .qu false x a => nameS t && decide (A = some (a.put x t))
    | _ => false)
  | _ => false
def casesG (ls : List Lg) (P : List (List Nat)) (k : Nat) (S : Stm) (y z : D) : Option Stm → Bool
  | some (.bin .or a b) => closesG ls P k y a S && closesG ls P k z b S
  | _ => false
def everyG (ls : List Lg) (P : List (List Nat)) (k : Nat) (x : D) : Stm → Option (List Nat) → Bool
  | .qu true y a, some t => !(Stm.qu true y a).nms.contains t && decide (((boxG ls P k x).bind fun b => stAt ls (endG P b)) = some (a.put y t))
  | _, _ => false
def onesG (ls : List Lg) (P : List (List Nat)) (k : Nat) (S : Stm) (y : D) : Option Stm → Option (List Nat) → Bool
  | some (.qu false z a), some t => !S.nms.contains t && (!(Stm.qu false z a).nms.contains t && (decide (((boxG ls P k y).bind fun b => stAt ls b) = some (a.put z t)) && decide (((boxG ls P k y).bind fun b => stAt ls (endG P b)) = some S)))
  | _, _ => false
def thenG (ls : List Lg) (P : List (List Nat)) (k : Nat) (x : D) : Stm → Bool
  | .bin .thn a b => closesG ls P k x a b
  | _ => false
def denyG (ls : List Lg) (P : List (List Nat)) (k : Nat) (x : D) : Stm → Bool
  | .not a => closesG ls P k x a .fls
  | _ => false
def on1 (f : D → Bool) : List D → Bool
  | [x] => f x
  | _ => false
def on2 (f : D → D → Bool) : List D → Bool
  | [x, y] => f x y
  | _ => false
def on3 (f : D → D → D → Bool) : List D → Bool
  | [x, y, z] => f x y z
  | _ => false
def byG (ls : List Lg) (P : List (List Nat)) (k : Nat) (r : List Nat) (S : Stm) (refs : List D) : Bool :=
  if isIn (.str r) ones then on1 (fun x => oneG r S (toldG ls P k x)) refs
  else if isIn (.str r) twos then on2 (fun x y => twoG r S (toldG ls P k x) (toldG ls P k y)) refs
  else if r == sEach then on2 (fun x y => eachG S (toldG ls P k x) y) refs
  else if r == sSome then on2 (fun x y => someG S (toldG ls P k x) y) refs
  else if r == sCases then on3 (fun x y z => casesG ls P k S y z (toldG ls P k x)) refs
  else if r == sEvery then on1 (fun x => everyG ls P k x S (boxNameG ls P k x newR)) refs
  else if r == sOne then on2 (fun x y => onesG ls P k S y (toldG ls P k x) (boxNameG ls P k y caseR)) refs
  else if r == sThen then on1 (fun x => thenG ls P k x S) refs
  else if r == sDeny then on1 (fun x => denyG ls P k x S) refs
  else if r == sAbsurd then on1 (fun x => closesG ls P k x (.not S) .fls) refs
  else false
def openG (ls : List Lg) (k : Nat) (l : Lg) : Bool :=
  if l.rule == newR || l.rule == caseR then newG ls k l.refs
  else l.refs.isEmpty && (l.rule == guessR || (decide (l.lv = 0) && (ls.take k).all fun a => a.rule == givenR))
def isToldG (l : Lg) : Bool := if l.rule == newR then l.st.isNone else (match l.st with
  | some A => A.fre.isEmpty
  | none => false)
def followsG (ls : List Lg) (P : List (List Nat)) (k : Nat) : Bool := match ls[k]? with
  | none => false
  | some l => isToldG l && (if isIn (.str l.rule) byOpen then openG ls k l else (match l.st with
    | some S => byG ls P k l.rule S l.refs
    | none => false))
theorem stdepth {A : Stm} (h : StOk A) : A.enc.depth ≤ eqDeep := by
  have := enc_depth A
  have := h.dp
  unfold eqDeep
  omega
theorem o_eqS {A B : Stm} {PB : Bool → Prop} (h : StOk A) (p : PB (decide (A = B))) : okO (opC .eq A.enc B.enc) PB := o_eq (by have := stdepth h; omega) (by rw [eqv_stm]; exact p)
theorem o_eqD {x : Option Stm} {B : Stm} {PB : Bool → Prop} (h : B.dp ≤ 140) (p : PB (decide (x = some B))) : okO (opC .eq (eStm x) B.enc) PB := o_eq (by have := enc_depth B; unfold eqDeep; omega) (by rw [eqv_eStm]; exact p)
theorem StOk.not_ {A : Stm} (h : StOk (.not A)) : StOk A := ⟨h.wf, by have := h.dp; simp only [Stm.dp] at this; omega, by have := h.sz; simp only [Stm.sz] at this; omega⟩
theorem StOk.l {o : Op} {A B : Stm} (h : StOk (.bin o A B)) : StOk A := ⟨h.wf.1, by have := h.dp; simp only [Stm.dp] at this; omega, by have := h.sz; simp only [Stm.sz] at this; omega⟩
theorem StOk.r {o : Op} {A B : Stm} (h : StOk (.bin o A B)) : StOk B := ⟨h.wf.2, by have := h.dp; simp only [Stm.dp] at this; omega, by have := h.sz; simp only [Stm.sz] at this; omega⟩
theorem StOk.q {o : Bool} {x : List Nat} {A : Stm} (h : StOk (.qu o x A)) : StOk A := ⟨h.wf.2, by have := h.dp; simp only [Stm.dp] at this; omega, by have := h.sz; simp only [Stm.sz] at this; omega⟩
theorem StOk.fls : StOk .fls := ⟨trivial, by simp [Stm.dp], by simp [Stm.sz]⟩
theorem toldG_ok {ls : List Lg} (h : ∀ l ∈ ls, LgOk l) {P : List (List Nat)} {k : Nat} {r : D} {A : Stm} (e : toldG ls P k r = some A) : StOk A := by
  cases r <;> simp only [toldG, reduceCtorEq] at e
  split at e
  · rename_i i _
    cases q : ls[i.toNat]? with
    | none => rw [q] at e; cases e
    | some l =>
      rw [q] at e
      exact (h l (List.mem_of_getElem? q)).st A e
  · cases e
theorem o_gt {ls : List Lg} {k : Nat} (hk : k < ls.length) {P : D → Prop} (p : P ls[k].enc) : okO (opIx (.tup (ls.map Lg.enc)) (.int (k : Int))) P := o_ixt (by simp [hk]) p
theorem o_g0 {l : Lg} {P : D → Prop} (p : P (.int l.lv)) : okO (opIx l.enc (.int 0)) P := okO_of rfl p
theorem o_g1 {l : Lg} {P : D → Prop} (p : P (.str l.rule)) : okO (opIx l.enc (.int 1)) P := okO_of rfl p
theorem o_g2 {l : Lg} {P : D → Prop} (p : P (eStm l.st)) : okO (opIx l.enc (.int 2)) P := okO_of rfl p
theorem o_g3 {l : Lg} {P : D → Prop} (p : P (.tup l.refs)) : okO (opIx l.enc (.int 3)) P := okO_of rfl p
theorem o_g1r {l : Lg} {r : List Nat} (h : l.rule = r) {P : D → Prop} (p : P (.str r)) : okO (opIx l.enc (.int 1)) P := o_g1 (by rw [h]; exact p)
theorem o_g2s {l : Lg} {A : Stm} (h : l.st = some A) {P : D → Prop} (p : P A.enc) : okO (opIx l.enc (.int 2)) P := o_g2 (by rw [h]; exact p)
theorem o_g2n {l : Lg} (h : l.st = none) {P : D → Prop} (p : P .non) : okO (opIx l.enc (.int 2)) P := o_g2 (by rw [h]; exact p)
theorem o_g3r {l : Lg} {r : List D} (h : l.refs = r) {P : D → Prop} (p : P (.tup r)) : okO (opIx l.enc (.int 3)) P := o_g3 (by rw [h]; exact p)
theorem o_pt {ps : List (List Nat)} {k : Nat} (hk : k < ps.length) {P : D → Prop} (p : P (.tup ((nth ps k).map eN))) : okO (opIx (ePaths ps) (.int (k : Int))) P := by
  unfold ePaths
  refine o_ixt (d := .tup ((nth ps k).map eN)) ?_ p
  simp [hk]
section
variable {T : Nat → Option FD} {gl : Nat → Option D}
theorem numG_ok [Fn T 209 c_is_number_v1] {n : Nat} (hn : 1 ≤ n) {r : D} (hr : flatD r = true) : callF T gl n 209 [r] = .ok (.bl (match r with | .int _ => true | _ => false)) := by
  refine eq_of_okR (okR_call (k := 0) hn rfl fun n hn => ?_)
  cases r with
  | tup _ => cases hr
  | lst _ => cases hr
  | int _ => (repeat' ((try (conv => whnf)) <;> first | with_reducible refine stepE ?_ | with_reducible refine stepEs ?_ | with_reducible refine stepB ?_ | with_reducible refine stepS ?_ | refine okO_of (o := getSh _ _) rfl ?_ | with_reducible refine okK_bl ?_ | with_reducible refine okT_tt ?_ | with_reducible refine o_isBi ?_ | with_reducible refine o_isI ?_)) <;> (try (conv => whnf)); rfl
  | bl _ => (repeat' ((try (conv => whnf)) <;> first | with_reducible refine stepE ?_ | with_reducible refine stepEs ?_ | with_reducible refine stepB ?_ | with_reducible refine stepS ?_ | refine okO_of (o := getSh _ _) rfl ?_ | with_reducible refine okK_bl ?_ | with_reducible refine okT_ct (by decide) ?_ | with_reducible refine o_isB ?_ | refine okO_of (o := opF _ _) rfl ?_)) <;> (try (conv => whnf)); rfl
  | _ => (repeat' ((try (conv => whnf)) <;> first | with_reducible refine stepE ?_ | with_reducible refine stepEs ?_ | with_reducible refine stepB ?_ | with_reducible refine stepS ?_ | refine okO_of (o := getSh _ _) rfl ?_ | with_reducible refine okT_cf (by decide) ?_ | refine okO_of (o := opF _ _) rfl ?_)) <;> (try (conv => whnf))
theorem nameG_ok [Gl gl 0 (.str small)] [Gl gl 2 (.str figs)] [Gl gl 3 (.tup (kept.map .str))] [Gl gl 4 (.int 8)] [Fn T 5 c_built] [Fn T 6 c_is_name] [Fn T 210 c_names_one] {n : Nat} (hn : 3 ≤ n) {r : D} (hr : flatD r = true) : callF T gl n 210 [r] = .ok (.bl (match r with | .str t => nameS t | _ => false)) := by
  refine eq_of_okR (okR_call (k := 2) hn rfl fun n hn => ?_)
  cases r with
  | tup _ => cases hr
  | lst _ => cases hr
  | str t =>
    have := is_name_ok (T := T) (gl := gl) (n := n) (by omega) t
    (repeat' ((try (conv => whnf)) <;> first | refine okR_of (this) ?_ | with_reducible refine stepE ?_ | with_reducible refine stepEs ?_ | with_reducible refine stepB ?_ | with_reducible refine stepS ?_ | refine okO_of (o := getSh _ _) rfl ?_ | with_reducible refine okK_bl ?_ | with_reducible refine okT_tt ?_ | with_reducible refine o_isS ?_)) <;> (try (conv => whnf))
  | _ => (repeat' ((try (conv => whnf)) <;> first | with_reducible refine stepE ?_ | with_reducible refine stepEs ?_ | with_reducible refine stepB ?_ | with_reducible refine stepS ?_ | refine okO_of (o := getSh _ _) rfl ?_ | with_reducible refine okT_cf (by decide) ?_ | refine okO_of (o := opF _ _) rfl ?_)) <;> (try (conv => whnf))
theorem seenG_ok [Fn T 154 c_begins] [Fn T 155 c_seen] {n : Nat} (hn : 2 ≤ n) {ps : List (List Nat)} {k i : Nat} (hk : k < ps.length) (hi : i < k) :
    callF T gl n 155 [ePaths ps, .int (k : Int), .int (i : Int)] = .ok (.bl (begB (nth ps k) (nth ps i))) := by
  refine eq_of_okR (okR_call (k := 1) hn rfl fun n hn => ?_)
  have hT' : decide ((i : Int) < (k : Int)) = true := by simp [hi]
  have bg := begins_ok (T := T) (gl := gl) (n := n) (by omega) (nth ps k) (nth ps i)
  (repeat' ((try (conv => whnf)) <;> first | refine okO_of (o := opC _ (.int _) (.int _)) (a := true) (by simp [opC, hi]) ?_ | refine o_pt (by omega) ?_ | refine okR_of (bg) ?_ | with_reducible refine stepE ?_ | with_reducible refine stepEs ?_ | with_reducible refine stepB ?_ | with_reducible refine stepS ?_ | refine okO_of (o := getSh _ _) rfl ?_ | with_reducible refine okK_bl ?_ | with_reducible refine okT_tt ?_)) <;> (try (conv => whnf))
  rfl
theorem toldG_call [Fn T 154 c_begins] [Fn T 155 c_seen] [Fn T 209 c_is_number_v1] [Fn T 211 c_told] {n : Nat} (hn : 3 ≤ n) {ls : List Lg} {ps : List (List Nat)} {k : Nat} (hk : k < ls.length) (hp : k < ps.length) {r : D} (hr : flatD r = true) :
    callF T gl n 211 [.tup (ls.map Lg.enc), ePaths ps, .int (k : Int), r] = .ok (eStm (toldG ls ps k r)) := by
  refine eq_of_okR (okR_call (k := 2) hn rfl fun n hn => ?_)
  have hnum := numG_ok (T := T) (gl := gl) (n := n) (by omega) hr
  cases r with
  | tup _ => cases hr
  | lst _ => cases hr
  | int i =>
    (repeat' ((try (conv => whnf)) <;> first | refine okR_of (hnum) ?_ | with_reducible refine stepE ?_ | with_reducible refine stepEs ?_ | with_reducible refine stepB ?_ | with_reducible refine stepS ?_ | refine okO_of (o := getSh _ _) rfl ?_ | with_reducible refine okK_bl ?_ | with_reducible refine okT_tt ?_ | with_reducible refine okT_ntt ?_ | with_reducible refine okT_nff ?_ | with_reducible refine okT_dec (fun hT => ?_) (fun hT => ?_) | with_reducible refine okT_bl (fun hT => ?_) (fun hT => ?_) | refine okO_of (o := opC _ (.int _) (.int _)) rfl ?_)) <;> (try (conv => whnf))
    · simp only [toldG]
      rw [if_neg (by intro h; simp at hT; omega)]
      rfl
    · have hT2 : i < k := by simpa using hT
      obtain ⟨j, rfl⟩ : ∃ j : Nat, i = j := ⟨i.toNat, by omega⟩
      have hj : j < ls.length := by omega
      have se := seenG_ok (T := T) (gl := gl) (n := n) (by omega) hp (i := j) (by omega)
      simp only [toldG, Int.toNat_natCast]
      cases hs : begB (nth ps k) (nth ps j)
      · rw [hs] at se
        rw [if_neg (by simp)]
        (repeat' ((try (conv => whnf)) <;> first | refine okR_of (se) ?_ | with_reducible refine stepE ?_ | with_reducible refine stepB ?_ | with_reducible refine stepS ?_ | with_reducible refine okK_bl ?_ | with_reducible refine okT_nff ?_)) <;> (try (conv => whnf))
        rfl
      · rw [hs] at se
        rw [if_pos ⟨by omega, by omega, rfl⟩]
        (repeat' ((try (conv => whnf)) <;> first | refine o_gt hj ?_ | refine o_g2 ?_ | refine okR_of (se) ?_ | with_reducible refine stepE ?_ | with_reducible refine stepB ?_ | with_reducible refine stepS ?_ | refine okO_of (o := getSh _ _) rfl ?_ | with_reducible refine okK_bl ?_ | with_reducible refine okT_ntt ?_)) <;> (try (conv => whnf))
        simp [hj]
    · simp only [toldG]
      rw [if_neg (by omega)]
      rfl
  | _ =>
    (repeat' ((try (conv => whnf)) <;> first | refine okR_of (hnum) ?_ | with_reducible refine stepE ?_ | with_reducible refine stepEs ?_ | with_reducible refine stepB ?_ | with_reducible refine stepS ?_ | refine okO_of (o := getSh _ _) rfl ?_ | with_reducible refine okK_bl ?_ | with_reducible refine okT_tt ?_ | with_reducible refine okT_nff ?_)) <;> (try (conv => whnf))
    rfl
theorem boxSeenG_ok [Fn T 154 c_begins] [Fn T 157 c_box_seen] {n : Nat} (hn : 2 ≤ n) {ps : List (List Nat)} {k b : Nat} (hk : k < ps.length) (hb : b < k) :
    callF T gl n 157 [ePaths ps, .int (k : Int), .int (b : Int)] = .ok (.bl (boxSeenB ps k b)) := by
  refine eq_of_okR (okR_call (k := 1) hn rfl fun n hn => ?_)
  have bg := begins_ok (T := T) (gl := gl) (n := n) (by omega) (nth ps k) (nth ps b).dropLast
  (repeat' ((try (conv => whnf)) <;> first | refine okO_of (o := opC _ (.int _) (.int _)) (a := true) (by simp [opC, hb]) ?_ | refine o_pt (by omega) ?_ | refine o_nintN ?_ | with_reducible refine stepE ?_ | with_reducible refine stepEs ?_ | with_reducible refine stepB ?_ | with_reducible refine stepS ?_ | refine okO_of (o := getSh _ _) rfl ?_ | with_reducible refine okK_bl ?_ | with_reducible refine okT_tt ?_ | with_reducible refine okT_bl (fun hT => ?_) (fun hT => ?_) | refine okO_of (o := ixPart _ _) rfl ?_ | refine okO_of (o := opNeg _) rfl ?_)) <;> (try (conv => whnf))
  · refine o_slt fun t ht _ => ?_
    rw [cut_map, cut_init] at ht
    subst ht
    (repeat' ((try (conv => whnf)) <;> first | refine okR_of (bg) ?_ | with_reducible refine stepEs ?_ | with_reducible refine okK_bl ?_)) <;> (try (conv => whnf))
    have : (nth ps k).contains b = false := by simpa using hT
    unfold boxSeenB
    rw [this]
    rfl
  · have : (nth ps k).contains b = true := by simpa using hT
    unfold boxSeenB
    rw [this]
    rfl
theorem isBoxG_ok [Fn T 140 c_opens] [Fn T 154 c_begins] [Fn T 157 c_box_seen] [Fn T 209 c_is_number_v1] [Fn T 213 c_is_box] {n : Nat} (hn : 3 ≤ n) {ls : List Lg} {ps : List (List Nat)} {k : Nat} (hk : k < ls.length) (hp : k < ps.length) {r : D} (hr : flatD r = true) :
    callF T gl n 213 [.tup (ls.map Lg.enc), ePaths ps, .int (k : Int), r] = .ok (.bl (boxG ls ps k r).isSome) := by
  refine eq_of_okR (okR_call (k := 2) hn rfl fun n hn => ?_)
  have hnum := numG_ok (T := T) (gl := gl) (n := n) (by omega) hr
  cases r with
  | tup _ => cases hr
  | lst _ => cases hr
  | int i =>
    (repeat' ((try (conv => whnf)) <;> first | refine okR_of (hnum) ?_ | with_reducible refine stepE ?_ | with_reducible refine stepEs ?_ | with_reducible refine stepB ?_ | with_reducible refine stepS ?_ | refine okO_of (o := getSh _ _) rfl ?_ | with_reducible refine okK_bl ?_ | with_reducible refine okT_tt ?_ | with_reducible refine okT_ff ?_ | with_reducible refine okT_dec (fun hT => ?_) (fun hT => ?_) | refine okO_of (o := opC _ (.int _) (.int _)) rfl ?_)) <;> (try (conv => whnf))
    · have hT2 : i < k := by simpa using hT
      obtain ⟨j, rfl⟩ : ∃ j : Nat, i = j := ⟨i.toNat, by omega⟩
      have hj : j < ls.length := by omega
      have se := boxSeenG_ok (T := T) (gl := gl) (n := n) (by omega) hp (b := j) (by omega)
      have op := opens_ok (T := T) (gl := gl) (n := n) (by omega) ls[j].rule
      have er : ruleAt ls j = ls[j].rule := by simp [ruleAt, hj]
      simp only [boxG, Int.toNat_natCast, er]
      cases ho : opR ls[j].rule
      · rw [ho] at op
        (repeat' ((try (conv => whnf)) <;> first | refine o_gt hj ?_ | refine o_g1 ?_ | refine okR_of (op) ?_ | with_reducible refine stepE ?_ | with_reducible refine stepEs ?_ | with_reducible refine okK_bl ?_ | with_reducible refine okT_ff ?_)) <;> (try (conv => whnf))
        simp
      · rw [ho] at op
        (repeat' ((try (conv => whnf)) <;> first | refine o_gt hj ?_ | refine o_g1 ?_ | refine okR_of (op) ?_ | refine okR_of (se) ?_ | with_reducible refine stepE ?_ | with_reducible refine stepEs ?_ | refine okO_of (o := getSh _ _) rfl ?_ | with_reducible refine okK_bl ?_ | with_reducible refine okT_tt ?_)) <;> (try (conv => whnf))
        cases boxSeenB ps k j
        · simp
        · simp
          omega
    · simp only [boxG]
      rw [if_neg (by intro h; simp at hT; omega)]
      rfl
    · simp only [boxG]
      rw [if_neg (by omega)]
      rfl
  | _ =>
    (repeat' ((try (conv => whnf)) <;> first | refine okR_of (hnum) ?_ | with_reducible refine stepE ?_ | with_reducible refine stepEs ?_ | with_reducible refine stepB ?_ | with_reducible refine stepS ?_ | refine okO_of (o := getSh _ _) rfl ?_ | with_reducible refine okT_ff ?_)) <;> (try (conv => whnf))
    rfl
theorem endG_lt (P : List (List Nat)) (b : Nat) (hb : b < P.length) : endG P b < P.length := by
  unfold endG
  have : ∀ (l : List Nat) (f : Nat), f < P.length → (∀ j ∈ l, j < P.length) → l.foldl (fun f j => if nth P j == nth P b then j else f) f < P.length := fun l => by
    induction l with
    | nil => exact fun f hf _ => hf
    | cons j l ih =>
      intro f hf h
      refine ih _ ?_ fun x hx => h x (List.mem_cons_of_mem _ hx)
      show (if nth P j == nth P b then j else f) < P.length
      split
      · exact h j (List.mem_cons_self ..)
      · exact hf
  refine this _ b hb fun j hj => ?_
  have := List.mem_range'_1.mp hj
  omega
theorem endG_ok [Fn T 159 c_end_of] {n : Nat} (hn : 1 ≤ n) {ps : List (List Nat)} (hl : ps.length ≤ line) {b : Nat} (hb : b < ps.length) : callF T gl n 159 [ePaths ps, .int (b : Int)] = .ok (eN (endG ps b)) := by
  refine eq_of_okR (okR_call (k := 0) hn rfl fun n hn => ?_)
  have el : ((ps.map fun p : List Nat => D.tup (p.map eN)).length : Int) = ps.length := by simp
  have lv := line_val
  have ez : ((ps.length : Int) - (b : Int)).toNat = ps.length - b := by omega
  unfold ePaths
  (repeat' ((try (conv => whnf)) <;> first | with_reducible refine stepE ?_ | with_reducible refine stepEs ?_ | with_reducible refine stepB ?_ | with_reducible refine stepS ?_ | refine okO_of (o := getSh _ _) rfl ?_ | refine okO_of (o := opF _ _) rfl ?_ | with_reducible refine stepIt ?_)) <;> (try (conv => whnf))
  rw [el]
  refine o_rng2 (by omega) (by omega) (by omega) (by omega) (by omega) ?_
  rw [ez]
  refine okFor_rng (I := fun k ρ => ∃ v3 : Option (Fl × D), ρ = [some (.sh, .tup (ps.map fun p => .tup (p.map eN))), some (.sh, .int (b : Int)), some (.sh, eN ((List.range' b k).foldl (fun f j => if nth ps j == nth ps b then j else f) b)), v3]) ⟨_, rfl⟩ (fun k hk ρ ⟨v3, hρ⟩ => ?_) fun ρ ⟨v3, hρ⟩ => ?_
  · subst hρ
    have e : ((b : Int) + (k : Int)) = ((b + k : Nat) : Int) := by omega
    rw [e]
    have oj : ∀ {P : D → Prop} {j : Nat}, j < ps.length → P (.tup ((nth ps j).map eN)) → okO (opIx (.tup (ps.map fun p => .tup (p.map eN))) (.int (j : Int))) P := fun hj p => o_pt hj p
    (repeat' ((try (conv => whnf)) <;> first | refine oj (by omega) ?_ | refine o_eqtN ?_ | with_reducible refine stepE ?_ | with_reducible refine stepB ?_ | with_reducible refine stepS ?_ | refine okO_of (o := getSh _ _) rfl ?_ | with_reducible refine okT_bl (fun hT => ?_) (fun hT => ?_))) <;> (try (conv => whnf))
    · refine ⟨some (.sh, .int ((b + k : Nat) : Int)), ?_⟩
      rw [List.range'_concat, List.foldl_append]
      simp only [List.foldl_cons, List.foldl_nil, Nat.one_mul]
      rw [if_pos hT]
      rfl
    · refine ⟨some (.sh, .int ((b + k : Nat) : Int)), ?_⟩
      rw [List.range'_concat, List.foldl_append]
      simp only [List.foldl_cons, List.foldl_nil, Nat.one_mul]
      rw [if_neg (by rw [hT]; decide)]
      rfl
  · subst hρ
    (repeat' ((try (conv => whnf)) <;> first | with_reducible refine stepE ?_ | with_reducible refine stepB ?_ | with_reducible refine stepS ?_ | refine okO_of (o := getSh _ _) rfl ?_)) <;> (try (conv => whnf))
    rfl
end
end Ev

/-! Whether a line follows: by each rule. -/
namespace Ev
theorem boxG_lt {ls : List Lg} {ps : List (List Nat)} {k b : Nat} {r : D} (h : boxG ls ps k r = some b) : b < k ∧ r = .int (b : Int) := by
  cases r <;> simp only [boxG, reduceCtorEq] at h
  split at h
  · cases h
    rename_i i q
    exact ⟨by omega, by rw [show ((i.toNat : Nat) : Int) = i by omega]⟩
  · cases h
section
variable {T : Nat → Option FD} {gl : Nat → Option D}
theorem stAt_get {ls : List Lg} {b : Nat} (hb : b < ls.length) : stAt ls b = ls[b].st ∧ ruleAt ls b = ls[b].rule ∧ refsAt ls b = ls[b].refs := by simp [stAt, ruleAt, refsAt, hb]
theorem closesG_ok [Fn T 140 c_opens] [Fn T 154 c_begins] [Fn T 157 c_box_seen] [Fn T 159 c_end_of] [Fn T 209 c_is_number_v1] [Fn T 213 c_is_box] [Fn T 214 c_closes] {n : Nat} (hn : 4 ≤ n) {ls : List Lg} (hl : ∀ l ∈ ls, LgOk l) {ps : List (List Nat)} (hz : ps.length ≤ line) (hpl : ps.length ≤ ls.length) {k : Nat} (hk : k < ls.length) (hp : k < ps.length) {r : D} (hr : flatD r = true) {A B : Stm} (hA : A.dp ≤ 140) (hB : B.dp ≤ 140) :
    callF T gl n 214 [.tup (ls.map Lg.enc), ePaths ps, .int (k : Int), r, A.enc, B.enc] = .ok (.bl (closesG ls ps k r A B)) := by
  refine eq_of_okR (okR_call (k := 3) hn rfl fun n hn => ?_)
  have bx := isBoxG_ok (T := T) (gl := gl) (n := n) (by omega) hk hp hr
  unfold closesG
  cases hb : boxG ls ps k r with
  | none =>
    rw [hb] at bx
    (repeat' ((try (conv => whnf)) <;> first | refine okR_of (bx) ?_ | with_reducible refine stepE ?_ | with_reducible refine stepEs ?_ | with_reducible refine stepB ?_ | with_reducible refine stepS ?_ | refine okO_of (o := getSh _ _) rfl ?_ | with_reducible refine okK_bl ?_ | with_reducible refine okT_tt ?_ | with_reducible refine okT_ct (by decide) ?_)) <;> (try (conv => whnf))
  | some b =>
    rw [hb] at bx
    obtain ⟨hlt, rfl⟩ := boxG_lt hb
    have hbl : b < ls.length := by omega
    have en := endG_ok (T := T) (gl := gl) (n := n) (by omega) hz (b := b) (by omega)
    have el := endG_lt ps b (by omega)
    have hel : endG ps b < ls.length := by omega
    obtain ⟨e1, e2, _⟩ := stAt_get hbl
    obtain ⟨e3, _, _⟩ := stAt_get hel
    simp only [e1, e2, e3]
    have bx : callF T gl n 213 [.tup (ls.map Lg.enc), ePaths ps, .int (k : Int), .int (b : Int)] = .ok (.bl true) := bx
    cases hg : ls[b].rule == guessR
    · have hg2 : (!(ls[b].rule == [103, 117, 101, 115, 115])) = true := by rw [show (ls[b].rule == [103, 117, 101, 115, 115]) = false from hg]; rfl
      (repeat' ((try (conv => whnf)) <;> first | refine o_gt hbl ?_ | refine o_g1 ?_ | refine okT_ct hg2 ?_ | refine okR_of (bx) ?_ | with_reducible refine stepE ?_ | with_reducible refine stepEs ?_ | with_reducible refine stepB ?_ | with_reducible refine stepS ?_ | refine okO_of (o := getSh _ _) rfl ?_ | with_reducible refine okK_bl ?_ | with_reducible refine okT_ntt ?_ | with_reducible refine o_nes ?_)) <;> (try (conv => whnf))
      rfl
    · have hg2 : (!(ls[b].rule == [103, 117, 101, 115, 115])) = false := by rw [show (ls[b].rule == [103, 117, 101, 115, 115]) = true from hg]; rfl
      (repeat' ((try (conv => whnf)) <;> first | refine o_gt hbl ?_ | refine o_g1 ?_ | refine okT_cf hg2 ?_ | refine o_g2 ?_ | refine o_eqD hA ?_ | refine o_gt hel ?_ | refine o_eqD hB ?_ | refine okR_of (bx) ?_ | refine okR_of (en) ?_ | with_reducible refine stepE ?_ | with_reducible refine stepEs ?_ | with_reducible refine stepB ?_ | with_reducible refine stepS ?_ | refine okO_of (o := getSh _ _) rfl ?_ | with_reducible refine okK_bl ?_ | with_reducible refine okT_ntt ?_ | with_reducible refine okT_dec (fun hT => ?_) (fun hT => ?_) | with_reducible refine o_nes ?_)) <;> (try (conv => whnf))
      · simp [hT]
      · simp [hT]
theorem namedG_ok [Gl gl 0 (.str small)] [Gl gl 2 (.str figs)] [Gl gl 3 (.tup (kept.map .str))] [Gl gl 4 (.int 8)] [Fn T 5 c_built] [Fn T 6 c_is_name] [Fn T 15 c_parts_of] [Fn T 27 c_rising] [Fn T 28 c_names_in] [Fn T 215 c_named] {n : Nat} (hn : 110 ≤ n) {l : Lg} (hl : LgOk l) (t : List Nat) :
    callF T gl n 215 [l.enc, .str t] = .ok (.bl (namedG t l)) := by
  refine eq_of_okR (okR_call (k := 109) hn rfl fun n hn => ?_)
  unfold namedG
  cases hs : l.st with
  | none =>
    (repeat' ((try (conv => whnf)) <;> first | refine o_g2n hs ?_ | refine o_g3 ?_ | with_reducible refine stepE ?_ | with_reducible refine stepB ?_ | with_reducible refine stepS ?_ | refine okO_of (o := getSh _ _) rfl ?_ | with_reducible refine okT_ff ?_ | with_reducible refine okT_cf (by decide) ?_ | with_reducible refine o_ints ?_)) <;> (try (conv => whnf))
    rfl
  | some A =>
    have hA := hl.st A hs
    have nA := isNon_enc A
    have nA2 : (!isNon A.enc) = true := by rw [nA]; rfl
    have nm := names_in_ok (T := T) (gl := gl) A (n := n) (by have := hA.dp; omega) hA.wf hA.sz
    (repeat' ((try (conv => whnf)) <;> first | refine o_g2s hs ?_ | refine okT_ct nA2 ?_ | refine o_g3 ?_ | refine okR_of (nm) ?_ | with_reducible refine stepE ?_ | with_reducible refine stepEs ?_ | with_reducible refine stepB ?_ | with_reducible refine stepS ?_ | refine okO_of (o := getSh _ _) rfl ?_ | with_reducible refine okK_bl ?_ | with_reducible refine okT_bl (fun hT => ?_) (fun hT => ?_) | with_reducible refine o_ints ?_)) <;> (try (conv => whnf))
    · rw [isIn_strs] at hT
      simp only [hT, Bool.true_or]
    · rw [isIn_strs] at hT
      simp only [hT, Bool.false_or]
theorem newG_ok [Gl gl 0 (.str small)] [Gl gl 2 (.str figs)] [Gl gl 3 (.tup (kept.map .str))] [Gl gl 4 (.int 8)] [Fn T 5 c_built] [Fn T 6 c_is_name] [Fn T 15 c_parts_of] [Fn T 27 c_rising] [Fn T 28 c_names_in] [Fn T 210 c_names_one] [Fn T 215 c_named] [Fn T 216 c_is_new] {n : Nat} (hn : 111 ≤ n) {ls : List Lg} (hl : ∀ l ∈ ls, LgOk l) {k : Nat} (hk : k < ls.length) :
    callF T gl n 216 [.tup (ls.map Lg.enc), .int (k : Int)] = .ok (.bl (newG ls k ls[k].refs)) := by
  refine eq_of_okR (okR_call (k := 110) hn rfl fun n hn => ?_)
  have hlk := hl ls[k] (List.getElem_mem hk)
  unfold newG
  by_cases h1 : ls[k].refs.length = 1
  · obtain ⟨x, hf⟩ := List.length_eq_one_iff.mp h1
    have hx := hlk.refs.2 x (by rw [hf]; simp)
    have nm := nameG_ok (T := T) (gl := gl) (n := n) (by omega) hx
    rw [hf]
    have other : (∀ t, x ≠ .str t) → nameRef [x] = none ∧ callF T gl n 210 [x] = .ok (.bl false) := fun h => by
      cases x with
      | str t => exact absurd rfl (h t)
      | _ => exact ⟨rfl, nm⟩
    by_cases hs : ∃ t, x = .str t
    · obtain ⟨t, rfl⟩ := hs
      have nm : callF T gl n 210 [.str t] = .ok (.bl (nameS t)) := nm
      cases hn2 : nameS t
      · rw [hn2] at nm
        (repeat' ((try (conv => whnf)) <;> first | refine o_gt hk ?_ | refine o_g3r hf ?_ | refine okT_cf rfl ?_ | refine okR_of (nm) ?_ | with_reducible refine stepE ?_ | with_reducible refine stepEs ?_ | with_reducible refine stepB ?_ | with_reducible refine stepS ?_ | refine okO_of (o := getSh _ _) rfl ?_ | with_reducible refine okK_bl ?_ | with_reducible refine okT_nff ?_ | with_reducible refine o_nei ?_ | refine okO_of (o := opIx (.tup (_ :: _)) _) rfl ?_ | refine okO_of (o := opF _ _) rfl ?_)) <;> (try (conv => whnf))
        simp [nameRef, hn2]
      · rw [hn2] at nm
        (repeat' ((try (conv => whnf)) <;> first | refine o_gt hk ?_ | refine o_g3r hf ?_ | refine okT_cf rfl ?_ | refine okR_of (nm) ?_ | with_reducible refine stepE ?_ | with_reducible refine stepEs ?_ | with_reducible refine stepB ?_ | with_reducible refine stepS ?_ | refine okO_of (o := getSh _ _) rfl ?_ | with_reducible refine okK_bl ?_ | with_reducible refine o_nei ?_ | refine okO_of (o := opIx (.tup (_ :: _)) _) rfl ?_ | refine okO_of (o := opF _ _) rfl ?_ | refine okO_of (o := ixPart _ _) rfl ?_ | with_reducible refine stepIt ?_)) <;> (try (conv => whnf))
        refine o_slt fun u hu _ => ?_
        rw [cut_map, cut_take] at hu
        subst hu
        have hlt : ∀ l ∈ ls.take k, LgOk l := fun l hm => hl l (List.mem_of_mem_take hm)
        generalize ls.take k = tk at hlt ⊢
        (repeat' ((try (conv => whnf)) <;> (refine okO_of (o := itemsOf _) rfl ?_))) <;> (try (conv => whnf))
        refine okComp_map Lg.enc (fun l => .bl (namedG t l)) (fun l hm => ?_) ?_
        · have := namedG_ok (T := T) (gl := gl) (n := n) (by omega) (hlt l hm) t
          (repeat' ((try (conv => whnf)) <;> first | refine okR_of (this) ?_ | with_reducible refine stepE ?_ | with_reducible refine stepEs ?_ | refine okO_of (o := getSh _ _) rfl ?_ | refine okO_of (o := opIx (.tup (_ :: _)) _) rfl ?_)) <;> (try (conv => whnf))
        · rw [show (tk.map fun l => D.bl (namedG t l)) = (tk.map (namedG t)).map .bl by simp]
          (repeat' ((try (conv => whnf)) <;> (with_reducible refine stepEs ?_))) <;> (try (conv => whnf))
          refine o_any ?_
          (repeat' ((try (conv => whnf)) <;> (with_reducible refine okK_bl ?_))) <;> (try (conv => whnf))
          simp [nameRef, hn2, Function.comp_def]
    · obtain ⟨e1, e2⟩ := other fun t e => hs ⟨t, e⟩
      (repeat' ((try (conv => whnf)) <;> first | refine o_gt hk ?_ | refine o_g3r hf ?_ | refine okT_cf rfl ?_ | refine okR_of (e2) ?_ | with_reducible refine stepE ?_ | with_reducible refine stepEs ?_ | with_reducible refine stepB ?_ | with_reducible refine stepS ?_ | refine okO_of (o := getSh _ _) rfl ?_ | with_reducible refine okK_bl ?_ | with_reducible refine okT_nff ?_ | with_reducible refine o_nei ?_ | refine okO_of (o := opIx (.tup (_ :: _)) _) rfl ?_ | refine okO_of (o := opF _ _) rfl ?_)) <;> (try (conv => whnf))
      rw [e1]
  · have e : nameRef ls[k].refs = none := by
      generalize ls[k].refs = l at h1
      match l, h1 with
      | [], _ => rfl
      | [_], h => simp at h
      | a :: _ :: _, _ => cases a <;> rfl
    have h2 : decide ((ls[k].refs.length : Int) ≠ 1) = true := by simp; omega
    rw [e]
    (repeat' ((try (conv => whnf)) <;> first | refine o_gt hk ?_ | refine o_g3 ?_ | refine okT_ct h2 ?_ | with_reducible refine stepE ?_ | with_reducible refine stepEs ?_ | with_reducible refine stepB ?_ | with_reducible refine stepS ?_ | refine okO_of (o := getSh _ _) rfl ?_ | with_reducible refine okT_tt ?_ | with_reducible refine o_nei ?_ | refine okO_of (o := opF _ _) rfl ?_)) <;> (try (conv => whnf))
theorem openG_ok [Gl gl 0 (.str small)] [Gl gl 2 (.str figs)] [Gl gl 3 (.tup (kept.map .str))] [Gl gl 4 (.int 8)] [Fn T 5 c_built] [Fn T 6 c_is_name] [Fn T 15 c_parts_of] [Fn T 27 c_rising] [Fn T 28 c_names_in] [Fn T 210 c_names_one] [Fn T 215 c_named] [Fn T 216 c_is_new] [Fn T 217 c_opening] {n : Nat} (hn : 112 ≤ n) {ls : List Lg} (hl : ∀ l ∈ ls, LgOk l) {k : Nat} (hk : k < ls.length) :
    callF T gl n 217 [.tup (ls.map Lg.enc), .int (k : Int)] = .ok (.bl (openG ls k ls[k])) := by
  refine eq_of_okR (okR_call (k := 111) hn rfl fun n hn => ?_)
  have nw := newG_ok (T := T) (gl := gl) (n := n) (by omega) hl hk
  unfold openG
  cases h1 : ls[k].rule == newR
  · have h1' : (ls[k].rule == [110, 101, 119]) = false := h1
    cases h2 : ls[k].rule == caseR
    · have h2' : (ls[k].rule == [99, 97, 115, 101]) = false := h2
      (repeat' ((try (conv => whnf)) <;> first | refine o_gt hk ?_ | refine o_g1 ?_ | refine okT_cf h1' ?_ | refine okT_cf h2' ?_ | refine o_g3 ?_ | refine o_g0 ?_ | with_reducible refine stepE ?_ | with_reducible refine stepEs ?_ | with_reducible refine stepB ?_ | with_reducible refine stepS ?_ | refine okO_of (o := getSh _ _) rfl ?_ | with_reducible refine okK_bl ?_ | with_reducible refine okT_dec (fun hT => ?_) (fun hT => ?_) | with_reducible refine okT_bl (fun hT => ?_) (fun hT => ?_) | with_reducible refine o_eqi ?_ | with_reducible refine o_eqs ?_ | refine okO_of (o := opC _ (.int _) (.int _)) rfl ?_ | refine okO_of (o := opF _ _) rfl ?_ | refine okO_of (o := ixPart _ _) rfl ?_ | with_reducible refine stepIt ?_)) <;> (try (conv => whnf))
      · have : ls[k].refs.isEmpty = false := by
          cases h : ls[k].refs with
          | nil => rw [h] at hT; simp at hT
          | cons _ _ => rfl
        simp [this]
      all_goals
        have he : ls[k].refs.isEmpty = true := by
          cases h : ls[k].refs with
          | nil => rfl
          | cons _ _ => rename_i h0 _ _; simp_all
        skip
      · simp [he, show (ls[k].rule == guessR) = true from by simpa [guessR] using hT]
      · rename_i h0 hg
        have hg' : (ls[k].rule == guessR) = false := by simpa [guessR] using hg
        have hl0 : ls[k].lv = 0 := by simpa using hT
        simp only [he, hg', hl0, Bool.or_self, Bool.false_or, Bool.true_and, decide_true, Bool.false_eq_true, if_false]
        refine o_slt fun u hu _ => ?_
        rw [cut_map, cut_take] at hu
        subst hu
        generalize ls.take k = tk
        (repeat' ((try (conv => whnf)) <;> (refine okO_of (o := itemsOf _) rfl ?_))) <;> (try (conv => whnf))
        refine okComp_map Lg.enc (fun a => .bl (a.rule == givenR)) (fun a _ => ?_) ?_
        · (repeat' ((try (conv => whnf)) <;> first | refine o_g1 ?_ | with_reducible refine stepE ?_ | refine okO_of (o := getSh _ _) rfl ?_ | with_reducible refine o_eqs ?_)) <;> (try (conv => whnf))
          rfl
        · rw [show (tk.map fun a => D.bl (a.rule == givenR)) = (tk.map fun a => a.rule == givenR).map .bl by simp]
          (repeat' ((try (conv => whnf)) <;> (with_reducible refine stepEs ?_))) <;> (try (conv => whnf))
          refine o_all ?_
          (repeat' ((try (conv => whnf)) <;> (with_reducible refine okK_bl ?_))) <;> (try (conv => whnf))
          simp [List.all_map, Function.comp_def]
      · rename_i h0 hg
        have hg' : (ls[k].rule == guessR) = false := by simpa [guessR] using hg
        have hl0 : ¬ ls[k].lv = 0 := by simpa using hT
        simp [he, hg', hl0]
    · have h2' : (ls[k].rule == [99, 97, 115, 101]) = true := h2
      (repeat' ((try (conv => whnf)) <;> first | refine o_gt hk ?_ | refine o_g1 ?_ | refine okT_cf h1' ?_ | refine okT_ct h2' ?_ | refine okR_of (nw) ?_ | with_reducible refine stepE ?_ | with_reducible refine stepEs ?_ | with_reducible refine stepB ?_ | with_reducible refine stepS ?_ | refine okO_of (o := getSh _ _) rfl ?_ | with_reducible refine okK_bl ?_ | with_reducible refine o_eqs ?_)) <;> (try (conv => whnf))
      rfl
  · have h1' : (ls[k].rule == [110, 101, 119]) = true := h1
    (repeat' ((try (conv => whnf)) <;> first | refine o_gt hk ?_ | refine o_g1 ?_ | refine okT_ct h1' ?_ | refine okR_of (nw) ?_ | with_reducible refine stepE ?_ | with_reducible refine stepEs ?_ | with_reducible refine stepB ?_ | with_reducible refine stepS ?_ | refine okO_of (o := getSh _ _) rfl ?_ | with_reducible refine okT_tt ?_ | with_reducible refine o_eqs ?_)) <;> (try (conv => whnf))
    rfl
theorem toldB_ok [Gl gl 0 (.str small)] [Gl gl 2 (.str figs)] [Gl gl 1 (.str great)] [Gl gl 4 (.int 8)] [Fn T 5 c_built] [Fn T 7 c_is_letter] [Fn T 15 c_parts_of] [Fn T 27 c_rising] [Fn T 29 c_free_in] [Fn T 230 c_is_told]
    {n : Nat} (hn : 110 ≤ n) {l : Lg} (hl : LgOk l) : callF T gl n 230 [l.enc] = .ok (.bl (isToldG l)) := by
  refine eq_of_okR (okR_call (k := 109) hn rfl fun n hn => ?_)
  unfold isToldG
  cases h1 : l.rule == newR
  · have h1' : (l.rule == [110, 101, 119]) = false := h1
    cases hs : l.st with
    | none => (repeat' ((try (conv => whnf)) <;> first | refine o_g1 ?_ | refine okT_cf h1' ?_ | refine o_g2n hs ?_ | with_reducible refine stepE ?_ | with_reducible refine stepB ?_ | with_reducible refine stepS ?_ | refine okO_of (o := getSh _ _) rfl ?_ | with_reducible refine okT_cf (by decide) ?_ | with_reducible refine o_eqs ?_)) <;> (try (conv => whnf)); rfl
    | some A =>
      have hA := hl.st A hs
      have nA := isNon_enc A
      have nA2 : (!isNon A.enc) = true := by rw [nA]; rfl
      have fr := free_in_ok (T := T) (gl := gl) (n := n) A (by have := hA.dp; omega) hA.wf hA.sz
      (repeat' ((try (conv => whnf)) <;> first | refine o_g1 ?_ | refine okT_cf h1' ?_ | refine o_g2s hs ?_ | refine okT_ct nA2 ?_ | refine okR_of (fr) ?_ | with_reducible refine stepE ?_ | with_reducible refine stepEs ?_ | with_reducible refine stepB ?_ | with_reducible refine stepS ?_ | refine okO_of (o := getSh _ _) rfl ?_ | with_reducible refine okK_bl ?_ | with_reducible refine o_eqi ?_ | with_reducible refine o_eqs ?_ | refine okO_of (o := opF _ _) rfl ?_)) <;> (try (conv => whnf))
      show _ = D.bl A.fre.isEmpty
      cases A.fre with
      | nil => simp
      | cons a l =>
        have : ¬ ((l.length : Int) + 1 = 0) := by omega
        simp [this]
  · have h1' : (l.rule == [110, 101, 119]) = true := h1
    cases hs : l.st with
    | none => (repeat' ((try (conv => whnf)) <;> first | refine o_g1 ?_ | refine okT_ct h1' ?_ | refine o_g2n hs ?_ | with_reducible refine stepE ?_ | with_reducible refine stepB ?_ | with_reducible refine stepS ?_ | refine okO_of (o := getSh _ _) rfl ?_ | with_reducible refine o_eqs ?_)) <;> (try (conv => whnf)); rfl
    | some A =>
      (repeat' ((try (conv => whnf)) <;> first | refine o_g1 ?_ | refine okT_ct h1' ?_ | refine o_g2s hs ?_ | with_reducible refine stepE ?_ | with_reducible refine stepB ?_ | with_reducible refine stepS ?_ | refine okO_of (o := getSh _ _) rfl ?_ | with_reducible refine o_eqs ?_)) <;> (try (conv => whnf))
      rw [isNon_enc]
      rfl
end
end Ev

/-! Whether a line follows, the whole. -/
namespace Ev
theorem nameS_ne {t : List Nat} (h : nameS t = true) : (t == []) = false := by
  cases t with
  | nil => simp [nameS, builtS] at h
  | cons _ _ => rfl
theorem boxG_some {ls : List Lg} {ps : List (List Nat)} {k : Nat} {r : D} {ru t : List Nat} (h : boxNameG ls ps k r ru = some t) : ∃ b, boxG ls ps k r = some b ∧ (ruleAt ls b == ru) = true ∧ refsAt ls b = [.str t] ∧ nameS t = true := by
  unfold boxNameG at h
  cases hb : boxG ls ps k r with
  | none => rw [hb] at h; cases h
  | some b =>
    rw [hb] at h
    simp only at h
    split at h
    · rename_i hr
      refine ⟨b, rfl, hr, ?_⟩
      unfold nameRef at h
      split at h
      · rename_i u e
        split at h
        · cases h
          exact ⟨e, by assumption⟩
        · cases h
      · cases h
    · cases h
section
variable {T : Nat → Option FD} {gl : Nat → Option D}
theorem oneG_ok [Fn T 212 c_is_form] [Fn T 218 c_by_one] {n : Nat} (hn : 2 ≤ n) {S : Stm} (hS : StOk S) {A : Option Stm} (hA : ∀ B, A = some B → StOk B) {r : List Nat} (hr : isIn (.str r) ones = true) : callF T gl n 218 [.str r, S.enc, eStm A] = .ok (.bl (oneG r S A)) := by
  refine eq_of_okR (okR_call (k := 1) hn rfl fun n hn => ?_)
  have hr := one_of hr
  have f1 := is_form_ok (T := T) (gl := gl) (n := n) (by omega) A
  have f2 := is_form_ok (T := T) (gl := gl) (n := n) (by omega) (some S)
  cases A with
  | none =>
    have en : ∀ {PB : Bool → Prop}, PB false → okO (opC .eq S.enc .non) PB := fun h => o_eq (by have := stdepth hS; omega) (by rw [eqv_non]; exact h)
    rcases hr with rfl | rfl | rfl | rfl | rfl
    · show okB _ _ _ (c_by_one.start [.str sAgain, S.enc, .non]) _
      (repeat' ((try (conv => whnf)) <;> first | refine en ?_ | with_reducible refine stepE ?_ | with_reducible refine stepB ?_ | with_reducible refine stepS ?_ | refine okO_of (o := getSh _ _) rfl ?_ | with_reducible refine okT_ct (by decide) ?_ | with_reducible refine o_eqs ?_)) <;> (try (conv => whnf))
      simp [oneG]
    · show okB _ _ _ (c_by_one.start [.str sLeft, S.enc, .non]) _
      simp only [eStm] at f1
      (repeat' ((try (conv => whnf)) <;> first | refine okR_of (f1 _) ?_ | with_reducible refine stepE ?_ | with_reducible refine stepEs ?_ | with_reducible refine stepB ?_ | with_reducible refine stepS ?_ | refine okO_of (o := getSh _ _) rfl ?_ | with_reducible refine okT_ff ?_ | with_reducible refine okT_ct (by decide) ?_ | with_reducible refine okT_cf (by decide) ?_ | with_reducible refine o_eqs ?_)) <;> (try (conv => whnf))
      simp [oneG]
    · show okB _ _ _ (c_by_one.start [.str sRight, S.enc, .non]) _
      simp only [eStm] at f1
      (repeat' ((try (conv => whnf)) <;> first | refine okR_of (f1 _) ?_ | with_reducible refine stepE ?_ | with_reducible refine stepEs ?_ | with_reducible refine stepB ?_ | with_reducible refine stepS ?_ | refine okO_of (o := getSh _ _) rfl ?_ | with_reducible refine okT_ff ?_ | with_reducible refine okT_ct (by decide) ?_ | with_reducible refine okT_cf (by decide) ?_ | with_reducible refine o_eqs ?_)) <;> (try (conv => whnf))
      simp [oneG]
    · show okB _ _ _ (c_by_one.start [.str sEither, S.enc, .non]) _
      simp only [eStm] at f1
      (repeat' ((try (conv => whnf)) <;> first | with_reducible refine stepE ?_ | with_reducible refine stepB ?_ | with_reducible refine stepS ?_ | refine okO_of (o := getSh _ _) rfl ?_ | with_reducible refine okT_ct (by decide) ?_ | with_reducible refine okT_cf (by decide) ?_ | with_reducible refine o_eqs ?_)) <;> (try (conv => whnf))
      show D.bl false = D.bl (oneG sEither S none)
      cases S with
      | bin o a b => cases o <;> rfl
      | _ => rfl
    · show okB _ _ _ (c_by_one.start [.str sAny, S.enc, .non]) _
      simp only [eStm] at f1
      (repeat' ((try (conv => whnf)) <;> first | refine okR_of (f1 _) ?_ | with_reducible refine stepE ?_ | with_reducible refine stepEs ?_ | with_reducible refine stepB ?_ | with_reducible refine stepS ?_ | refine okO_of (o := getSh _ _) rfl ?_ | with_reducible refine okT_cf (by decide) ?_ | with_reducible refine o_eqs ?_)) <;> (try (conv => whnf))
      rfl
  | some A =>
    have hA := hA A rfl
    have hN : (!isNon A.enc) = true := by rw [isNon_enc]; rfl
    simp only [eStm] at f1 f2
    rcases hr with rfl | rfl | rfl | rfl | rfl
    · show okB _ _ _ (c_by_one.start [.str sAgain, S.enc, A.enc]) _
      (repeat' ((try (conv => whnf)) <;> first | refine okT_ct rfl ?_ | refine o_eqS hS ?_ | with_reducible refine stepE ?_ | with_reducible refine stepB ?_ | with_reducible refine stepS ?_ | refine okO_of (o := getSh _ _) rfl ?_ | with_reducible refine o_eqs ?_)) <;> (try (conv => whnf))
      show D.bl _ = D.bl (decide (some A = some S))
      simp [eq_comm]
    · show okB _ _ _ (c_by_one.start [.str sLeft, S.enc, A.enc]) _
      cases A with
      | bin o a b => cases o <;> ((repeat' ((try (conv => whnf)) <;> first | refine okT_ct rfl ?_ | refine okT_cf rfl ?_ | refine enc_0 rfl ?_ | refine o_eqS (B := a) hS ?_ | refine okR_of (f1 _) ?_ | with_reducible refine stepE ?_ | with_reducible refine stepEs ?_ | with_reducible refine stepB ?_ | with_reducible refine stepS ?_ | refine okO_of (o := getSh _ _) rfl ?_ | with_reducible refine okK_bl ?_ | with_reducible refine o_eqs ?_)) <;> (try (conv => whnf)); rfl)
      | qu q x a => cases q <;> ((repeat' ((try (conv => whnf)) <;> first | refine okT_ct rfl ?_ | refine okT_cf rfl ?_ | refine okR_of (f1 _) ?_ | with_reducible refine stepE ?_ | with_reducible refine stepEs ?_ | with_reducible refine stepB ?_ | with_reducible refine stepS ?_ | refine okO_of (o := getSh _ _) rfl ?_ | with_reducible refine o_eqs ?_)) <;> (try (conv => whnf)); rfl)
      | _ => (repeat' ((try (conv => whnf)) <;> first | refine okT_ct rfl ?_ | refine okT_cf rfl ?_ | refine okR_of (f1 _) ?_ | with_reducible refine stepE ?_ | with_reducible refine stepEs ?_ | with_reducible refine stepB ?_ | with_reducible refine stepS ?_ | refine okO_of (o := getSh _ _) rfl ?_ | with_reducible refine o_eqs ?_)) <;> (try (conv => whnf)); rfl
    · show okB _ _ _ (c_by_one.start [.str sRight, S.enc, A.enc]) _
      cases A with
      | bin o a b => cases o <;> ((repeat' ((try (conv => whnf)) <;> first | refine okT_ct rfl ?_ | refine okT_cf rfl ?_ | refine enc_0 rfl ?_ | refine o_eqS (B := b) hS ?_ | refine okR_of (f1 _) ?_ | with_reducible refine stepE ?_ | with_reducible refine stepEs ?_ | with_reducible refine stepB ?_ | with_reducible refine stepS ?_ | refine okO_of (o := getSh _ _) rfl ?_ | with_reducible refine okK_bl ?_ | with_reducible refine o_eqs ?_)) <;> (try (conv => whnf)); rfl)
      | qu q x a => cases q <;> ((repeat' ((try (conv => whnf)) <;> first | refine okT_ct rfl ?_ | refine okT_cf rfl ?_ | refine okR_of (f1 _) ?_ | with_reducible refine stepE ?_ | with_reducible refine stepEs ?_ | with_reducible refine stepB ?_ | with_reducible refine stepS ?_ | refine okO_of (o := getSh _ _) rfl ?_ | with_reducible refine o_eqs ?_)) <;> (try (conv => whnf)); rfl)
      | _ => (repeat' ((try (conv => whnf)) <;> first | refine okT_ct rfl ?_ | refine okT_cf rfl ?_ | refine okR_of (f1 _) ?_ | with_reducible refine stepE ?_ | with_reducible refine stepEs ?_ | with_reducible refine stepB ?_ | with_reducible refine stepS ?_ | refine okO_of (o := getSh _ _) rfl ?_ | with_reducible refine o_eqs ?_)) <;> (try (conv => whnf)); rfl
    · show okB _ _ _ (c_by_one.start [.str sEither, S.enc, A.enc]) _
      cases S with
      | bin o a b =>
        cases o
        · (repeat' ((try (conv => whnf)) <;> first | refine okT_ct rfl ?_ | refine okT_cf rfl ?_ | refine okT_ct hN ?_ | refine okR_of (f2 _) ?_ | with_reducible refine stepE ?_ | with_reducible refine stepEs ?_ | with_reducible refine stepB ?_ | with_reducible refine stepS ?_ | refine okO_of (o := getSh _ _) rfl ?_ | with_reducible refine okK_bl ?_ | with_reducible refine o_eqs ?_)) <;> (try (conv => whnf))
          rfl
        · (repeat' ((try (conv => whnf)) <;> first | refine okT_ct rfl ?_ | refine okT_cf rfl ?_ | refine okT_ct hN ?_ | refine enc_0 rfl ?_ | refine o_eqS (B := a) hA ?_ | refine o_eqS (B := b) hA ?_ | refine okR_of (f2 _) ?_ | with_reducible refine stepE ?_ | with_reducible refine stepEs ?_ | with_reducible refine stepB ?_ | with_reducible refine stepS ?_ | refine okO_of (o := getSh _ _) rfl ?_ | with_reducible refine okK_bl ?_ | with_reducible refine okT_dec (fun hT => ?_) (fun hT => ?_) | with_reducible refine o_eqs ?_)) <;> (try (conv => whnf))
          · show _ = D.bl (decide (some A = some a) || decide (some A = some b))
            simp [hT]
          · show _ = D.bl (decide (some A = some a) || decide (some A = some b))
            simp [hT]
        · (repeat' ((try (conv => whnf)) <;> first | refine okT_ct rfl ?_ | refine okT_cf rfl ?_ | refine okT_ct hN ?_ | refine okR_of (f2 _) ?_ | with_reducible refine stepE ?_ | with_reducible refine stepEs ?_ | with_reducible refine stepB ?_ | with_reducible refine stepS ?_ | refine okO_of (o := getSh _ _) rfl ?_ | with_reducible refine okK_bl ?_ | with_reducible refine o_eqs ?_)) <;> (try (conv => whnf))
          rfl
      | qu q x a => cases q <;> ((repeat' ((try (conv => whnf)) <;> first | refine okT_ct rfl ?_ | refine okT_cf rfl ?_ | refine okT_ct hN ?_ | refine okR_of (f2 _) ?_ | with_reducible refine stepE ?_ | with_reducible refine stepEs ?_ | with_reducible refine stepB ?_ | with_reducible refine stepS ?_ | refine okO_of (o := getSh _ _) rfl ?_ | with_reducible refine okK_bl ?_ | with_reducible refine o_eqs ?_)) <;> (try (conv => whnf)); rfl)
      | _ => (repeat' ((try (conv => whnf)) <;> first | refine okT_ct rfl ?_ | refine okT_cf rfl ?_ | refine okT_ct hN ?_ | refine okR_of (f2 _) ?_ | with_reducible refine stepE ?_ | with_reducible refine stepEs ?_ | with_reducible refine stepB ?_ | with_reducible refine stepS ?_ | refine okO_of (o := getSh _ _) rfl ?_ | with_reducible refine okK_bl ?_ | with_reducible refine o_eqs ?_)) <;> (try (conv => whnf)); rfl
    · show okB _ _ _ (c_by_one.start [.str sAny, S.enc, A.enc]) _
      cases A with
      | bin o a b => cases o <;> ((repeat' ((try (conv => whnf)) <;> first | refine okT_cf rfl ?_ | refine okR_of (f1 _) ?_ | with_reducible refine stepE ?_ | with_reducible refine stepEs ?_ | with_reducible refine stepB ?_ | with_reducible refine stepS ?_ | refine okO_of (o := getSh _ _) rfl ?_ | with_reducible refine o_eqs ?_)) <;> (try (conv => whnf)); rfl)
      | qu q x a => cases q <;> ((repeat' ((try (conv => whnf)) <;> first | refine okT_cf rfl ?_ | refine okR_of (f1 _) ?_ | with_reducible refine stepE ?_ | with_reducible refine stepEs ?_ | with_reducible refine stepB ?_ | with_reducible refine stepS ?_ | refine okO_of (o := getSh _ _) rfl ?_ | with_reducible refine o_eqs ?_)) <;> (try (conv => whnf)); rfl)
      | _ => (repeat' ((try (conv => whnf)) <;> first | refine okT_cf rfl ?_ | refine okR_of (f1 _) ?_ | with_reducible refine stepE ?_ | with_reducible refine stepEs ?_ | with_reducible refine stepB ?_ | with_reducible refine stepS ?_ | refine okO_of (o := getSh _ _) rfl ?_ | with_reducible refine o_eqs ?_)) <;> (try (conv => whnf)); rfl
theorem twoG_ok [Fn T 219 c_by_two] {n : Nat} (hn : 1 ≤ n) {S : Stm} (hS : StOk S) {A B : Option Stm} (hA : ∀ C, A = some C → StOk C) (hB : ∀ C, B = some C → StOk C) {r : List Nat} (hr : isIn (.str r) twos = true) : callF T gl n 219 [.str r, S.enc, eStm A, eStm B] = .ok (.bl (twoG r S A B)) := by
  refine eq_of_okR (okR_call (k := 0) hn rfl fun n hn => ?_)
  have hr := two_of hr
  cases A with
  | none =>
    show okB _ _ _ (c_by_two.start [.str r, S.enc, .non, eStm B]) _
    (repeat' ((try (conv => whnf)) <;> first | refine okT_ct rfl ?_ | with_reducible refine stepE ?_ | with_reducible refine stepB ?_ | with_reducible refine stepS ?_ | refine okO_of (o := getSh _ _) rfl ?_)) <;> (try (conv => whnf))
    rfl
  | some A =>
    have hA := hA A rfl
    have nA := isNon_enc A
    cases B with
    | none =>
      show okB _ _ _ (c_by_two.start [.str r, S.enc, A.enc, .non]) _
      (repeat' ((try (conv => whnf)) <;> first | refine okT_cf nA ?_ | refine okT_ct rfl ?_ | with_reducible refine stepE ?_ | with_reducible refine stepB ?_ | with_reducible refine stepS ?_ | refine okO_of (o := getSh _ _) rfl ?_ | with_reducible refine okK_bl ?_)) <;> (try (conv => whnf))
      rfl
    | some B =>
      have hB := hB B rfl
      have nB := isNon_enc B
      show okB _ _ _ (c_by_two.start [.str r, S.enc, A.enc, B.enc]) _
      rcases hr with rfl | rfl | rfl
      · (repeat' ((try (conv => whnf)) <;> first | refine okT_cf nA ?_ | refine okT_cf nB ?_ | refine o_eqS (B := .bin .and A B) hS ?_ | with_reducible refine stepE ?_ | with_reducible refine stepEs ?_ | with_reducible refine stepB ?_ | with_reducible refine stepS ?_ | refine okO_of (o := getSh _ _) rfl ?_ | with_reducible refine okK_bl ?_ | with_reducible refine okT_ct (by decide) ?_ | with_reducible refine o_eqs ?_)) <;> (try (conv => whnf))
        rfl
      · (repeat' ((try (conv => whnf)) <;> first | refine okT_cf nA ?_ | refine okT_cf nB ?_ | refine o_eqS (B := .bin .thn B S) hA ?_ | with_reducible refine stepE ?_ | with_reducible refine stepEs ?_ | with_reducible refine stepB ?_ | with_reducible refine stepS ?_ | refine okO_of (o := getSh _ _) rfl ?_ | with_reducible refine okK_bl ?_ | with_reducible refine okT_ct (by decide) ?_ | with_reducible refine okT_cf (by decide) ?_ | with_reducible refine o_eqs ?_)) <;> (try (conv => whnf))
        rfl
      · (repeat' ((try (conv => whnf)) <;> first | refine okT_cf nA ?_ | refine okT_cf nB ?_ | refine o_eqS (B := .fls) hS ?_ | refine o_eqS (B := .not A) hB ?_ | with_reducible refine stepE ?_ | with_reducible refine stepEs ?_ | with_reducible refine stepB ?_ | with_reducible refine stepS ?_ | refine okO_of (o := getSh _ _) rfl ?_ | with_reducible refine okK_bl ?_ | with_reducible refine okT_cf (by decide) ?_ | with_reducible refine okT_dec (fun hT => ?_) (fun hT => ?_) | with_reducible refine o_eqs ?_)) <;> (try (conv => whnf))
        · show _ = D.bl (decide (S = .fls) && decide (B = .not A))
          simp [hT]
        · show _ = D.bl (decide (S = .fls) && decide (B = .not A))
          simp [hT]
theorem eachG_ok [Gl gl 0 (.str small)] [Gl gl 2 (.str figs)] [Gl gl 3 (.tup (kept.map .str))] [Gl gl 4 (.int 8)] [Fn T 5 c_built] [Fn T 6 c_is_name] [Fn T 15 c_parts_of] [Fn T 35 c_put] [Fn T 210 c_names_one] [Fn T 212 c_is_form] [Fn T 222 c_by_each] {n : Nat} (hn : 110 ≤ n) {S : Stm} (hS : StOk S) {A : Option Stm} (hA : ∀ B, A = some B → StOk B) {y : D} (hy : flatD y = true) :
    callF T gl n 222 [eStm A, S.enc, y] = .ok (.bl (eachG S A y)) := by
  refine eq_of_okR (okR_call (k := 109) hn rfl fun n hn => ?_)
  have f1 := is_form_ok (T := T) (gl := gl) (n := n) (by omega) A
  have ny := nameG_ok (T := T) (gl := gl) (n := n) (by omega) hy
  cases A with
  | none =>
    show okB _ _ _ (c_by_each.start [.non, S.enc, y]) _
    simp only [eStm] at f1
    (repeat' ((try (conv => whnf)) <;> first | refine okR_of (f1 _) ?_ | with_reducible refine stepE ?_ | with_reducible refine stepEs ?_ | with_reducible refine stepB ?_ | with_reducible refine stepS ?_ | refine okO_of (o := getSh _ _) rfl ?_ | with_reducible refine okT_ff ?_)) <;> (try (conv => whnf))
    rfl
  | some A =>
    have hA := hA A rfl
    simp only [eStm] at f1
    show okB _ _ _ (c_by_each.start [A.enc, S.enc, y]) _
    cases A with
    | bin o a b => cases o <;> ((repeat' ((try (conv => whnf)) <;> first | refine okT_cf rfl ?_ | refine okR_of (f1 _) ?_ | with_reducible refine stepE ?_ | with_reducible refine stepEs ?_ | with_reducible refine stepB ?_ | with_reducible refine stepS ?_ | refine okO_of (o := getSh _ _) rfl ?_)) <;> (try (conv => whnf)); rfl)
    | qu q x a =>
      cases q
      · (repeat' ((try (conv => whnf)) <;> first | refine okT_cf rfl ?_ | refine okR_of (f1 _) ?_ | with_reducible refine stepE ?_ | with_reducible refine stepEs ?_ | with_reducible refine stepB ?_ | with_reducible refine stepS ?_ | refine okO_of (o := getSh _ _) rfl ?_)) <;> (try (conv => whnf)); rfl
      · cases y with
        | tup _ => cases hy
        | lst _ => cases hy
        | str t =>
          have ny : callF T gl n 210 [.str t] = .ok (.bl (nameS t)) := ny
          have pt := put_ok (T := T) (gl := gl) x t a (n := n) (by have := hA.q.dp; omega)
          cases ht : nameS t
          · rw [ht] at ny
            (repeat' ((try (conv => whnf)) <;> first | refine okT_ct rfl ?_ | refine okT_cf rfl ?_ | refine okR_of (f1 _) ?_ | refine okR_of (ny) ?_ | with_reducible refine stepE ?_ | with_reducible refine stepEs ?_ | with_reducible refine stepB ?_ | with_reducible refine stepS ?_ | refine okO_of (o := getSh _ _) rfl ?_ | with_reducible refine okK_bl ?_)) <;> (try (conv => whnf))
            show _ = D.bl (nameS t && _)
            rw [ht]; rfl
          · rw [ht] at ny
            (repeat' ((try (conv => whnf)) <;> first | refine okT_ct rfl ?_ | refine enc_0 (d := a.enc) rfl ?_ | refine enc_0 (d := .str x) rfl ?_ | refine o_eqS hS ?_ | refine okR_of (f1 _) ?_ | refine okR_of (ny) ?_ | refine okR_of (pt) ?_ | with_reducible refine stepE ?_ | with_reducible refine stepEs ?_ | with_reducible refine stepB ?_ | with_reducible refine stepS ?_ | refine okO_of (o := getSh _ _) rfl ?_ | with_reducible refine okK_bl ?_)) <;> (try (conv => whnf))
            show _ = D.bl (nameS t && _)
            rw [ht]; rfl
        | _ => (repeat' ((try (conv => whnf)) <;> first | refine okT_ct rfl ?_ | refine okT_cf rfl ?_ | refine okR_of (f1 _) ?_ | refine okR_of (ny) ?_ | with_reducible refine stepE ?_ | with_reducible refine stepEs ?_ | with_reducible refine stepB ?_ | with_reducible refine stepS ?_ | refine okO_of (o := getSh _ _) rfl ?_ | with_reducible refine okK_bl ?_)) <;> (try (conv => whnf)); rfl
    | _ => (repeat' ((try (conv => whnf)) <;> first | refine okT_cf rfl ?_ | refine okR_of (f1 _) ?_ | with_reducible refine stepE ?_ | with_reducible refine stepEs ?_ | with_reducible refine stepB ?_ | with_reducible refine stepS ?_ | refine okO_of (o := getSh _ _) rfl ?_)) <;> (try (conv => whnf)); rfl
theorem someG_ok [Gl gl 0 (.str small)] [Gl gl 2 (.str figs)] [Gl gl 3 (.tup (kept.map .str))] [Gl gl 4 (.int 8)] [Fn T 5 c_built] [Fn T 6 c_is_name] [Fn T 15 c_parts_of] [Fn T 35 c_put] [Fn T 210 c_names_one] [Fn T 212 c_is_form] [Fn T 223 c_by_some] {n : Nat} (hn : 110 ≤ n) {S : Stm} (hS : StOk S) {A : Option Stm} (hA : ∀ B, A = some B → StOk B) {y : D} (hy : flatD y = true) :
    callF T gl n 223 [eStm A, S.enc, y] = .ok (.bl (someG S A y)) := by
  refine eq_of_okR (okR_call (k := 109) hn rfl fun n hn => ?_)
  have f1 := is_form_ok (T := T) (gl := gl) (n := n) (by omega) (some S)
  have ny := nameG_ok (T := T) (gl := gl) (n := n) (by omega) hy
  simp only [eStm] at f1
  cases A with
  | none =>
    show okB _ _ _ (c_by_some.start [.non, S.enc, y]) _
    (repeat' ((try (conv => whnf)) <;> first | with_reducible refine stepE ?_ | with_reducible refine stepB ?_ | with_reducible refine stepS ?_ | refine okO_of (o := getSh _ _) rfl ?_ | with_reducible refine okT_cf (by decide) ?_)) <;> (try (conv => whnf))
    show D.bl false = D.bl (someG S none y)
    cases y <;> try rfl
    cases S <;> try rfl
    rename_i t q x a
    cases q <;> simp [someG]
  | some A =>
    have hA := hA A rfl
    have hN : (!isNon A.enc) = true := by rw [isNon_enc]; rfl
    show okB _ _ _ (c_by_some.start [A.enc, S.enc, y]) _
    cases S with
    | bin o a b => cases o <;> ((repeat' ((try (conv => whnf)) <;> first | refine okT_ct hN ?_ | refine okT_cf rfl ?_ | refine okR_of (f1 _) ?_ | with_reducible refine stepE ?_ | with_reducible refine stepEs ?_ | with_reducible refine stepB ?_ | with_reducible refine stepS ?_ | refine okO_of (o := getSh _ _) rfl ?_ | with_reducible refine okK_bl ?_)) <;> (try (conv => whnf)); cases y <;> rfl)
    | qu q x a =>
      cases q
      · cases y with
        | tup _ => cases hy
        | lst _ => cases hy
        | str t =>
          have ny : callF T gl n 210 [.str t] = .ok (.bl (nameS t)) := ny
          have pt := put_ok (T := T) (gl := gl) x t a (n := n) (by have := hS.q.dp; omega)
          cases ht : nameS t
          · rw [ht] at ny
            (repeat' ((try (conv => whnf)) <;> first | refine okT_ct hN ?_ | refine okT_ct rfl ?_ | refine okT_cf rfl ?_ | refine okR_of (f1 _) ?_ | refine okR_of (ny) ?_ | with_reducible refine stepE ?_ | with_reducible refine stepEs ?_ | with_reducible refine stepB ?_ | with_reducible refine stepS ?_ | refine okO_of (o := getSh _ _) rfl ?_ | with_reducible refine okK_bl ?_)) <;> (try (conv => whnf))
            show _ = D.bl (nameS t && _)
            rw [ht]; rfl
          · rw [ht] at ny
            (repeat' ((try (conv => whnf)) <;> first | refine okT_ct hN ?_ | refine okT_ct rfl ?_ | refine enc_0 (d := a.enc) rfl ?_ | refine enc_0 (d := .str x) rfl ?_ | refine o_eqS hA ?_ | refine okR_of (f1 _) ?_ | refine okR_of (ny) ?_ | refine okR_of (pt) ?_ | with_reducible refine stepE ?_ | with_reducible refine stepEs ?_ | with_reducible refine stepB ?_ | with_reducible refine stepS ?_ | refine okO_of (o := getSh _ _) rfl ?_ | with_reducible refine okK_bl ?_)) <;> (try (conv => whnf))
            show _ = D.bl (nameS t && decide (some A = some _))
            rw [ht]; simp
        | _ => (repeat' ((try (conv => whnf)) <;> first | refine okT_ct hN ?_ | refine okT_ct rfl ?_ | refine okT_cf rfl ?_ | refine okR_of (f1 _) ?_ | refine okR_of (ny) ?_ | with_reducible refine stepE ?_ | with_reducible refine stepEs ?_ | with_reducible refine stepB ?_ | with_reducible refine stepS ?_ | refine okO_of (o := getSh _ _) rfl ?_ | with_reducible refine okK_bl ?_)) <;> (try (conv => whnf)); rfl
      · (repeat' ((try (conv => whnf)) <;> first | refine okT_ct hN ?_ | refine okT_cf rfl ?_ | refine okR_of (f1 _) ?_ | with_reducible refine stepE ?_ | with_reducible refine stepEs ?_ | with_reducible refine stepB ?_ | with_reducible refine stepS ?_ | refine okO_of (o := getSh _ _) rfl ?_ | with_reducible refine okK_bl ?_)) <;> (try (conv => whnf)); cases y <;> rfl
    | _ => (repeat' ((try (conv => whnf)) <;> first | refine okT_ct hN ?_ | refine okT_cf rfl ?_ | refine okR_of (f1 _) ?_ | with_reducible refine stepE ?_ | with_reducible refine stepEs ?_ | with_reducible refine stepB ?_ | with_reducible refine stepS ?_ | refine okO_of (o := getSh _ _) rfl ?_ | with_reducible refine okK_bl ?_)) <;> (try (conv => whnf)); cases y <;> rfl
end
end Ev

/-! Whether a line follows, the whole: by boxes, and all. -/
namespace Ev
section
variable {T : Nat → Option FD} {gl : Nat → Option D}
/-- what these lines and paths are -/
structure LpOk (ls : List Lg) (ps : List (List Nat)) (k : Nat) : Prop where
  ln : ∀ l ∈ ls, LgOk l
  z : ps.length ≤ line
  le : ps.length ≤ ls.length
  k : k < ps.length
theorem LpOk.kl {ls : List Lg} {ps : List (List Nat)} {k : Nat} (h : LpOk ls ps k) : k < ls.length := Nat.lt_of_lt_of_le h.k h.le
theorem LpOk.rf {ls : List Lg} {ps : List (List Nat)} {k : Nat} (h : LpOk ls ps k) {x : D} (hx : x ∈ (ls[k]'h.kl).refs) : flatD x = true := (h.ln _ (List.getElem_mem h.kl)).refs.2 x hx
theorem boxNameG_ok [Gl gl 0 (.str small)] [Gl gl 2 (.str figs)] [Gl gl 3 (.tup (kept.map .str))] [Gl gl 4 (.int 8)] [Fn T 5 c_built] [Fn T 6 c_is_name] [Fn T 140 c_opens] [Fn T 154 c_begins] [Fn T 157 c_box_seen] [Fn T 209 c_is_number_v1] [Fn T 210 c_names_one] [Fn T 213 c_is_box] [Fn T 224 c_box_name] {n : Nat} (hn : 4 ≤ n) {ls : List Lg} {ps : List (List Nat)} {k : Nat} (h : LpOk ls ps k) {r : D} (hr : flatD r = true) (ru : List Nat) :
    callF T gl n 224 [.tup (ls.map Lg.enc), ePaths ps, .int (k : Int), r, .str ru] = .ok (.str ((boxNameG ls ps k r ru).getD [])) := by
  refine eq_of_okR (okR_call (k := 3) hn rfl fun n hn => ?_)
  have hk := h.kl
  have bx := isBoxG_ok (T := T) (gl := gl) (n := n) (by omega) hk h.k hr
  unfold boxNameG
  cases hb : boxG ls ps k r with
  | none =>
    rw [hb] at bx
    (repeat' ((try (conv => whnf)) <;> first | refine okR_of (bx) ?_ | with_reducible refine stepE ?_ | with_reducible refine stepEs ?_ | with_reducible refine stepB ?_ | with_reducible refine stepS ?_ | refine okO_of (o := getSh _ _) rfl ?_ | with_reducible refine okK_bl ?_ | with_reducible refine okT_tt ?_ | with_reducible refine okT_ct (by decide) ?_)) <;> (try (conv => whnf))
    rfl
  | some b =>
    rw [hb] at bx
    obtain ⟨hlt, rfl⟩ := boxG_lt hb
    have hbl : b < ls.length := by omega
    obtain ⟨e1, e2, e3⟩ := stAt_get hbl
    simp only [e2, e3]
    have bx : callF T gl n 213 [.tup (ls.map Lg.enc), ePaths ps, .int (k : Int), .int (b : Int)] = .ok (.bl true) := bx
    have hlb := h.ln ls[b] (List.getElem_mem hbl)
    cases hg : ls[b].rule == ru
    · have hg2 : (!(ls[b].rule == ru)) = true := by rw [hg]; rfl
      (repeat' ((try (conv => whnf)) <;> first | refine o_gt hbl ?_ | refine o_g1 ?_ | refine okT_ct hg2 ?_ | refine okR_of (bx) ?_ | with_reducible refine stepE ?_ | with_reducible refine stepEs ?_ | with_reducible refine stepB ?_ | with_reducible refine stepS ?_ | refine okO_of (o := getSh _ _) rfl ?_ | with_reducible refine okK_bl ?_ | with_reducible refine okT_ntt ?_ | with_reducible refine o_nes ?_)) <;> (try (conv => whnf))
      rfl
    · have hg2 : (!(ls[b].rule == ru)) = false := by rw [hg]; rfl
      by_cases h1 : ls[b].refs.length = 1
      · obtain ⟨x, hf⟩ := List.length_eq_one_iff.mp h1
        have hx := hlb.refs.2 x (by rw [hf]; simp)
        have nm := nameG_ok (T := T) (gl := gl) (n := n) (by omega) hx
        rw [hf]
        by_cases hs : ∃ t, x = .str t
        · obtain ⟨t, rfl⟩ := hs
          have nm : callF T gl n 210 [.str t] = .ok (.bl (nameS t)) := nm
          cases hn2 : nameS t
          · rw [hn2] at nm
            (repeat' ((try (conv => whnf)) <;> first | refine o_gt hbl ?_ | refine o_g1 ?_ | refine okT_cf hg2 ?_ | refine o_g3r hf ?_ | refine okT_cf rfl ?_ | refine okR_of (bx) ?_ | refine okR_of (nm) ?_ | with_reducible refine stepE ?_ | with_reducible refine stepEs ?_ | with_reducible refine stepB ?_ | with_reducible refine stepS ?_ | refine okO_of (o := getSh _ _) rfl ?_ | with_reducible refine okK_bl ?_ | with_reducible refine okT_nff ?_ | with_reducible refine o_nei ?_ | with_reducible refine o_nes ?_ | refine okO_of (o := opIx (.tup (_ :: _)) _) rfl ?_ | refine okO_of (o := opF _ _) rfl ?_)) <;> (try (conv => whnf))
            simp [nameRef, hn2]
          · rw [hn2] at nm
            (repeat' ((try (conv => whnf)) <;> first | refine o_gt hbl ?_ | refine o_g1 ?_ | refine okT_cf hg2 ?_ | refine o_g3r hf ?_ | refine okT_cf rfl ?_ | refine okR_of (bx) ?_ | refine okR_of (nm) ?_ | with_reducible refine stepE ?_ | with_reducible refine stepEs ?_ | with_reducible refine stepB ?_ | with_reducible refine stepS ?_ | refine okO_of (o := getSh _ _) rfl ?_ | with_reducible refine okK_bl ?_ | with_reducible refine o_nei ?_ | with_reducible refine o_nes ?_ | refine okO_of (o := opIx (.tup (_ :: _)) _) rfl ?_ | refine okO_of (o := opF _ _) rfl ?_)) <;> (try (conv => whnf))
            simp [nameRef, hn2]
        · have e1 : nameRef [x] = none := by cases x <;> first | rfl | exact absurd ⟨_, rfl⟩ hs
          have e2 : callF T gl n 210 [x] = .ok (.bl false) := by cases x <;> first | exact nm | exact absurd ⟨_, rfl⟩ hs
          (repeat' ((try (conv => whnf)) <;> first | refine o_gt hbl ?_ | refine o_g1 ?_ | refine okT_cf hg2 ?_ | refine o_g3r hf ?_ | refine okT_cf rfl ?_ | refine okR_of (bx) ?_ | refine okR_of (e2) ?_ | with_reducible refine stepE ?_ | with_reducible refine stepEs ?_ | with_reducible refine stepB ?_ | with_reducible refine stepS ?_ | refine okO_of (o := getSh _ _) rfl ?_ | with_reducible refine okK_bl ?_ | with_reducible refine okT_nff ?_ | with_reducible refine o_nei ?_ | with_reducible refine o_nes ?_ | refine okO_of (o := opIx (.tup (_ :: _)) _) rfl ?_ | refine okO_of (o := opF _ _) rfl ?_)) <;> (try (conv => whnf))
          simp [e1]
      · have e : nameRef ls[b].refs = none := by
          generalize ls[b].refs = l at h1
          match l, h1 with
          | [], _ => rfl
          | [_], h => simp at h
          | a :: _ :: _, _ => cases a <;> rfl
        have h2 : decide ((ls[b].refs.length : Int) ≠ 1) = true := by simp; omega
        rw [e]
        (repeat' ((try (conv => whnf)) <;> first | refine o_gt hbl ?_ | refine o_g1 ?_ | refine okT_cf hg2 ?_ | refine o_g3 ?_ | refine okT_ct h2 ?_ | refine okR_of (bx) ?_ | with_reducible refine stepE ?_ | with_reducible refine stepEs ?_ | with_reducible refine stepB ?_ | with_reducible refine stepS ?_ | refine okO_of (o := getSh _ _) rfl ?_ | with_reducible refine okK_bl ?_ | with_reducible refine okT_tt ?_ | with_reducible refine okT_ntt ?_ | with_reducible refine o_nei ?_ | with_reducible refine o_nes ?_ | refine okO_of (o := opF _ _) rfl ?_)) <;> (try (conv => whnf))
        rfl
theorem byBox_ok [Fn T 140 c_opens] [Fn T 154 c_begins] [Fn T 157 c_box_seen] [Fn T 159 c_end_of] [Fn T 209 c_is_number_v1] [Fn T 212 c_is_form] [Fn T 213 c_is_box] [Fn T 214 c_closes] [Fn T 220 c_by_box] {n : Nat} (hn : 5 ≤ n) {ls : List Lg} {ps : List (List Nat)} {k : Nat} (h : LpOk ls ps k) {S : Stm} (hs : (ls[k]'h.kl).st = some S) {r : List Nat} (hr : (ls[k]'h.kl).rule = r) (h3 : r = sThen ∨ r = sDeny ∨ r = sAbsurd) {x : D} (hx : (ls[k]'h.kl).refs = [x]) :
    callF T gl n 220 [.tup (ls.map Lg.enc), ePaths ps, .int (k : Int)] = .ok (.bl (byG ls ps k r S [x])) := by
  refine eq_of_okR (okR_call (k := 4) hn rfl fun n hn => ?_)
  have hk := h.kl
  have hS := (h.ln _ (List.getElem_mem hk)).st S hs
  have fx : flatD x = true := h.rf (by rw [hx]; simp)
  have f1 := is_form_ok (T := T) (gl := gl) (n := n) (by omega) (some S)
  simp only [eStm] at f1
  have cl := fun {A B : Stm} hA hB => closesG_ok (T := T) (gl := gl) (n := n) (by omega) h.ln h.z h.le hk h.k fx (A := A) (B := B) hA hB
  have d0 := hS.dp
  rcases h3 with rfl | rfl | rfl
  · rw [show byG ls ps k sThen S [x] = thenG ls ps k x S from rfl]
    cases S with
    | bin o a b =>
      cases o
      · (repeat' ((try (conv => whnf)) <;> first | refine o_gt hk ?_ | refine o_g1r hr ?_ | refine o_g2s hs ?_ | refine o_g3r hx ?_ | refine okT_ct rfl ?_ | refine okT_cf rfl ?_ | refine okR_of (f1 _) ?_ | with_reducible refine stepE ?_ | with_reducible refine stepEs ?_ | with_reducible refine stepB ?_ | with_reducible refine stepS ?_ | refine okO_of (o := getSh _ _) rfl ?_ | with_reducible refine o_eqs ?_ | refine okO_of (o := opIx (.tup (_ :: _)) _) rfl ?_)) <;> (try (conv => whnf)); rfl
      · (repeat' ((try (conv => whnf)) <;> first | refine o_gt hk ?_ | refine o_g1r hr ?_ | refine o_g2s hs ?_ | refine o_g3r hx ?_ | refine okT_ct rfl ?_ | refine okT_cf rfl ?_ | refine okR_of (f1 _) ?_ | with_reducible refine stepE ?_ | with_reducible refine stepEs ?_ | with_reducible refine stepB ?_ | with_reducible refine stepS ?_ | refine okO_of (o := getSh _ _) rfl ?_ | with_reducible refine o_eqs ?_ | refine okO_of (o := opIx (.tup (_ :: _)) _) rfl ?_)) <;> (try (conv => whnf)); rfl
      · have c := cl (A := a) (B := b) (by have := hS.l.dp; omega) (by have := hS.r.dp; omega)
        (repeat' ((try (conv => whnf)) <;> first | refine o_gt hk ?_ | refine o_g1r hr ?_ | refine o_g2s hs ?_ | refine o_g3r hx ?_ | refine okT_ct rfl ?_ | refine enc_0 (d := a.enc) rfl ?_ | refine enc_0 (d := b.enc) rfl ?_ | refine okR_of (f1 _) ?_ | refine okR_of (c) ?_ | with_reducible refine stepE ?_ | with_reducible refine stepEs ?_ | with_reducible refine stepB ?_ | with_reducible refine stepS ?_ | refine okO_of (o := getSh _ _) rfl ?_ | with_reducible refine okK_bl ?_ | with_reducible refine o_eqs ?_ | refine okO_of (o := opIx (.tup (_ :: _)) _) rfl ?_)) <;> (try (conv => whnf))
        rfl
    | qu q y a => cases q <;> ((repeat' ((try (conv => whnf)) <;> first | refine o_gt hk ?_ | refine o_g1r hr ?_ | refine o_g2s hs ?_ | refine o_g3r hx ?_ | refine okT_ct rfl ?_ | refine okT_cf rfl ?_ | refine okR_of (f1 _) ?_ | with_reducible refine stepE ?_ | with_reducible refine stepEs ?_ | with_reducible refine stepB ?_ | with_reducible refine stepS ?_ | refine okO_of (o := getSh _ _) rfl ?_ | with_reducible refine o_eqs ?_ | refine okO_of (o := opIx (.tup (_ :: _)) _) rfl ?_)) <;> (try (conv => whnf)); rfl)
    | _ => (repeat' ((try (conv => whnf)) <;> first | refine o_gt hk ?_ | refine o_g1r hr ?_ | refine o_g2s hs ?_ | refine o_g3r hx ?_ | refine okT_ct rfl ?_ | refine okT_cf rfl ?_ | refine okR_of (f1 _) ?_ | with_reducible refine stepE ?_ | with_reducible refine stepEs ?_ | with_reducible refine stepB ?_ | with_reducible refine stepS ?_ | refine okO_of (o := getSh _ _) rfl ?_ | with_reducible refine o_eqs ?_ | refine okO_of (o := opIx (.tup (_ :: _)) _) rfl ?_)) <;> (try (conv => whnf)); rfl
  · rw [show byG ls ps k sDeny S [x] = denyG ls ps k x S from rfl]
    cases S with
    | not a =>
      have c := cl (A := a) (B := .fls) (by have := hS.not_.dp; omega) (by simp [Stm.dp])
      have c : callF T gl n 214 [.tup (ls.map Lg.enc), ePaths ps, .int (k : Int), x, a.enc, .tup [.str [102, 97, 108, 115, 101]]] = _ := c
      (repeat' ((try (conv => whnf)) <;> first | refine o_gt hk ?_ | refine o_g1r hr ?_ | refine o_g2s hs ?_ | refine o_g3r hx ?_ | refine okT_ct rfl ?_ | refine okT_cf rfl ?_ | refine enc_0 (d := a.enc) rfl ?_ | refine okR_of (f1 _) ?_ | refine okR_of (c) ?_ | with_reducible refine stepE ?_ | with_reducible refine stepEs ?_ | with_reducible refine stepB ?_ | with_reducible refine stepS ?_ | refine okO_of (o := getSh _ _) rfl ?_ | with_reducible refine okK_bl ?_ | with_reducible refine o_eqs ?_ | refine okO_of (o := opIx (.tup (_ :: _)) _) rfl ?_)) <;> (try (conv => whnf))
      rfl
    | qu q y a => cases q <;> ((repeat' ((try (conv => whnf)) <;> first | refine o_gt hk ?_ | refine o_g1r hr ?_ | refine o_g2s hs ?_ | refine o_g3r hx ?_ | refine okT_ct rfl ?_ | refine okT_cf rfl ?_ | refine okR_of (f1 _) ?_ | with_reducible refine stepE ?_ | with_reducible refine stepEs ?_ | with_reducible refine stepB ?_ | with_reducible refine stepS ?_ | refine okO_of (o := getSh _ _) rfl ?_ | with_reducible refine o_eqs ?_ | refine okO_of (o := opIx (.tup (_ :: _)) _) rfl ?_)) <;> (try (conv => whnf)); rfl)
    | bin o a b => cases o <;> ((repeat' ((try (conv => whnf)) <;> first | refine o_gt hk ?_ | refine o_g1r hr ?_ | refine o_g2s hs ?_ | refine o_g3r hx ?_ | refine okT_ct rfl ?_ | refine okT_cf rfl ?_ | refine okR_of (f1 _) ?_ | with_reducible refine stepE ?_ | with_reducible refine stepEs ?_ | with_reducible refine stepB ?_ | with_reducible refine stepS ?_ | refine okO_of (o := getSh _ _) rfl ?_ | with_reducible refine o_eqs ?_ | refine okO_of (o := opIx (.tup (_ :: _)) _) rfl ?_)) <;> (try (conv => whnf)); rfl)
    | _ => (repeat' ((try (conv => whnf)) <;> first | refine o_gt hk ?_ | refine o_g1r hr ?_ | refine o_g2s hs ?_ | refine o_g3r hx ?_ | refine okT_ct rfl ?_ | refine okT_cf rfl ?_ | refine okR_of (f1 _) ?_ | with_reducible refine stepE ?_ | with_reducible refine stepEs ?_ | with_reducible refine stepB ?_ | with_reducible refine stepS ?_ | refine okO_of (o := getSh _ _) rfl ?_ | with_reducible refine o_eqs ?_ | refine okO_of (o := opIx (.tup (_ :: _)) _) rfl ?_)) <;> (try (conv => whnf)); rfl
  · have e : byG ls ps k sAbsurd S [x] = closesG ls ps k x (.not S) .fls := rfl
    rw [e]
    have c := cl (A := .not S) (B := .fls) (by have := hS.dp; simp only [Stm.dp]; omega) (by simp [Stm.dp])
    have c : callF T gl n 214 [.tup (ls.map Lg.enc), ePaths ps, .int (k : Int), x, .tup [.str [110, 111, 116], S.enc], .tup [.str [102, 97, 108, 115, 101]]] = _ := c
    (repeat' ((try (conv => whnf)) <;> first | refine o_gt hk ?_ | refine o_g1r hr ?_ | refine o_g2s hs ?_ | refine o_g3r hx ?_ | refine okR_of (c) ?_ | with_reducible refine stepE ?_ | with_reducible refine stepEs ?_ | with_reducible refine stepB ?_ | with_reducible refine stepS ?_ | refine okO_of (o := getSh _ _) rfl ?_ | with_reducible refine okT_cf (by decide) ?_ | with_reducible refine o_eqs ?_ | refine okO_of (o := opIx (.tup (_ :: _)) _) rfl ?_)) <;> (try (conv => whnf))
theorem byCases_ok [Fn T 140 c_opens] [Fn T 154 c_begins] [Fn T 155 c_seen] [Fn T 157 c_box_seen] [Fn T 159 c_end_of] [Fn T 209 c_is_number_v1] [Fn T 211 c_told] [Fn T 212 c_is_form] [Fn T 213 c_is_box] [Fn T 214 c_closes] [Fn T 221 c_by_cases] {n : Nat} (hn : 5 ≤ n) {ls : List Lg} {ps : List (List Nat)} {k : Nat} (h : LpOk ls ps k) {S : Stm} (hs : (ls[k]'h.kl).st = some S) {x y z : D} (hx : (ls[k]'h.kl).refs = [x, y, z]) :
    callF T gl n 221 [.tup (ls.map Lg.enc), ePaths ps, .int (k : Int)] = .ok (.bl (byG ls ps k sCases S [x, y, z])) := by
  refine eq_of_okR (okR_call (k := 4) hn rfl fun n hn => ?_)
  rw [show byG ls ps k sCases S [x, y, z] = casesG ls ps k S y z (toldG ls ps k x) from rfl]
  have hk := h.kl
  have hS := (h.ln _ (List.getElem_mem hk)).st S hs
  have fx : flatD x = true := h.rf (by rw [hx]; simp)
  have fy : flatD y = true := h.rf (by rw [hx]; simp)
  have fz : flatD z = true := h.rf (by rw [hx]; simp)
  have td := toldG_call (T := T) (gl := gl) (n := n) (by omega) hk h.k fx
  have tdo := fun {A : Stm} (e : toldG ls ps k x = some A) => toldG_ok h.ln e
  generalize toldG ls ps k x = A at td tdo ⊢
  have f1 := is_form_ok (T := T) (gl := gl) (n := n) (by omega) A
  have cl := fun {x : D} fx {A B : Stm} hA hB => closesG_ok (T := T) (gl := gl) (n := n) (by omega) h.ln h.z h.le hk h.k (r := x) fx (A := A) (B := B) hA hB
  cases A with
  | none =>
    simp only [eStm] at f1 td
    (repeat' ((try (conv => whnf)) <;> first | refine o_gt hk ?_ | refine o_g2s hs ?_ | refine o_g3r hx ?_ | refine okR_of (td) ?_ | refine okR_of (f1 _) ?_ | with_reducible refine stepE ?_ | with_reducible refine stepEs ?_ | with_reducible refine stepB ?_ | with_reducible refine stepS ?_ | refine okO_of (o := getSh _ _) rfl ?_ | with_reducible refine okK_bl ?_ | with_reducible refine okT_nff ?_ | refine okO_of (o := opIx (.tup (_ :: _)) _) rfl ?_)) <;> (try (conv => whnf))
    rfl
  | some A =>
    have hA := tdo rfl
    simp only [eStm] at f1 td
    cases A with
    | bin o a b =>
      cases o
      · (repeat' ((try (conv => whnf)) <;> first | refine o_gt hk ?_ | refine o_g2s hs ?_ | refine o_g3r hx ?_ | refine okT_ct rfl ?_ | refine okR_of (td) ?_ | refine okR_of (f1 _) ?_ | with_reducible refine stepE ?_ | with_reducible refine stepEs ?_ | with_reducible refine stepB ?_ | with_reducible refine stepS ?_ | refine okO_of (o := getSh _ _) rfl ?_ | with_reducible refine okK_bl ?_ | refine okO_of (o := opIx (.tup (_ :: _)) _) rfl ?_)) <;> (try (conv => whnf))
        rfl
      · have d1 := hA.l.dp
        have d2 := hA.r.dp
        have d3 := hS.dp
        have c1 := cl (x := y) fy (A := a) (B := S) (by omega) (by omega)
        have c2 := cl (x := z) fz (A := b) (B := S) (by omega) (by omega)
        (repeat' ((try (conv => whnf)) <;> first | refine o_gt hk ?_ | refine o_g2s hs ?_ | refine o_g3r hx ?_ | refine okT_cf rfl ?_ | refine enc_0 (d := a.enc) rfl ?_ | refine enc_0 (d := b.enc) rfl ?_ | refine okR_of (td) ?_ | refine okR_of (f1 _) ?_ | refine okR_of (c1) ?_ | refine okR_of (c2) ?_ | with_reducible refine stepE ?_ | with_reducible refine stepEs ?_ | with_reducible refine stepB ?_ | with_reducible refine stepS ?_ | refine okO_of (o := getSh _ _) rfl ?_ | with_reducible refine okK_bl ?_ | with_reducible refine okT_bl (fun hT => ?_) (fun hT => ?_) | refine okO_of (o := opIx (.tup (_ :: _)) _) rfl ?_)) <;> (try (conv => whnf))
        · show _ = D.bl (closesG ls ps k y a S && closesG ls ps k z b S)
          simp [hT]
        · show _ = D.bl (closesG ls ps k y a S && closesG ls ps k z b S)
          simp [hT]
      · (repeat' ((try (conv => whnf)) <;> first | refine o_gt hk ?_ | refine o_g2s hs ?_ | refine o_g3r hx ?_ | refine okT_ct rfl ?_ | refine okR_of (td) ?_ | refine okR_of (f1 _) ?_ | with_reducible refine stepE ?_ | with_reducible refine stepEs ?_ | with_reducible refine stepB ?_ | with_reducible refine stepS ?_ | refine okO_of (o := getSh _ _) rfl ?_ | with_reducible refine okK_bl ?_ | refine okO_of (o := opIx (.tup (_ :: _)) _) rfl ?_)) <;> (try (conv => whnf))
        rfl
    | qu q y a => cases q <;> ((repeat' ((try (conv => whnf)) <;> first | refine o_gt hk ?_ | refine o_g2s hs ?_ | refine o_g3r hx ?_ | refine okT_ct rfl ?_ | refine okR_of (td) ?_ | refine okR_of (f1 _) ?_ | with_reducible refine stepE ?_ | with_reducible refine stepEs ?_ | with_reducible refine stepB ?_ | with_reducible refine stepS ?_ | refine okO_of (o := getSh _ _) rfl ?_ | with_reducible refine okK_bl ?_ | refine okO_of (o := opIx (.tup (_ :: _)) _) rfl ?_)) <;> (try (conv => whnf)); rfl)
    | _ => (repeat' ((try (conv => whnf)) <;> first | refine o_gt hk ?_ | refine o_g2s hs ?_ | refine o_g3r hx ?_ | refine okT_ct rfl ?_ | refine okR_of (td) ?_ | refine okR_of (f1 _) ?_ | with_reducible refine stepE ?_ | with_reducible refine stepEs ?_ | with_reducible refine stepB ?_ | with_reducible refine stepS ?_ | refine okO_of (o := getSh _ _) rfl ?_ | with_reducible refine okK_bl ?_ | refine okO_of (o := opIx (.tup (_ :: _)) _) rfl ?_)) <;> (try (conv => whnf)); rfl
end
end Ev

/-! Whether a line follows, the whole: by named boxes, by lines, and all. -/
namespace Ev
section
variable {T : Nat → Option FD} {gl : Nat → Option D}
theorem byEvery_ok [Gl gl 0 (.str small)] [Gl gl 2 (.str figs)] [Gl gl 3 (.tup (kept.map .str))] [Gl gl 4 (.int 8)] [Fn T 5 c_built] [Fn T 6 c_is_name] [Fn T 15 c_parts_of] [Fn T 27 c_rising] [Fn T 28 c_names_in] [Fn T 35 c_put] [Fn T 140 c_opens] [Fn T 154 c_begins] [Fn T 157 c_box_seen] [Fn T 159 c_end_of] [Fn T 209 c_is_number_v1] [Fn T 210 c_names_one] [Fn T 212 c_is_form] [Fn T 213 c_is_box] [Fn T 224 c_box_name] [Fn T 225 c_by_every] {n : Nat} (hn : 110 ≤ n) {ls : List Lg} {ps : List (List Nat)} {k : Nat} (h : LpOk ls ps k) {S : Stm} (hs : (ls[k]'h.kl).st = some S) {x : D} (hx : (ls[k]'h.kl).refs = [x]) :
    callF T gl n 225 [.tup (ls.map Lg.enc), ePaths ps, .int (k : Int)] = .ok (.bl (byG ls ps k sEvery S [x])) := by
  refine eq_of_okR (okR_call (k := 109) hn rfl fun n hn => ?_)
  rw [show byG ls ps k sEvery S [x] = everyG ls ps k x S (boxNameG ls ps k x newR) from rfl]
  have hk := h.kl
  have hS := (h.ln _ (List.getElem_mem hk)).st S hs
  have d0 := hS.dp
  have fx : flatD x = true := h.rf (by rw [hx]; simp)
  have f1 := is_form_ok (T := T) (gl := gl) (n := n) (by omega) (some S)
  simp only [eStm] at f1
  have bn := boxNameG_ok (T := T) (gl := gl) (n := n) (by omega) h fx newR
  have nm := names_in_ok (T := T) (gl := gl) S (n := n) (by omega) hS.wf hS.sz
  cases hb : boxNameG ls ps k x newR with
  | none =>
    rw [hb] at bn
    have bn : callF T gl n 224 [.tup (ls.map Lg.enc), ePaths ps, .int (k : Int), x, .str [110, 101, 119]] = .ok (.str []) := bn
    (repeat' ((try (conv => whnf)) <;> first | refine o_gt hk ?_ | refine o_g2s hs ?_ | refine o_g3r hx ?_ | refine okR_of (bn) ?_ | with_reducible refine stepE ?_ | with_reducible refine stepEs ?_ | with_reducible refine stepB ?_ | with_reducible refine stepS ?_ | refine okO_of (o := getSh _ _) rfl ?_ | with_reducible refine okT_tt ?_ | with_reducible refine okT_ct (by decide) ?_ | with_reducible refine o_eqs ?_ | refine okO_of (o := opIx (.tup (_ :: _)) _) rfl ?_)) <;> (try (conv => whnf))
    cases S with
    | qu q y a => cases q <;> rfl
    | _ => rfl
  | some t =>
    rw [hb] at bn
    have bn : callF T gl n 224 [.tup (ls.map Lg.enc), ePaths ps, .int (k : Int), x, .str [110, 101, 119]] = .ok (.str t) := bn
    obtain ⟨b, hbx, _, _, ht⟩ := boxG_some hb
    obtain ⟨hlt, rfl⟩ := boxG_lt hbx
    have ht := nameS_ne ht
    have hk2 := h.k
    have hle := h.le
    have en := endG_ok (T := T) (gl := gl) (n := n) (by omega) h.z (b := b) (by omega)
    have el := endG_lt ps b (by omega)
    have hel : endG ps b < ls.length := by omega
    obtain ⟨e3, _, _⟩ := stAt_get hel
    cases S with
    | bin o a b => cases o <;> ((repeat' ((try (conv => whnf)) <;> first | refine o_gt hk ?_ | refine o_g2s hs ?_ | refine o_g3r hx ?_ | refine okT_cf ht ?_ | refine okT_ct rfl ?_ | refine okR_of (bn) ?_ | refine okR_of (f1 _) ?_ | with_reducible refine stepE ?_ | with_reducible refine stepEs ?_ | with_reducible refine stepB ?_ | with_reducible refine stepS ?_ | refine okO_of (o := getSh _ _) rfl ?_ | with_reducible refine okK_bl ?_ | with_reducible refine o_eqs ?_ | refine okO_of (o := opIx (.tup (_ :: _)) _) rfl ?_)) <;> (try (conv => whnf)); rfl)
    | qu q y a =>
      cases q
      · (repeat' ((try (conv => whnf)) <;> first | refine o_gt hk ?_ | refine o_g2s hs ?_ | refine o_g3r hx ?_ | refine okT_cf ht ?_ | refine okT_ct rfl ?_ | refine okR_of (bn) ?_ | refine okR_of (f1 _) ?_ | with_reducible refine stepE ?_ | with_reducible refine stepEs ?_ | with_reducible refine stepB ?_ | with_reducible refine stepS ?_ | refine okO_of (o := getSh _ _) rfl ?_ | with_reducible refine okK_bl ?_ | with_reducible refine o_eqs ?_ | refine okO_of (o := opIx (.tup (_ :: _)) _) rfl ?_)) <;> (try (conv => whnf)); rfl
      · have pt := put_ok (T := T) (gl := gl) y t a (n := n) (by simp only [Stm.dp] at d0; omega)
        have pd : (a.put y t).dp ≤ 140 := by rw [put_dp]; simp only [Stm.dp] at d0; omega
        (repeat' ((try (conv => whnf)) <;> first | refine o_gt hk ?_ | refine o_g2s hs ?_ | refine o_g3r hx ?_ | refine okT_cf ht ?_ | refine okT_cf rfl ?_ | refine enc_0 (d := a.enc) rfl ?_ | refine enc_0 (d := .str y) rfl ?_ | refine o_gt hel ?_ | refine o_g2 ?_ | refine o_eqD pd ?_ | refine okR_of (bn) ?_ | refine okR_of (f1 _) ?_ | refine okR_of (nm) ?_ | refine okR_of (en) ?_ | refine okR_of (pt) ?_ | with_reducible refine stepE ?_ | with_reducible refine stepEs ?_ | with_reducible refine stepB ?_ | with_reducible refine stepS ?_ | refine okO_of (o := getSh _ _) rfl ?_ | with_reducible refine okK_bl ?_ | with_reducible refine okT_bl (fun hT => ?_) (fun hT => ?_) | with_reducible refine o_eqs ?_ | with_reducible refine o_ints ?_ | refine okO_of (o := opIx (.tup (_ :: _)) _) rfl ?_)) <;> (try (conv => whnf))
        · rw [isIn_strs] at hT
          show _ = D.bl (!(Stm.qu true y a).nms.contains t && _)
          rw [hT]
          rfl
        · rw [isIn_strs] at hT
          show _ = D.bl (!(Stm.qu true y a).nms.contains t && decide (((boxG ls ps k (.int (b : Int))).bind fun b => stAt ls (endG ps b)) = some (a.put y t)))
          rw [hT, hbx]
          simp only [Option.bind_some, e3, Bool.not_false, Bool.true_and]
    | _ => (repeat' ((try (conv => whnf)) <;> first | refine o_gt hk ?_ | refine o_g2s hs ?_ | refine o_g3r hx ?_ | refine okT_cf ht ?_ | refine okT_ct rfl ?_ | refine okR_of (bn) ?_ | refine okR_of (f1 _) ?_ | with_reducible refine stepE ?_ | with_reducible refine stepEs ?_ | with_reducible refine stepB ?_ | with_reducible refine stepS ?_ | refine okO_of (o := getSh _ _) rfl ?_ | with_reducible refine okK_bl ?_ | with_reducible refine o_eqs ?_ | refine okO_of (o := opIx (.tup (_ :: _)) _) rfl ?_)) <;> (try (conv => whnf)); rfl
theorem byCase_ok [Gl gl 0 (.str small)] [Gl gl 2 (.str figs)] [Gl gl 3 (.tup (kept.map .str))] [Gl gl 4 (.int 8)] [Fn T 5 c_built] [Fn T 6 c_is_name] [Fn T 15 c_parts_of] [Fn T 27 c_rising] [Fn T 28 c_names_in] [Fn T 35 c_put] [Fn T 140 c_opens] [Fn T 154 c_begins] [Fn T 155 c_seen] [Fn T 157 c_box_seen] [Fn T 159 c_end_of] [Fn T 209 c_is_number_v1] [Fn T 210 c_names_one] [Fn T 211 c_told] [Fn T 212 c_is_form] [Fn T 213 c_is_box] [Fn T 224 c_box_name] [Fn T 226 c_by_case] {n : Nat} (hn : 110 ≤ n) {ls : List Lg} {ps : List (List Nat)} {k : Nat} (h : LpOk ls ps k) {S : Stm} (hs : (ls[k]'h.kl).st = some S) {x y : D} (hx : (ls[k]'h.kl).refs = [x, y]) :
    callF T gl n 226 [.tup (ls.map Lg.enc), ePaths ps, .int (k : Int)] = .ok (.bl (byG ls ps k sOne S [x, y])) := by
  refine eq_of_okR (okR_call (k := 109) hn rfl fun n hn => ?_)
  rw [show byG ls ps k sOne S [x, y] = onesG ls ps k S y (toldG ls ps k x) (boxNameG ls ps k y caseR) from rfl]
  have hk := h.kl
  have hS := (h.ln _ (List.getElem_mem hk)).st S hs
  have d0 := hS.dp
  have fx : flatD x = true := h.rf (by rw [hx]; simp)
  have fy : flatD y = true := h.rf (by rw [hx]; simp)
  have td := toldG_call (T := T) (gl := gl) (n := n) (by omega) hk h.k fx
  have tdo := fun {A : Stm} (e : toldG ls ps k x = some A) => toldG_ok h.ln e
  generalize toldG ls ps k x = A at td tdo ⊢
  have f1 := is_form_ok (T := T) (gl := gl) (n := n) (by omega) A
  have bn := boxNameG_ok (T := T) (gl := gl) (n := n) (by omega) h fy caseR
  have nm := names_in_ok (T := T) (gl := gl) S (n := n) (by omega) hS.wf hS.sz
  cases hb : boxNameG ls ps k y caseR with
  | none =>
    rw [hb] at bn
    have bn : callF T gl n 224 [.tup (ls.map Lg.enc), ePaths ps, .int (k : Int), y, .str [99, 97, 115, 101]] = .ok (.str []) := bn
    (repeat' ((try (conv => whnf)) <;> first | refine o_gt hk ?_ | refine o_g2s hs ?_ | refine o_g3r hx ?_ | refine okR_of (td) ?_ | refine okR_of (bn) ?_ | with_reducible refine stepE ?_ | with_reducible refine stepEs ?_ | with_reducible refine stepB ?_ | with_reducible refine stepS ?_ | refine okO_of (o := getSh _ _) rfl ?_ | with_reducible refine okT_tt ?_ | with_reducible refine okT_ct (by decide) ?_ | with_reducible refine o_eqs ?_ | refine okO_of (o := opIx (.tup (_ :: _)) _) rfl ?_)) <;> (try (conv => whnf))
    cases A with
    | none => rfl
    | some A =>
      cases A with
      | qu q y a => cases q <;> rfl
      | _ => rfl
  | some t =>
    rw [hb] at bn
    have bn : callF T gl n 224 [.tup (ls.map Lg.enc), ePaths ps, .int (k : Int), y, .str [99, 97, 115, 101]] = .ok (.str t) := bn
    obtain ⟨b, hbx, _, _, ht⟩ := boxG_some hb
    obtain ⟨hlt, rfl⟩ := boxG_lt hbx
    have ht := nameS_ne ht
    have hk2 := h.k
    have hle := h.le
    have en := endG_ok (T := T) (gl := gl) (n := n) (by omega) h.z (b := b) (by omega)
    have el := endG_lt ps b (by omega)
    have hel : endG ps b < ls.length := by omega
    have hbl : b < ls.length := by omega
    obtain ⟨e3, _, _⟩ := stAt_get hel
    obtain ⟨e4, _, _⟩ := stAt_get hbl
    cases A with
    | none =>
      simp only [eStm] at f1 td
      (repeat' ((try (conv => whnf)) <;> first | refine o_gt hk ?_ | refine o_g2s hs ?_ | refine o_g3r hx ?_ | refine okT_cf ht ?_ | refine okT_ct rfl ?_ | refine okR_of (td) ?_ | refine okR_of (bn) ?_ | refine okR_of (f1 _) ?_ | with_reducible refine stepE ?_ | with_reducible refine stepEs ?_ | with_reducible refine stepB ?_ | with_reducible refine stepS ?_ | refine okO_of (o := getSh _ _) rfl ?_ | with_reducible refine okK_bl ?_ | with_reducible refine o_eqs ?_ | refine okO_of (o := opIx (.tup (_ :: _)) _) rfl ?_)) <;> (try (conv => whnf))
      rfl
    | some A =>
      have hA := tdo rfl
      simp only [eStm] at f1 td
      have dA := hA.dp
      have nA := names_in_ok (T := T) (gl := gl) A (n := n) (by omega) hA.wf hA.sz
      cases A with
      | bin o a b => cases o <;> ((repeat' ((try (conv => whnf)) <;> first | refine o_gt hk ?_ | refine o_g2s hs ?_ | refine o_g3r hx ?_ | refine okT_cf ht ?_ | refine okT_ct rfl ?_ | refine okR_of (td) ?_ | refine okR_of (bn) ?_ | refine okR_of (f1 _) ?_ | with_reducible refine stepE ?_ | with_reducible refine stepEs ?_ | with_reducible refine stepB ?_ | with_reducible refine stepS ?_ | refine okO_of (o := getSh _ _) rfl ?_ | with_reducible refine okK_bl ?_ | with_reducible refine o_eqs ?_ | refine okO_of (o := opIx (.tup (_ :: _)) _) rfl ?_)) <;> (try (conv => whnf)); rfl)
      | qu q z a =>
        cases q
        · have pt := put_ok (T := T) (gl := gl) z t a (n := n) (by simp only [Stm.dp] at dA; omega)
          have pd : (a.put z t).dp ≤ 140 := by rw [put_dp]; simp only [Stm.dp] at dA; omega
          have pS : S.dp ≤ 140 := by omega
          (repeat' ((try (conv => whnf)) <;> first | refine o_gt hk ?_ | refine o_g2s hs ?_ | refine o_g3r hx ?_ | refine okT_cf ht ?_ | refine okT_ct rfl ?_ | refine okT_cf rfl ?_ | refine enc_0 (d := a.enc) rfl ?_ | refine enc_0 (d := .str z) rfl ?_ | refine o_gt hel ?_ | refine o_gt hbl ?_ | refine o_g2 ?_ | refine o_eqD pd ?_ | refine o_eqD pS ?_ | refine okR_of (td) ?_ | refine okR_of (bn) ?_ | refine okR_of (f1 _) ?_ | refine okR_of (nm) ?_ | refine okR_of (nA) ?_ | refine okR_of (en) ?_ | refine okR_of (pt) ?_ | with_reducible refine stepE ?_ | with_reducible refine stepEs ?_ | with_reducible refine stepB ?_ | with_reducible refine stepS ?_ | refine okO_of (o := getSh _ _) rfl ?_ | with_reducible refine okK_bl ?_ | with_reducible refine okT_dec (fun hT => ?_) (fun hT => ?_) | with_reducible refine okT_bl (fun hT => ?_) (fun hT => ?_) | with_reducible refine o_eqs ?_ | with_reducible refine o_ints ?_ | refine okO_of (o := opIx (.tup (_ :: _)) _) rfl ?_)) <;> (try (conv => whnf))
          · rw [isIn_strs] at hT
            show _ = D.bl (!S.nms.contains t && _)
            rw [hT]
            rfl
          · rename_i hS1
            rw [isIn_strs] at hT hS1
            show _ = D.bl (!S.nms.contains t && (!(Stm.qu false z a).nms.contains t && _))
            rw [hT, hS1]
            rfl
          all_goals
            rename_i hS1 hA1
            rw [isIn_strs] at hA1 hS1
            show _ = D.bl (!S.nms.contains t && (!(Stm.qu false z a).nms.contains t && (decide (((boxG ls ps k (.int (b : Int))).bind fun b => stAt ls b) = some (a.put z t)) && decide (((boxG ls ps k (.int (b : Int))).bind fun b => stAt ls (endG ps b)) = some S))))
            rw [hS1, hA1, hbx]
            simp only [Option.bind_some, e3, e4, Bool.not_false, Bool.true_and, hT, Bool.false_and]
            simp
        · (repeat' ((try (conv => whnf)) <;> first | refine o_gt hk ?_ | refine o_g2s hs ?_ | refine o_g3r hx ?_ | refine okT_cf ht ?_ | refine okT_ct rfl ?_ | refine okR_of (td) ?_ | refine okR_of (bn) ?_ | refine okR_of (f1 _) ?_ | with_reducible refine stepE ?_ | with_reducible refine stepEs ?_ | with_reducible refine stepB ?_ | with_reducible refine stepS ?_ | refine okO_of (o := getSh _ _) rfl ?_ | with_reducible refine okK_bl ?_ | with_reducible refine o_eqs ?_ | refine okO_of (o := opIx (.tup (_ :: _)) _) rfl ?_)) <;> (try (conv => whnf)); rfl
      | _ => (repeat' ((try (conv => whnf)) <;> first | refine o_gt hk ?_ | refine o_g2s hs ?_ | refine o_g3r hx ?_ | refine okT_cf ht ?_ | refine okT_ct rfl ?_ | refine okR_of (td) ?_ | refine okR_of (bn) ?_ | refine okR_of (f1 _) ?_ | with_reducible refine stepE ?_ | with_reducible refine stepEs ?_ | with_reducible refine stepB ?_ | with_reducible refine stepS ?_ | refine okO_of (o := getSh _ _) rfl ?_ | with_reducible refine okK_bl ?_ | with_reducible refine o_eqs ?_ | refine okO_of (o := opIx (.tup (_ :: _)) _) rfl ?_)) <;> (try (conv => whnf)); rfl
end
end Ev

/-! Whether a line follows, the whole. -/
namespace Ev
theorem list2 {α : Type} {l : List α} (h : (l.length : Int) = 2) : ∃ x y, l = [x, y] := two_items (by omega)
theorem list1 {α : Type} {l : List α} (h : (l.length : Int) = 1) : ∃ x, l = [x] := List.length_eq_one_iff.mp (by omega)
theorem list3 {α : Type} {l : List α} (h : (l.length : Int) = 3) : ∃ x y z, l = [x, y, z] := by
  match l, h with
  | [x, y, z], _ => exact ⟨x, y, z, rfl⟩
  | [], h => simp at h
  | [_], h => simp at h
  | [_, _], h => simp at h
  | _ :: _ :: _ :: _ :: _, h => simp at h; omega
theorem on1_len {f : D → Bool} {l : List D} (h : ¬ (l.length : Int) = 1) : on1 f l = false := by
  match l, h with
  | [x], h => simp at h
  | [], _ => rfl
  | _ :: _ :: _, _ => rfl
theorem on2_len {f : D → D → Bool} {l : List D} (h : ¬ (l.length : Int) = 2) : on2 f l = false := by
  match l, h with
  | [x, y], h => simp at h
  | [], _ => rfl
  | [_], _ => rfl
  | _ :: _ :: _ :: _, _ => rfl
theorem on3_len {f : D → D → D → Bool} {l : List D} (h : ¬ (l.length : Int) = 3) : on3 f l = false := by
  match l, h with
  | [x, y, z], h => simp at h
  | [], _ => rfl
  | [_], _ => rfl
  | [_, _], _ => rfl
  | _ :: _ :: _ :: _ :: _, _ => rfl
abbrev allR : List (List Nat) := [sAgain, sLeft, sRight, sEither, sAny, sBoth, sUse, sClash, sEach, sSome, sCases, sEvery, sOne, sThen, sDeny, sAbsurd]
theorem byG_len {ls : List Lg} {ps : List (List Nat)} {k : Nat} {r : List Nat} {S : Stm} {l : List D} (hr : r ∈ allR) (h : ¬ (l.length : Int) = refsOf r) : byG ls ps k r S l = false := by
  simp only [allR, List.mem_cons, List.not_mem_nil, or_false] at hr
  rcases hr with rfl | rfl | rfl | rfl | rfl | rfl | rfl | rfl | rfl | rfl | rfl | rfl | rfl | rfl | rfl | rfl
  all_goals first
    | exact (on1_len h : _)
    | exact (on2_len h : _)
    | exact (on3_len h : _)
theorem byG_none {ls : List Lg} {ps : List (List Nat)} {k : Nat} {r : List Nat} {S : Stm} {l : List D} (hr : r ∉ allR) : byG ls ps k r S l = false ∧ refsOf r = 0 := by
  simp only [allR, List.mem_cons, List.not_mem_nil, or_false, not_or] at hr
  obtain ⟨h1, h2, h3, h4, h5, h6, h7, h8, h9, h10, h11, h12, h13, h14, h15, h16⟩ := hr
  have f : ∀ {q : List Nat}, ¬ r = q → (r == q) = false := fun h => beq_eq_false_iff_ne.mpr h
  have e1 : isIn (.str r) ones = false := by
    rw [show ones = [sAgain, sLeft, sRight, sEither, sAny].map .str from rfl, isIn_strs]
    simp [h1, h2, h3, h4, h5]
  have e2 : isIn (.str r) twos = false := by
    rw [show twos = [sBoth, sUse, sClash].map .str from rfl, isIn_strs]
    simp [h6, h7, h8]
  constructor
  · unfold byG
    rw [e1, e2, f h9, f h10, f h11, f h12, f h13, f h14, f h15, f h16]
    rfl
  · unfold refsOf
    have e3 : isIn (.str r) [.str sAgain, .str sLeft, .str sRight, .str sEither, .str sAny, .str sThen, .str sDeny, .str sAbsurd, .str sEvery] = false := by
      rw [show ([.str sAgain, .str sLeft, .str sRight, .str sEither, .str sAny, .str sThen, .str sDeny, .str sAbsurd, .str sEvery] : List D) = [sAgain, sLeft, sRight, sEither, sAny, sThen, sDeny, sAbsurd, sEvery].map .str from rfl, isIn_strs]
      simp [h1, h2, h3, h4, h5, h12, h14, h15, h16]
    have e4 : isIn (.str r) [.str sBoth, .str sUse, .str sClash, .str sEach, .str sSome, .str sOne] = false := by
      rw [show ([.str sBoth, .str sUse, .str sClash, .str sEach, .str sSome, .str sOne] : List D) = [sBoth, sUse, sClash, sEach, sSome, sOne].map .str from rfl, isIn_strs]
      simp [h6, h7, h8, h9, h10, h13]
    rw [e3, e4, f h11]
    rfl
section
variable {T : Nat → Option FD} {gl : Nat → Option D}
theorem byLinesG_ok [Gl gl 0 (.str small)] [Gl gl 2 (.str figs)] [Gl gl 3 (.tup (kept.map .str))] [Gl gl 4 (.int 8)] [Fn T 5 c_built] [Fn T 6 c_is_name] [Fn T 15 c_parts_of] [Fn T 35 c_put] [Fn T 154 c_begins] [Fn T 155 c_seen] [Fn T 209 c_is_number_v1] [Fn T 210 c_names_one] [Fn T 211 c_told] [Fn T 212 c_is_form] [Fn T 218 c_by_one] [Fn T 219 c_by_two] [Fn T 222 c_by_each] [Fn T 223 c_by_some] [Fn T 228 c_by_lines]
    {n : Nat} (hn : 112 ≤ n) {ls : List Lg} {ps : List (List Nat)} {k : Nat} (h : LpOk ls ps k) {S : Stm} (hs : (ls[k]'h.kl).st = some S) {r : List Nat} (hr : (ls[k]'h.kl).rule = r) (hlen : ((ls[k]'h.kl).refs.length : Int) = refsOf r)
    (h12 : isIn (.str r) ones = true ∨ isIn (.str r) twos = true ∨ r = sEach ∨ r = sSome) : callF T gl n 228 [.tup (ls.map Lg.enc), ePaths ps, .int (k : Int)] = .ok (.bl (byG ls ps k r S (ls[k]'h.kl).refs)) := by
  refine eq_of_okR (okR_call (k := 111) hn rfl fun n hn => ?_)
  have hk := h.kl
  have hS := (h.ln _ (List.getElem_mem hk)).st S hs
  have td := fun {x : D} fx => toldG_call (T := T) (gl := gl) (n := n) (by omega) hk h.k (r := x) fx
  have tdo := fun (x : D) (A : Stm) (e : toldG ls ps k x = some A) => toldG_ok h.ln e
  rcases h12 with h1 | h2 | rfl | rfl
  · have e1 : refsOf r = 1 := by rcases one_of h1 with rfl | rfl | rfl | rfl | rfl <;> decide
    obtain ⟨x, hf⟩ := list1 (by rw [hlen, e1])
    have fx : flatD x = true := h.rf (by rw [hf]; simp)
    have bo := oneG_ok (T := T) (gl := gl) (n := n) (by omega) hS (tdo x) h1
    have e : byG ls ps k r S ls[k].refs = oneG r S (toldG ls ps k x) := by rw [hf, byG, if_pos h1]; rfl
    rw [e]
    (repeat' ((try (conv => whnf)) <;> first | refine o_gt hk ?_ | refine o_g1r hr ?_ | refine o_g2s hs ?_ | refine o_g3r hf ?_ | refine okT_ct h1 ?_ | refine okR_of (td fx) ?_ | refine okR_of (bo) ?_ | with_reducible refine stepE ?_ | with_reducible refine stepEs ?_ | with_reducible refine stepB ?_ | with_reducible refine stepS ?_ | refine okO_of (o := getSh _ _) rfl ?_ | with_reducible refine o_ints ?_ | refine okO_of (o := opIx (.tup (_ :: _)) _) rfl ?_)) <;> (try (conv => whnf))
  · have e1 : refsOf r = 2 := by rcases two_of h2 with rfl | rfl | rfl <;> decide
    have n1 : isIn (.str r) ones = false := by rcases two_of h2 with rfl | rfl | rfl <;> decide
    obtain ⟨x, y, hf⟩ := list2 (by rw [hlen, e1])
    have fx : flatD x = true := h.rf (by rw [hf]; simp)
    have fy : flatD y = true := h.rf (by rw [hf]; simp)
    have bo := twoG_ok (T := T) (gl := gl) (n := n) (by omega) hS (tdo x) (tdo y) h2
    have e : byG ls ps k r S ls[k].refs = twoG r S (toldG ls ps k x) (toldG ls ps k y) := by rw [hf, byG, if_neg (by rw [n1]; decide), if_pos h2]; rfl
    rw [e]
    (repeat' ((try (conv => whnf)) <;> first | refine o_gt hk ?_ | refine o_g1r hr ?_ | refine o_g2s hs ?_ | refine o_g3r hf ?_ | refine okT_cf n1 ?_ | refine okT_ct h2 ?_ | refine okR_of (td fx) ?_ | refine okR_of (td fy) ?_ | refine okR_of (bo) ?_ | with_reducible refine stepE ?_ | with_reducible refine stepEs ?_ | with_reducible refine stepB ?_ | with_reducible refine stepS ?_ | refine okO_of (o := getSh _ _) rfl ?_ | with_reducible refine o_ints ?_ | refine okO_of (o := opIx (.tup (_ :: _)) _) rfl ?_)) <;> (try (conv => whnf))
  · obtain ⟨x, y, hf⟩ := list2 (by rw [hlen]; decide)
    have fx : flatD x = true := h.rf (by rw [hf]; simp)
    have fy : flatD y = true := h.rf (by rw [hf]; simp)
    have bo := eachG_ok (T := T) (gl := gl) (n := n) (by omega) hS (tdo x) fy
    have e : byG ls ps k sEach S ls[k].refs = eachG S (toldG ls ps k x) y := by rw [hf]; rfl
    rw [e]
    (repeat' ((try (conv => whnf)) <;> first | refine o_gt hk ?_ | refine o_g1r hr ?_ | refine o_g2s hs ?_ | refine o_g3r hf ?_ | refine okR_of (td fx) ?_ | refine okR_of (bo) ?_ | with_reducible refine stepE ?_ | with_reducible refine stepEs ?_ | with_reducible refine stepB ?_ | with_reducible refine stepS ?_ | refine okO_of (o := getSh _ _) rfl ?_ | with_reducible refine okT_ct (by decide) ?_ | with_reducible refine okT_cf (by decide) ?_ | with_reducible refine o_eqs ?_ | with_reducible refine o_ints ?_ | refine okO_of (o := opIx (.tup (_ :: _)) _) rfl ?_)) <;> (try (conv => whnf))
  · obtain ⟨x, y, hf⟩ := list2 (by rw [hlen]; decide)
    have fx : flatD x = true := h.rf (by rw [hf]; simp)
    have fy : flatD y = true := h.rf (by rw [hf]; simp)
    have bo := someG_ok (T := T) (gl := gl) (n := n) (by omega) hS (tdo x) fy
    have e : byG ls ps k sSome S ls[k].refs = someG S (toldG ls ps k x) y := by rw [hf]; rfl
    rw [e]
    (repeat' ((try (conv => whnf)) <;> first | refine o_gt hk ?_ | refine o_g1r hr ?_ | refine o_g2s hs ?_ | refine o_g3r hf ?_ | refine okR_of (td fx) ?_ | refine okR_of (bo) ?_ | with_reducible refine stepE ?_ | with_reducible refine stepEs ?_ | with_reducible refine stepB ?_ | with_reducible refine stepS ?_ | refine okO_of (o := getSh _ _) rfl ?_ | with_reducible refine okT_cf (by decide) ?_ | with_reducible refine o_eqs ?_ | with_reducible refine o_ints ?_ | refine okO_of (o := opIx (.tup (_ :: _)) _) rfl ?_)) <;> (try (conv => whnf))
theorem byBoxesG_ok [Gl gl 0 (.str small)] [Gl gl 2 (.str figs)] [Gl gl 3 (.tup (kept.map .str))] [Gl gl 4 (.int 8)] [Fn T 5 c_built] [Fn T 6 c_is_name] [Fn T 15 c_parts_of] [Fn T 27 c_rising] [Fn T 28 c_names_in] [Fn T 35 c_put] [Fn T 140 c_opens] [Fn T 154 c_begins] [Fn T 155 c_seen] [Fn T 157 c_box_seen] [Fn T 159 c_end_of] [Fn T 209 c_is_number_v1] [Fn T 210 c_names_one] [Fn T 211 c_told] [Fn T 212 c_is_form] [Fn T 213 c_is_box] [Fn T 214 c_closes] [Fn T 220 c_by_box] [Fn T 221 c_by_cases] [Fn T 224 c_box_name] [Fn T 225 c_by_every] [Fn T 226 c_by_case] [Fn T 229 c_by_boxes]
    {n : Nat} (hn : 112 ≤ n) {ls : List Lg} {ps : List (List Nat)} {k : Nat} (h : LpOk ls ps k) {S : Stm} (hs : (ls[k]'h.kl).st = some S) {r : List Nat} (hr : (ls[k]'h.kl).rule = r) (hlen : ((ls[k]'h.kl).refs.length : Int) = refsOf r)
    (h12 : isIn (.str r) byBoxes = true) : callF T gl n 229 [.tup (ls.map Lg.enc), ePaths ps, .int (k : Int)] = .ok (.bl (byG ls ps k r S (ls[k]'h.kl).refs)) := by
  refine eq_of_okR (okR_call (k := 111) hn rfl fun n hn => ?_)
  have hk := h.kl
  rw [show byBoxes = [sThen, sDeny, sAbsurd, sCases, sEvery, sOne].map .str from rfl, isIn_strs] at h12
  have h12 : r = sThen ∨ r = sDeny ∨ r = sAbsurd ∨ r = sCases ∨ r = sEvery ∨ r = sOne := by simpa using h12
  rcases h12 with rfl | rfl | rfl | rfl | rfl | rfl
  · obtain ⟨x, hf⟩ := list1 (by rw [hlen]; decide)
    have b := byBox_ok (T := T) (gl := gl) (n := n) (by omega) h hs hr (.inl rfl) hf
    rw [hf]
    (repeat' ((try (conv => whnf)) <;> first | refine o_gt hk ?_ | refine o_g1r hr ?_ | refine okR_of (b) ?_ | with_reducible refine stepE ?_ | with_reducible refine stepEs ?_ | with_reducible refine stepB ?_ | with_reducible refine stepS ?_ | refine okO_of (o := getSh _ _) rfl ?_ | with_reducible refine okT_cf (by decide) ?_ | with_reducible refine o_eqs ?_)) <;> (try (conv => whnf))
  · obtain ⟨x, hf⟩ := list1 (by rw [hlen]; decide)
    have b := byBox_ok (T := T) (gl := gl) (n := n) (by omega) h hs hr (.inr (.inl rfl)) hf
    rw [hf]
    (repeat' ((try (conv => whnf)) <;> first | refine o_gt hk ?_ | refine o_g1r hr ?_ | refine okR_of (b) ?_ | with_reducible refine stepE ?_ | with_reducible refine stepEs ?_ | with_reducible refine stepB ?_ | with_reducible refine stepS ?_ | refine okO_of (o := getSh _ _) rfl ?_ | with_reducible refine okT_cf (by decide) ?_ | with_reducible refine o_eqs ?_)) <;> (try (conv => whnf))
  · obtain ⟨x, hf⟩ := list1 (by rw [hlen]; decide)
    have b := byBox_ok (T := T) (gl := gl) (n := n) (by omega) h hs hr (.inr (.inr rfl)) hf
    rw [hf]
    (repeat' ((try (conv => whnf)) <;> first | refine o_gt hk ?_ | refine o_g1r hr ?_ | refine okR_of (b) ?_ | with_reducible refine stepE ?_ | with_reducible refine stepEs ?_ | with_reducible refine stepB ?_ | with_reducible refine stepS ?_ | refine okO_of (o := getSh _ _) rfl ?_ | with_reducible refine okT_cf (by decide) ?_ | with_reducible refine o_eqs ?_)) <;> (try (conv => whnf))
  · obtain ⟨x, y, z, hf⟩ := list3 (by rw [hlen]; decide)
    have b := byCases_ok (T := T) (gl := gl) (n := n) (by omega) h hs hf
    rw [hf]
    (repeat' ((try (conv => whnf)) <;> first | refine o_gt hk ?_ | refine o_g1r hr ?_ | refine okR_of (b) ?_ | with_reducible refine stepE ?_ | with_reducible refine stepEs ?_ | with_reducible refine stepB ?_ | with_reducible refine stepS ?_ | refine okO_of (o := getSh _ _) rfl ?_ | with_reducible refine okT_ct (by decide) ?_ | with_reducible refine o_eqs ?_)) <;> (try (conv => whnf))
  · obtain ⟨x, hf⟩ := list1 (by rw [hlen]; decide)
    have b := byEvery_ok (T := T) (gl := gl) (n := n) (by omega) h hs hf
    rw [hf]
    (repeat' ((try (conv => whnf)) <;> first | refine o_gt hk ?_ | refine o_g1r hr ?_ | refine okR_of (b) ?_ | with_reducible refine stepE ?_ | with_reducible refine stepEs ?_ | with_reducible refine stepB ?_ | with_reducible refine stepS ?_ | refine okO_of (o := getSh _ _) rfl ?_ | with_reducible refine okT_ct (by decide) ?_ | with_reducible refine okT_cf (by decide) ?_ | with_reducible refine o_eqs ?_)) <;> (try (conv => whnf))
  · obtain ⟨x, y, hf⟩ := list2 (by rw [hlen]; decide)
    have b := byCase_ok (T := T) (gl := gl) (n := n) (by omega) h hs hf
    rw [hf]
    (repeat' ((try (conv => whnf)) <;> first | refine o_gt hk ?_ | refine o_g1r hr ?_ | refine okR_of (b) ?_ | with_reducible refine stepE ?_ | with_reducible refine stepEs ?_ | with_reducible refine stepB ?_ | with_reducible refine stepS ?_ | refine okO_of (o := getSh _ _) rfl ?_ | with_reducible refine okT_ct (by decide) ?_ | with_reducible refine okT_cf (by decide) ?_ | with_reducible refine o_eqs ?_)) <;> (try (conv => whnf))
theorem followsG_ok [Gl gl 0 (.str small)] [Gl gl 1 (.str great)] [Gl gl 2 (.str figs)] [Gl gl 3 (.tup (kept.map .str))] [Gl gl 4 (.int 8)] [Fn T 5 c_built] [Fn T 6 c_is_name] [Fn T 7 c_is_letter] [Fn T 15 c_parts_of] [Fn T 27 c_rising] [Fn T 28 c_names_in] [Fn T 29 c_free_in] [Fn T 35 c_put] [Fn T 140 c_opens] [Fn T 154 c_begins] [Fn T 155 c_seen] [Fn T 157 c_box_seen] [Fn T 159 c_end_of] [Fn T 209 c_is_number_v1] [Fn T 210 c_names_one] [Fn T 211 c_told] [Fn T 212 c_is_form] [Fn T 213 c_is_box] [Fn T 214 c_closes] [Fn T 215 c_named] [Fn T 216 c_is_new] [Fn T 217 c_opening] [Fn T 218 c_by_one] [Fn T 219 c_by_two] [Fn T 220 c_by_box] [Fn T 221 c_by_cases] [Fn T 222 c_by_each] [Fn T 223 c_by_some] [Fn T 224 c_box_name] [Fn T 225 c_by_every] [Fn T 226 c_by_case] [Fn T 227 c_refs_of] [Fn T 228 c_by_lines] [Fn T 229 c_by_boxes] [Fn T 230 c_is_told] [Fn T 231 c_follows]
    {n : Nat} (hn : 114 ≤ n) {ls : List Lg} {ps : List (List Nat)} {k : Nat} (h : LpOk ls ps k) : callF T gl n 231 [.tup (ls.map Lg.enc), ePaths ps, .int (k : Int)] = .ok (.bl (followsG ls ps k)) := by
  refine eq_of_okR (okR_call (k := 113) hn rfl fun n hn => ?_)
  have hk := h.kl
  have hl := h.ln _ (List.getElem_mem hk)
  have tl := toldB_ok (T := T) (gl := gl) (n := n) (by omega) hl
  have ef : followsG ls ps k = (isToldG ls[k] && (if isIn (.str ls[k].rule) byOpen then openG ls k ls[k] else (match ls[k].st with
    | some S => byG ls ps k ls[k].rule S ls[k].refs
    | none => false))) := by
    unfold followsG
    first
      | (rw [List.getElem?_eq_getElem hk]; done)
      | (rw [List.getElem?_eq_getElem hk]; rfl)
  rw [ef]
  cases ht : isToldG ls[k]
  · rw [ht] at tl
    (repeat' ((try (conv => whnf)) <;> first | refine o_gt hk ?_ | refine okR_of (tl) ?_ | with_reducible refine stepE ?_ | with_reducible refine stepEs ?_ | with_reducible refine stepB ?_ | with_reducible refine stepS ?_ | refine okO_of (o := getSh _ _) rfl ?_ | with_reducible refine okK_bl ?_ | with_reducible refine okT_nff ?_)) <;> (try (conv => whnf))
    rfl
  rw [ht] at tl
  simp only [Bool.true_and]
  cases ho : isIn (.str ls[k].rule) byOpen
  · have hr : ∃ r, ls[k].rule = r := ⟨_, rfl⟩
    obtain ⟨r, hr⟩ := hr
    rw [hr] at ho
    obtain ⟨S, hs⟩ : ∃ S, ls[k].st = some S := by
      cases q : ls[k].st with
      | some S => exact ⟨S, rfl⟩
      | none =>
        exfalso
        unfold isToldG at ht
        rw [q, hr] at ht
        split at ht
        · rename_i hn
          have : r = newR := by simpa using hn
          subst this
          rw [show isIn (.str newR) byOpen = true by decide] at ho
          cases ho
        · cases ht
    have rf := refs_of_ok (T := T) (gl := gl) (n := n) (by omega) r
    rw [hs]
    simp only [if_neg (show ¬ (false = true) by decide), hr]
    by_cases hm : r ∈ allR
    · by_cases hlen : (ls[k].refs.length : Int) = refsOf r
      · have f5 : (decide (refsOf r = 0)) = false := by
          simp only [allR, List.mem_cons, List.not_mem_nil, or_false] at hm
          rcases hm with rfl | rfl | rfl | rfl | rfl | rfl | rfl | rfl | rfl | rfl | rfl | rfl | rfl | rfl | rfl | rfl <;> decide
        have f6 : decide ((ls[k].refs.length : Int) ≠ refsOf r) = false := by simp [hlen]
        cases hb : isIn (.str r) byBoxes
        · have h12 : isIn (.str r) ones = true ∨ isIn (.str r) twos = true ∨ r = sEach ∨ r = sSome := by
            simp only [allR, List.mem_cons, List.not_mem_nil, or_false] at hm
            rcases hm with rfl | rfl | rfl | rfl | rfl | rfl | rfl | rfl | rfl | rfl | rfl | rfl | rfl | rfl | rfl | rfl <;> first | exact .inl (by decide) | exact .inr (.inl (by decide)) | exact .inr (.inr (.inl rfl)) | exact .inr (.inr (.inr rfl)) | (exact absurd hb (by decide))
          have bl := byLinesG_ok (T := T) (gl := gl) (n := n) (by omega) h hs hr hlen h12
          (repeat' ((try (conv => whnf)) <;> first | refine o_gt hk ?_ | refine o_g1r hr ?_ | refine o_g3 ?_ | refine okT_cf ho ?_ | refine okT_cf f5 ?_ | refine okT_cf f6 ?_ | refine okT_cf hb ?_ | refine okR_of (tl) ?_ | refine okR_of (rf) ?_ | refine okR_of (bl) ?_ | with_reducible refine stepE ?_ | with_reducible refine stepEs ?_ | with_reducible refine stepB ?_ | with_reducible refine stepS ?_ | refine okO_of (o := getSh _ _) rfl ?_ | with_reducible refine okK_bl ?_ | with_reducible refine okT_ntt ?_ | with_reducible refine o_eqi ?_ | with_reducible refine o_nei ?_ | with_reducible refine o_ints ?_ | refine okO_of (o := opF _ _) rfl ?_)) <;> (try (conv => whnf))
        · have bl := byBoxesG_ok (T := T) (gl := gl) (n := n) (by omega) h hs hr hlen hb
          (repeat' ((try (conv => whnf)) <;> first | refine o_gt hk ?_ | refine o_g1r hr ?_ | refine o_g3 ?_ | refine okT_cf ho ?_ | refine okT_cf f5 ?_ | refine okT_cf f6 ?_ | refine okT_ct hb ?_ | refine okR_of (tl) ?_ | refine okR_of (rf) ?_ | refine okR_of (bl) ?_ | with_reducible refine stepE ?_ | with_reducible refine stepEs ?_ | with_reducible refine stepB ?_ | with_reducible refine stepS ?_ | refine okO_of (o := getSh _ _) rfl ?_ | with_reducible refine okK_bl ?_ | with_reducible refine okT_ntt ?_ | with_reducible refine o_eqi ?_ | with_reducible refine o_nei ?_ | with_reducible refine o_ints ?_ | refine okO_of (o := opF _ _) rfl ?_)) <;> (try (conv => whnf))
      · rw [byG_len hm hlen]
        have f6 : decide ((ls[k].refs.length : Int) ≠ refsOf r) = true := by simp [hlen]
        (repeat' ((try (conv => whnf)) <;> first | refine o_gt hk ?_ | refine o_g1r hr ?_ | refine o_g3 ?_ | refine okT_cf ho ?_ | refine okT_ct f6 ?_ | refine okR_of (tl) ?_ | refine okR_of (rf) ?_ | with_reducible refine stepE ?_ | with_reducible refine stepEs ?_ | with_reducible refine stepB ?_ | with_reducible refine stepS ?_ | refine okO_of (o := getSh _ _) rfl ?_ | with_reducible refine okK_bl ?_ | with_reducible refine okT_tt ?_ | with_reducible refine okT_ntt ?_ | with_reducible refine okT_dec (fun hT => ?_) (fun hT => ?_) | with_reducible refine o_eqi ?_ | with_reducible refine o_nei ?_ | with_reducible refine o_ints ?_ | refine okO_of (o := opF _ _) rfl ?_)) <;> (try (conv => whnf))
    · obtain ⟨e1, e2⟩ := byG_none (ls := ls) (ps := ps) (k := k) (S := S) (l := ls[k].refs) hm
      rw [e1]
      have f5 : (decide (refsOf r = 0)) = true := by rw [e2]; decide
      (repeat' ((try (conv => whnf)) <;> first | refine o_gt hk ?_ | refine o_g1r hr ?_ | refine okT_cf ho ?_ | refine okT_ct f5 ?_ | refine okR_of (tl) ?_ | refine okR_of (rf) ?_ | with_reducible refine stepE ?_ | with_reducible refine stepEs ?_ | with_reducible refine stepB ?_ | with_reducible refine stepS ?_ | refine okO_of (o := getSh _ _) rfl ?_ | with_reducible refine okK_bl ?_ | with_reducible refine okT_tt ?_ | with_reducible refine okT_ntt ?_ | with_reducible refine o_eqi ?_ | with_reducible refine o_ints ?_)) <;> (try (conv => whnf))
  · have op := openG_ok (T := T) (gl := gl) (n := n) (by omega) h.ln hk
    (repeat' ((try (conv => whnf)) <;> first | refine o_gt hk ?_ | refine o_g1 ?_ | refine okT_ct ho ?_ | refine okR_of (tl) ?_ | refine okR_of (op) ?_ | with_reducible refine stepE ?_ | with_reducible refine stepEs ?_ | with_reducible refine stepB ?_ | with_reducible refine stepS ?_ | refine okO_of (o := getSh _ _) rfl ?_ | with_reducible refine okK_bl ?_ | with_reducible refine okT_ntt ?_ | with_reducible refine o_ints ?_)) <;> (try (conv => whnf))
    rfl
end
end Ev

/-! The laws' own hands: lines, boxes, names (k33 to k37). -/
namespace Ev
theorem nth_paths {ls : List Ln} {k : Nat} (h : k < ls.length) : nth (paths ls) k = path ls (k + 1) := by
  have := paths_get h
  simp [this]
abbrev gs (ls : List Ln) : List Lg := ls.map Ln.g
theorem gs_enc (ls : List Ln) : (gs ls).map Lg.enc = ls.map Ln.enc := by simp [Function.comp_def, Ln.g_enc]
theorem gs_st {ls : List Ln} {k : Nat} (h : k < ls.length) : stAt (gs ls) k = ls[k].st ∧ ruleAt (gs ls) k = ls[k].rule ∧ refsAt (gs ls) k = ls[k].refs := by simp [stAt, ruleAt, refsAt, h, Ln.g]
theorem foldl_last (p : Nat → Bool) : ∀ (l : List Nat) (f : Nat), l.foldl (fun f j => if p j then j else f) f = ((l.filter p).getLast?).getD f
  | [], f => rfl
  | j :: l, f => by
    rw [List.foldl_cons, foldl_last p l, List.filter_cons]
    by_cases h : p j = true
    · rw [if_pos h, if_pos h]
      cases l.filter p with
      | nil => rfl
      | cons a m =>
        rw [List.getLast?_cons_cons]
        cases e : (a :: m).getLast? with
        | none => simp at e
        | some x => rfl
    · rw [if_neg h, if_neg h]
/-- the last line ahead of k of the same boxes -/
def endK (P : List (List Nat)) (k b : Nat) : Nat := (((List.range k).filter fun j => nth P j == nth P b).getLast?).getD b
theorem endK_end {P : List (List Nat)} {k b : Nat} (hk : P.length = k + 1) (hb : b < k) (ne : (nth P k == nth P b) = false) : endK P k b = endG P b := by
  unfold endK endG
  rw [foldl_last (fun j => nth P j == nth P b), hk, show k + 1 - b = (k - b) + 1 by omega, List.range'_concat, List.filter_append]
  have e1 : [b + 1 * (k - b)].filter (fun j => nth P j == nth P b) = [] := by
    rw [show b + 1 * (k - b) = k by omega]
    simp only [List.filter_cons, ne, List.filter_nil]
    rfl
  rw [e1, List.append_nil]
  have e2 : List.range k = List.range b ++ List.range' b (k - b) := by
    have := List.range'_append_1 (s := 0) (m := b) (n := k - b)
    rw [Nat.zero_add, show b + (k - b) = k by omega] at this
    rw [List.range_eq_range', List.range_eq_range', this]
  rw [e2, List.filter_append]
  have e3 : (List.range' b (k - b)).filter (fun j => nth P j == nth P b) ≠ [] := by
    intro h
    have : b ∈ (List.range' b (k - b)).filter (fun j => nth P j == nth P b) := by
      rw [List.mem_filter]
      exact ⟨List.mem_range'_1.mpr ⟨by omega, by omega⟩, by simp⟩
    rw [h] at this
    cases this
  rw [List.getLast?_append]
  cases e : ((List.range' b (k - b)).filter fun j => nth P j == nth P b).getLast? with
  | none => exact absurd (List.getLast?_eq_none_iff.mp e) e3
  | some x => rfl
/-- all terms that stand in it -/
def Stm.tm : Stm → List (List Nat)
  | .is _ ts => ts
  | .fls => []
  | .not a => a.tm
  | .bin _ a b => a.tm ++ b.tm
  | .qu _ _ a => a.tm
theorem tm_len : ∀ A : Stm, A.wf → A.tm.length ≤ 3 * A.sz
  | .is w ts, wf => by have := wf.2.1; simp only [Stm.tm, Stm.sz]; omega
  | .fls, _ => by simp [Stm.tm]
  | .not a, wf => by have := tm_len a wf; simp only [Stm.tm, Stm.sz]; omega
  | .bin _ a b, wf => by have := tm_len a wf.1; have := tm_len b wf.2; simp only [Stm.tm, Stm.sz, List.length_append]; omega
  | .qu _ _ a, wf => by have := tm_len a wf.2; simp only [Stm.tm, Stm.sz]; omega
theorem ft_tm {k : List Nat} (hk : nameS k = true) : ∀ A : Stm, A.wf → (k ∈ A.ft ↔ k ∈ A.tm)
  | .is w ts, _ => Iff.rfl
  | .fls, _ => Iff.rfl
  | .not a, wf => ft_tm hk a wf
  | .bin _ a b, wf => by simp only [Stm.ft, Stm.tm, List.mem_append, ft_tm hk a wf.1, ft_tm hk b wf.2]
  | .qu _ x a, wf => by
    simp only [Stm.ft, Stm.tm, List.mem_filter, ft_tm hk a wf.2]
    refine ⟨fun h => h.1, fun h => ⟨h, ?_⟩⟩
    have : k ≠ x := fun e => by
      subst e
      have := name_letter hk
      rw [wf.1] at this
      cases this
    simpa using this
theorem tm_nms {A : Stm} (wf : A.wf) {k : List Nat} (hk : nameS k = true) : A.tm.contains k = A.nms.contains k := by
  rw [Bool.eq_iff_iff]
  simp only [List.contains_iff_mem]
  rw [nms_mem A k wf, ft_tm hk A wf]
  simp [hk]
def tmO : Option Stm → List (List Nat)
  | some A => A.tm
  | none => []
theorem o_isTe {A : Stm} {P : D → Prop} (p : P (.bl true)) : okO (opF .isTuple [A.enc]) P := okO_of (by cases A <;> rfl) p
section
variable {T : Nat → Option FD} {gl : Nat → Option D}
theorem lawPut_ok [Fn T 263 c_law_put_v1] (x m : List Nat) : ∀ (A : Stm) {n : Nat}, A.dp + 1 ≤ n → callF T gl n 263 [A.enc, .str x, .str m] = .ok (A.put x m).enc
  | .is w ts, n, hn => by
    refine eq_of_okR (okR_call (k := 1) hn rfl fun n hn => ?_)
    unfold Stm.enc
    (repeat' ((try (conv => whnf)) <;> first | with_reducible refine stepE ?_ | with_reducible refine stepEs ?_ | with_reducible refine stepB ?_ | with_reducible refine stepS ?_ | refine okO_of (o := getSh _ _) rfl ?_ | with_reducible refine okT_ct (by decide) ?_ | with_reducible refine o_eqs ?_ | refine okO_of (o := opIx (.tup (_ :: _)) _) rfl ?_ | with_reducible refine stepIt ?_ | refine okO_of (o := itemsOf _) rfl ?_)) <;> (try (conv => whnf))
    refine okComp_map D.str (fun t => D.str (if t = x then m else t)) (fun t _ => ?_) ?_
    · (repeat' ((try (conv => whnf)) <;> first | with_reducible refine stepE ?_ | with_reducible refine stepEs ?_ | refine okO_of (o := getSh _ _) rfl ?_ | with_reducible refine o_eqs ?_ | refine okO_of (o := opF _ _) rfl ?_)) <;> (try (conv => whnf))
      cases h : (t == x)
      · have : ¬ t = x := by simpa using h
        rw [if_neg this]
        (repeat' ((try (conv => whnf)) <;> (refine okO_of (o := opIx (.lst (_ :: _)) _) rfl ?_))) <;> (try (conv => whnf))
      · have : t = x := by simpa using h
        rw [if_pos this]
        (repeat' ((try (conv => whnf)) <;> (refine okO_of (o := opIx (.lst (_ :: _)) _) rfl ?_))) <;> (try (conv => whnf))
    · (repeat' ((try (conv => whnf)) <;> first | with_reducible refine stepEs ?_ | refine okO_of (o := opF _ _) rfl ?_)) <;> (try (conv => whnf))
      simp [Stm.put, Stm.enc, Function.comp_def]
  | .fls, n, hn => by
    refine eq_of_okR (okR_call (k := 1) hn rfl fun n hn => ?_)
    unfold Stm.enc
    (repeat' ((try (conv => whnf)) <;> first | with_reducible refine stepE ?_ | with_reducible refine stepEs ?_ | with_reducible refine stepB ?_ | with_reducible refine stepS ?_ | refine okO_of (o := getSh _ _) rfl ?_ | with_reducible refine okT_cf (by decide) ?_ | with_reducible refine o_eqs ?_ | with_reducible refine o_inls ?_ | refine okO_of (o := opIx (.tup (_ :: _)) _) rfl ?_ | refine okO_of (o := ixPart _ _) rfl ?_ | with_reducible refine stepIt ?_)) <;> (try (conv => whnf))
    refine o_slt fun t ht _ => ?_
    rw [cut_dropI _ (by omega)] at ht
    obtain rfl : t = [] := ht
    (repeat' ((try (conv => whnf)) <;> first | with_reducible refine stepEs ?_ | refine okO_of (o := opF _ _) rfl ?_ | refine okO_of (o := itemsOf _) rfl ?_ | with_reducible refine okComp_nil ?_)) <;> (try (conv => whnf))
    refine o_addt (by (simp only [List.length_append, List.length_cons, List.length_nil, List.length_map, line_val]; omega)) ?_
    (try (conv => whnf)) <;> (try (conv => whnf))
    rfl
  | .not a, n, hn => by
    refine eq_of_okR (okR_call (k := a.dp + 1) hn rfl fun n hn => ?_)
    have ih := lawPut_ok x m a (n := n) (by omega)
    unfold Stm.enc
    (repeat' ((try (conv => whnf)) <;> first | with_reducible refine stepE ?_ | with_reducible refine stepEs ?_ | with_reducible refine stepB ?_ | with_reducible refine stepS ?_ | refine okO_of (o := getSh _ _) rfl ?_ | with_reducible refine okT_cf (by decide) ?_ | with_reducible refine o_eqs ?_ | with_reducible refine o_inls ?_ | refine okO_of (o := opIx (.tup (_ :: _)) _) rfl ?_ | refine okO_of (o := ixPart _ _) rfl ?_ | with_reducible refine stepIt ?_)) <;> (try (conv => whnf))
    refine o_slt fun t ht _ => ?_
    rw [cut_dropI _ (by omega)] at ht
    obtain rfl : t = [a.enc] := ht
    (repeat' ((try (conv => whnf)) <;> first | refine okR_of (ih) ?_ | with_reducible refine stepE ?_ | with_reducible refine stepEs ?_ | refine okO_of (o := getSh _ _) rfl ?_ | with_reducible refine okT_tt ?_ | refine okO_of (o := opF _ _) rfl ?_ | refine okO_of (o := itemsOf _) rfl ?_ | with_reducible refine okComp_cons ?_ | with_reducible refine okComp_nil ?_)) <;> (try (conv => whnf))
    refine o_addt (by (simp only [List.length_append, List.length_cons, List.length_nil, List.length_map, line_val]; omega)) ?_
    (try (conv => whnf)) <;> (try (conv => whnf))
    rfl
  | .bin o a b, n, hn => by
    refine eq_of_okR (okR_call (k := max a.dp b.dp + 1) hn rfl fun n hn => ?_)
    have ih1 := lawPut_ok x m a (n := n) (by omega)
    have ih2 := lawPut_ok x m b (n := n) (by omega)
    unfold Stm.enc
    cases o
    all_goals
      (repeat' ((try (conv => whnf)) <;> first | with_reducible refine stepE ?_ | with_reducible refine stepEs ?_ | with_reducible refine stepB ?_ | with_reducible refine stepS ?_ | refine okO_of (o := getSh _ _) rfl ?_ | with_reducible refine okT_cf (by decide) ?_ | with_reducible refine o_eqs ?_ | with_reducible refine o_inls ?_ | refine okO_of (o := opIx (.tup (_ :: _)) _) rfl ?_ | refine okO_of (o := ixPart _ _) rfl ?_ | with_reducible refine stepIt ?_)) <;> (try (conv => whnf))
      refine o_slt fun t ht _ => ?_
      rw [cut_dropI _ (by omega)] at ht
      obtain rfl : t = [a.enc, b.enc] := ht
      (repeat' ((try (conv => whnf)) <;> first | refine okR_of (ih1) ?_ | refine okR_of (ih2) ?_ | with_reducible refine stepE ?_ | with_reducible refine stepEs ?_ | refine okO_of (o := getSh _ _) rfl ?_ | with_reducible refine okT_tt ?_ | refine okO_of (o := opF _ _) rfl ?_ | refine okO_of (o := itemsOf _) rfl ?_ | with_reducible refine okComp_cons ?_ | with_reducible refine okComp_nil ?_)) <;> (try (conv => whnf))
      refine o_addt (by (simp only [List.length_append, List.length_cons, List.length_nil, List.length_map, line_val]; omega)) ?_
      (try (conv => whnf)) <;> (try (conv => whnf))
      rfl
  | .qu q y a, n, hn => by
    refine eq_of_okR (okR_call (k := a.dp + 1) hn rfl fun n hn => ?_)
    have ih := lawPut_ok x m a (n := n) (by omega)
    unfold Stm.enc
    cases q
    all_goals
      (repeat' ((try (conv => whnf)) <;> first | refine okR_of (ih) ?_ | with_reducible refine stepE ?_ | with_reducible refine stepEs ?_ | with_reducible refine stepB ?_ | with_reducible refine stepS ?_ | refine okO_of (o := getSh _ _) rfl ?_ | with_reducible refine okT_ct (by decide) ?_ | with_reducible refine okT_cf (by decide) ?_ | with_reducible refine okT_bl (fun hT => ?_) (fun hT => ?_) | with_reducible refine o_eqs ?_ | with_reducible refine o_inls ?_ | refine okO_of (o := opIx (.tup (_ :: _)) _) rfl ?_)) <;> (try (conv => whnf))
      · have : y = x := by simpa using hT
        simp [Stm.put, this, Stm.enc]
      · have : ¬ y = x := by simpa using hT
        simp [Stm.put, this, Stm.enc]
theorem lawNames_ok [Fn T 273 c_law_names] : ∀ (A : Stm) {n : Nat}, A.dp + 1 ≤ n → A.wf → 3 * A.sz < 4000 → callF T gl n 273 [A.enc] = .ok (.lst (A.tm.map .str))
  | .is w ts, n, hn, _, _ => by
    refine eq_of_okR (okR_call (k := 1) hn rfl fun n hn => ?_)
    unfold Stm.enc
    (repeat' ((try (conv => whnf)) <;> first | refine okT_cf rfl ?_ | with_reducible refine stepE ?_ | with_reducible refine stepEs ?_ | with_reducible refine stepB ?_ | with_reducible refine stepS ?_ | refine okO_of (o := getSh _ _) rfl ?_ | with_reducible refine okT_ct (by decide) ?_ | with_reducible refine o_eqs ?_ | refine okO_of (o := opIx (.tup (_ :: _)) _) rfl ?_ | refine okO_of (o := opF _ _) rfl ?_)) <;> (try (conv => whnf))
    rfl
  | .fls, n, hn, _, _ => by
    refine eq_of_okR (okR_call (k := 1) hn rfl fun n hn => ?_)
    unfold Stm.enc
    (repeat' ((try (conv => whnf)) <;> first | refine okT_cf rfl ?_ | with_reducible refine stepE ?_ | with_reducible refine stepEs ?_ | with_reducible refine stepB ?_ | with_reducible refine stepS ?_ | refine okO_of (o := getSh _ _) rfl ?_ | with_reducible refine o_eqs ?_ | refine okO_of (o := opIx (.tup (_ :: _)) _) rfl ?_ | refine okO_of (o := ixPart _ _) rfl ?_ | with_reducible refine stepIt ?_)) <;> (try (conv => whnf))
    refine o_slt fun t ht _ => ?_
    rw [cut_dropI _ (by omega)] at ht
    obtain rfl : t = [] := ht
    (repeat' ((try (conv => whnf)) <;> first | with_reducible refine stepE ?_ | with_reducible refine stepB ?_ | with_reducible refine stepS ?_ | refine okO_of (o := getSh _ _) rfl ?_ | refine okO_of (o := itemsOf _) rfl ?_ | with_reducible refine okFor_nil ?_)) <;> (try (conv => whnf))
    rfl
  | .not a, n, hn, wf, hz => by
    refine eq_of_okR (okR_call (k := a.dp + 1) hn rfl fun n hn => ?_)
    have lv := line_val
    have hl := tm_len a wf
    have ih := lawNames_ok a (n := n) (by omega) wf (by simp only [Stm.sz] at hz; omega)
    simp only [Stm.sz] at hz
    unfold Stm.enc
    (repeat' ((try (conv => whnf)) <;> first | refine okT_cf rfl ?_ | with_reducible refine stepE ?_ | with_reducible refine stepEs ?_ | with_reducible refine stepB ?_ | with_reducible refine stepS ?_ | refine okO_of (o := getSh _ _) rfl ?_ | with_reducible refine o_eqs ?_ | refine okO_of (o := opIx (.tup (_ :: _)) _) rfl ?_ | refine okO_of (o := ixPart _ _) rfl ?_ | with_reducible refine stepIt ?_)) <;> (try (conv => whnf))
    refine o_slt fun t ht _ => ?_
    rw [cut_dropI _ (by omega)] at ht
    obtain rfl : t = [a.enc] := ht
    (repeat' ((try (conv => whnf)) <;> first | refine o_isTe ?_ | refine okR_of (ih) ?_ | with_reducible refine stepE ?_ | with_reducible refine stepEs ?_ | with_reducible refine stepB ?_ | with_reducible refine stepS ?_ | refine okO_of (o := getSh _ _) rfl ?_ | with_reducible refine okT_tt ?_ | refine okO_of (o := itemsOf _) rfl ?_ | with_reducible refine okFor_cons ?_)) <;> (try (conv => whnf))
    refine o_addl (by simp only [List.length_map, List.length_nil]; omega) ?_
    (repeat' ((try (conv => whnf)) <;> first | with_reducible refine stepE ?_ | with_reducible refine stepB ?_ | with_reducible refine stepS ?_ | refine okO_of (o := getSh _ _) rfl ?_ | with_reducible refine okFor_nil ?_)) <;> (try (conv => whnf))
    rfl
  | .bin o a b, n, hn, wf, hz => by
    refine eq_of_okR (okR_call (k := max a.dp b.dp + 1) hn rfl fun n hn => ?_)
    have lv := line_val
    have hl1 := tm_len a wf.1
    have hl2 := tm_len b wf.2
    simp only [Stm.sz] at hz
    have ih1 := lawNames_ok a (n := n) (by omega) wf.1 (by omega)
    have ih2 := lawNames_ok b (n := n) (by omega) wf.2 (by omega)
    unfold Stm.enc
    cases o
    all_goals
      (repeat' ((try (conv => whnf)) <;> first | refine okT_cf rfl ?_ | with_reducible refine stepE ?_ | with_reducible refine stepEs ?_ | with_reducible refine stepB ?_ | with_reducible refine stepS ?_ | refine okO_of (o := getSh _ _) rfl ?_ | with_reducible refine o_eqs ?_ | refine okO_of (o := opIx (.tup (_ :: _)) _) rfl ?_ | refine okO_of (o := ixPart _ _) rfl ?_ | with_reducible refine stepIt ?_)) <;> (try (conv => whnf))
      refine o_slt fun t ht _ => ?_
      rw [cut_dropI _ (by omega)] at ht
      obtain rfl : t = [a.enc, b.enc] := ht
      (repeat' ((try (conv => whnf)) <;> first | refine o_isTe ?_ | refine okR_of (ih1) ?_ | with_reducible refine stepE ?_ | with_reducible refine stepEs ?_ | with_reducible refine stepB ?_ | with_reducible refine stepS ?_ | refine okO_of (o := getSh _ _) rfl ?_ | with_reducible refine okT_tt ?_ | refine okO_of (o := itemsOf _) rfl ?_ | with_reducible refine okFor_cons ?_)) <;> (try (conv => whnf))
      refine o_addl (by simp only [List.length_map, List.length_nil]; omega) ?_
      (repeat' ((try (conv => whnf)) <;> first | refine o_isTe ?_ | refine okR_of (ih2) ?_ | with_reducible refine stepE ?_ | with_reducible refine stepEs ?_ | with_reducible refine stepB ?_ | with_reducible refine stepS ?_ | refine okO_of (o := getSh _ _) rfl ?_ | with_reducible refine okT_tt ?_ | with_reducible refine okFor_cons ?_)) <;> (try (conv => whnf))
      refine o_addl (by simp only [List.length_map, List.length_nil, List.length_append]; omega) ?_
      (repeat' ((try (conv => whnf)) <;> first | with_reducible refine stepE ?_ | with_reducible refine stepB ?_ | with_reducible refine stepS ?_ | refine okO_of (o := getSh _ _) rfl ?_ | with_reducible refine okFor_nil ?_)) <;> (try (conv => whnf))
      simp [Stm.tm]
  | .qu q y a, n, hn, wf, hz => by
    refine eq_of_okR (okR_call (k := a.dp + 1) hn rfl fun n hn => ?_)
    have lv := line_val
    have hl := tm_len a wf.2
    simp only [Stm.sz] at hz
    have ih := lawNames_ok a (n := n) (by omega) wf.2 (by omega)
    unfold Stm.enc
    cases q
    all_goals
      (repeat' ((try (conv => whnf)) <;> first | refine okT_cf rfl ?_ | with_reducible refine stepE ?_ | with_reducible refine stepEs ?_ | with_reducible refine stepB ?_ | with_reducible refine stepS ?_ | refine okO_of (o := getSh _ _) rfl ?_ | with_reducible refine o_eqs ?_ | refine okO_of (o := opIx (.tup (_ :: _)) _) rfl ?_ | refine okO_of (o := ixPart _ _) rfl ?_ | with_reducible refine stepIt ?_)) <;> (try (conv => whnf))
      refine o_slt fun t ht _ => ?_
      rw [cut_dropI _ (by omega)] at ht
      obtain rfl : t = [.str y, a.enc] := ht
      (repeat' ((try (conv => whnf)) <;> first | refine okT_cf rfl ?_ | refine o_isTe ?_ | refine okR_of (ih) ?_ | with_reducible refine stepE ?_ | with_reducible refine stepEs ?_ | with_reducible refine stepB ?_ | with_reducible refine stepS ?_ | refine okO_of (o := getSh _ _) rfl ?_ | with_reducible refine okT_tt ?_ | refine okO_of (o := opF _ _) rfl ?_ | refine okO_of (o := itemsOf _) rfl ?_ | with_reducible refine okFor_cons ?_)) <;> (try (conv => whnf))
      refine o_addl (by simp only [List.length_map, List.length_nil]; omega) ?_
      (repeat' ((try (conv => whnf)) <;> first | with_reducible refine stepE ?_ | with_reducible refine stepB ?_ | with_reducible refine stepS ?_ | refine okO_of (o := getSh _ _) rfl ?_ | with_reducible refine okFor_nil ?_)) <;> (try (conv => whnf))
      rfl
end
end Ev

/-! The laws' own hands: lines, boxes seen (k33 to k37). -/
namespace Ev
theorem o_ixLastD {xs : List D} {P : D → Prop} (h : 0 < xs.length) (p : ∀ a, xs[xs.length - 1]? = some a → P a) : okO (opIx (.lst xs) (.int (-1))) P := by
  refine okO_of (a := xs[xs.length - 1]) ?_ (p _ (by simp))
  show ((ixN xs.length (-1)).bind fun j => xs[j]?) = _
  rw [ixN_last h]
  simp
def boxD (ls : List Ln) (k : Nat) : Option Nat → D
  | some b => .lst [.str (ruleAt (gs ls) b), eStm (stAt (gs ls) b), .tup (refsAt (gs ls) b), eStm (stAt (gs ls) (endK (paths ls) k b))]
  | none => .non
section
variable {T : Nat → Option FD} {gl : Nat → Option D}
theorem o_pl {ls : List Ln} {k : Nat} (hk : k < ls.length) {P : D → Prop} (p : P (.tup ((nth (paths ls) k).map eN))) : okO (opIx (.lst ((paths ls).map fun p => .tup (p.map eN))) (.int (k : Int))) P := by
  refine o_ixl (d := .tup ((nth (paths ls) k).map eN)) ?_ p
  have := paths_get hk
  simp [this]
theorem lawBox_ok [Fn T 238 c_law_paths] [Fn T 253 c_law_box] {n : Nat} (hn : 2 ≤ n) {ls : List Ln} (ok : LinesOk ls) {k : Nat} (hk : k < ls.length) {r : D} (hr : flatD r = true) :
    callF T gl n 253 [.lst (ls.map Ln.enc), .int (k : Int), r] = .ok (boxD ls k (boxG (gs ls) (paths ls) k r)) := by
  refine eq_of_okR (okR_call (k := 1) hn rfl fun n hn => ?_)
  have lp := law_paths_ok (T := T) (gl := gl) (n := n) (by omega) ls ok
  have lv := line_val
  have l80 := ok.len
  cases r with
  | tup _ => cases hr
  | lst _ => cases hr
  | int i =>
    (repeat' ((try (conv => whnf)) <;> first | refine okR_of (lp) ?_ | with_reducible refine stepE ?_ | with_reducible refine stepEs ?_ | with_reducible refine stepB ?_ | with_reducible refine stepS ?_ | refine okO_of (o := getSh _ _) rfl ?_ | with_reducible refine okK_bl ?_ | with_reducible refine okT_tt ?_ | with_reducible refine okT_ff ?_ | with_reducible refine okT_ntt ?_ | with_reducible refine okT_dec (fun hT => ?_) (fun hT => ?_) | refine okO_of (o := opC _ (.int _) (.int _)) rfl ?_ | with_reducible refine o_isBi ?_ | with_reducible refine o_isI ?_)) <;> (try (conv => whnf))
    · rw [boxG, if_neg (by omega)]; rfl
    · rw [boxG, if_neg (by omega)]; rfl
    · obtain ⟨b, rfl⟩ : ∃ b : Nat, i = b := ⟨i.toNat, by omega⟩
      have hbk : b < k := by omega
      have hb : b < ls.length := by omega
      obtain ⟨e1, e2, e3⟩ := gs_st hb
      have eb : boxG (gs ls) (paths ls) k (.int (b : Int)) = if opR ls[b].rule = true ∧ boxSeenB (paths ls) k b = true then some b else none := by
        simp only [boxG, Int.toNat_natCast, e2]
        by_cases h : opR ls[b].rule = true ∧ boxSeenB (paths ls) k b = true
        · rw [if_pos ⟨by omega, by omega, h⟩, if_pos h]
        · rw [if_neg (fun h2 => h h2.2.2), if_neg h]
      rw [eb]
      have io : isIn (.str ls[b].rule) [.str [103, 117, 101, 115, 115], .str [110, 101, 119], .str [99, 97, 115, 101]] = opR ls[b].rule := isIn_op _
      cases ho : opR ls[b].rule
      · rw [ho] at io
        have io : (!isIn (.str ls[b].rule) [.str [103, 117, 101, 115, 115], .str [110, 101, 119], .str [99, 97, 115, 101]]) = true := by rw [io]; rfl
        (repeat' ((try (conv => whnf)) <;> first | refine o_lnl hb ?_ | refine o_ln1 ?_ | refine okT_ct io ?_ | with_reducible refine stepE ?_ | with_reducible refine stepEs ?_ | with_reducible refine stepB ?_ | with_reducible refine stepS ?_ | with_reducible refine okT_tt ?_ | with_reducible refine o_ninls ?_)) <;> (try (conv => whnf))
        simp [boxD]
      · rw [ho] at io
        have io : (!isIn (.str ls[b].rule) [.str [103, 117, 101, 115, 115], .str [110, 101, 119], .str [99, 97, 115, 101]]) = false := by rw [io]; rfl
        (repeat' ((try (conv => whnf)) <;> first | refine o_lnl hb ?_ | refine o_ln1 ?_ | refine okT_cf io ?_ | refine o_pl hk ?_ | refine o_pl hb ?_ | refine o_intN ?_ | with_reducible refine stepE ?_ | with_reducible refine stepEs ?_ | with_reducible refine stepB ?_ | with_reducible refine stepS ?_ | refine okO_of (o := getSh _ _) rfl ?_ | with_reducible refine okK_bl ?_ | with_reducible refine okT_bl (fun hT => ?_) (fun hT => ?_) | with_reducible refine o_subi ?_ | with_reducible refine o_ninls ?_ | refine okO_of (o := opF _ _) rfl ?_ | refine okO_of (o := ixPart _ _) rfl ?_)) <;> (try (conv => whnf))
        · rw [if_neg (by unfold boxSeenB; rw [hT]; simp)]
          rfl
        · have pb : 0 < (nth (paths ls) b).length := by
            rw [nth_paths hb]
            have ho2 : opR ((rls ls).getD b []) = true := by rw [(line_at hb).1]; exact ho
            show 0 < (if opR ((rls ls).getD b []) then _ else _ : List Nat).length
            rw [if_pos ho2]
            simp
          refine o_slt fun t ht _ => ?_
          have el : (((nth (paths ls) b).map eN).length : Int) - 1 = (((nth (paths ls) b).length - 1 : Nat) : Int) := by rw [List.length_map]; omega
          rw [el, cut_map, cut_take] at ht
          subst ht
          (repeat' ((try (conv => whnf)) <;> first | refine o_pl hb ?_ | with_reducible refine stepE ?_ | refine okO_of (o := getSh _ _) rfl ?_ | refine okO_of (o := ixPart _ _) rfl ?_ | refine okO_of (o := opNeg _) rfl ?_)) <;> (try (conv => whnf))
          refine o_slt fun t ht _ => ?_
          rw [cut_map, cut_init] at ht
          subst ht
          (try (conv => whnf)) <;> (try (conv => whnf))
          refine o_ne (by have := depthL_N ((nth (paths ls) b).dropLast); simp only [D.depth, eqDeep]; omega) ?_
          rw [eqv_tup, eqvL_N]
          have e : ((nth (paths ls) k).take ((nth (paths ls) b).length - 1) == (nth (paths ls) b).dropLast) = begB (nth (paths ls) k) (nth (paths ls) b).dropLast := by unfold begB; rw [List.length_dropLast]
          rw [e]
          have es : boxSeenB (paths ls) k b = begB (nth (paths ls) k) (nth (paths ls) b).dropLast := by unfold boxSeenB; rw [hT]; rfl
          rw [es]
          cases hs : begB (nth (paths ls) k) (nth (paths ls) b).dropLast
          · (repeat' ((try (conv => whnf)) <;> first | with_reducible refine stepE ?_ | with_reducible refine stepB ?_ | with_reducible refine stepS ?_ | with_reducible refine okT_nff ?_)) <;> (try (conv => whnf))
            simp [boxD]
          · (repeat' ((try (conv => whnf)) <;> first | with_reducible refine stepE ?_ | with_reducible refine stepB ?_ | with_reducible refine stepS ?_ | refine okO_of (o := getSh _ _) rfl ?_ | with_reducible refine okT_ntt ?_ | with_reducible refine stepIt ?_)) <;> (try (conv => whnf))
            refine o_rng1 (by omega) (by omega) ?_
            rw [Int.toNat_natCast, rng_map]
            refine okComp_filter eN (fun j => nth (paths ls) j == nth (paths ls) b) (fun j => eStm (stAt (gs ls) j)) (fun j hj => ?_) (fun j hj _ => ?_) ?_
            · have hj : j < ls.length := by have := List.mem_range.mp hj; omega
              (repeat' ((try (conv => whnf)) <;> first | refine o_pl hj ?_ | refine o_pl hb ?_ | refine o_eqtN ?_ | with_reducible refine stepE ?_ | refine okO_of (o := getSh _ _) rfl ?_)) <;> (try (conv => whnf))
            · have hj : j < ls.length := by have := List.mem_range.mp hj; omega
              (repeat' ((try (conv => whnf)) <;> first | refine o_lnl hj ?_ | refine o_ln2 ?_ | with_reducible refine stepE ?_ | refine okO_of (o := getSh _ _) rfl ?_)) <;> (try (conv => whnf))
              rw [(gs_st hj).1]
            · (repeat' ((try (conv => whnf)) <;> first | refine o_lnl hb ?_ | refine o_ln1 ?_ | refine o_ln2 ?_ | refine o_ln3 ?_ | with_reducible refine stepE ?_ | with_reducible refine stepEs ?_ | with_reducible refine stepB ?_ | with_reducible refine stepS ?_ | refine okO_of (o := getSh _ _) rfl ?_ | refine okO_of (o := getOwn _ _) rfl ?_ | refine okO_of (o := opNeg _) rfl ?_ | refine okO_of (o := listOf _) rfl ?_)) <;> (try (conv => whnf))
              have hne : b ∈ (List.range k).filter fun j => nth (paths ls) j == nth (paths ls) b := by
                rw [List.mem_filter]
                exact ⟨List.mem_range.mpr hbk, by simp⟩
              have hl : 0 < (((List.range k).filter fun j => nth (paths ls) j == nth (paths ls) b).map fun j => eStm (stAt (gs ls) j)).length := by
                rw [List.length_map]
                exact List.length_pos_of_mem hne
              refine o_ixLastD hl fun d hd => ?_
              have ed : d = eStm (stAt (gs ls) (endK (paths ls) k b)) := by
                rw [← List.getLast?_eq_getElem?, List.getLast?_map] at hd
                unfold endK
                cases h : ((List.range k).filter fun j => nth (paths ls) j == nth (paths ls) b).getLast? with
                | none => rw [h] at hd; cases hd
                | some j => rw [h] at hd; cases hd; rfl
              subst ed
              (repeat' ((try (conv => whnf)) <;> (with_reducible refine stepEs ?_))) <;> (try (conv => whnf))
              rw [if_pos ⟨rfl, rfl⟩]
              simp only [boxD, e1, e2, e3]
  | _ => (repeat' ((try (conv => whnf)) <;> first | with_reducible refine stepE ?_ | with_reducible refine stepEs ?_ | with_reducible refine stepB ?_ | with_reducible refine stepS ?_ | refine okO_of (o := getSh _ _) rfl ?_ | with_reducible refine okK_bl ?_ | with_reducible refine okT_tt ?_ | with_reducible refine okT_ct (by decide) ?_ | with_reducible refine okT_cf (by decide) ?_ | with_reducible refine o_isB ?_ | refine okO_of (o := opF _ _) rfl ?_)) <;> (try (conv => whnf)); rfl
theorem o_ixs0 {c : Nat} {t : List Nat} {P : D → Prop} (p : P (.str [c])) : okO (opIx (.str (c :: t)) (.int 0)) P := o_ixs (k := 0) rfl p
theorem tailOk_36 (t : List Nat) : tailOk t = t.all fun c => s36.contains c := by
  unfold tailOk
  congr 1
  funext c
  rw [show s36 = small ++ figs from rfl]
  rw [Bool.eq_iff_iff]
  simp only [Bool.or_eq_true, List.contains_iff_mem, List.mem_append]
theorem o_leT {i j : Int} {PB : Bool → Prop} (h : i ≤ j) (p : PB true) : okO (opC .le (.int i) (.int j)) PB := okO_of (by simp [opC, h]) p
theorem o_leF {i j : Int} {PB : Bool → Prop} (h : ¬ i ≤ j) (p : PB false) : okO (opC .le (.int i) (.int j)) PB := okO_of (by simp [opC]; omega) p
theorem lawIsName_ok [Fn T 265 c_law_is_name_v2] {n : Nat} (hn : 1 ≤ n) {r : D} (hr : flatD r = true) : callF T gl n 265 [r] = .ok (.bl (match r with | .str t => nameS t | _ => false)) := by
  refine eq_of_okR (okR_call (k := 0) hn rfl fun n hn => ?_)
  cases r with
  | tup _ => cases hr
  | lst _ => cases hr
  | str t =>
    show okB _ _ _ (c_law_is_name_v2.start [.str t]) _
    by_cases hl : 1 ≤ t.length ∧ t.length ≤ 8
    · obtain ⟨c, t', rfl⟩ : ∃ c t', t = c :: t' := by
        cases t with
        | nil => simp at hl
        | cons c t' => exact ⟨c, t', rfl⟩
      have hb : (decide (1 ≤ (c :: t').length) && decide ((c :: t').length ≤ 8)) = true := by simp; simpa using hl.2
      have e : nameS (c :: t') = (small.contains c && (tailOk t' && !kept.contains (c :: t'))) := by
        unfold nameS builtS
        rw [hb]
        simp only [List.getD_cons_zero, List.drop_succ_cons, List.drop_zero, Bool.true_and, Bool.and_assoc]
      show okB _ _ _ _ (.fn (fun y => y = .bl (nameS (c :: t'))) _)
      rw [e]
      cases hc : small.contains c
      · have hc' : (!small.contains c) = true := by rw [hc]; rfl
        (repeat' ((try (conv => whnf)) <;> first | refine o_leT (by simp only [List.length_cons] at hl ⊢; omega) ?_ | refine o_ixs0 ?_ | refine okT_ct hc' ?_ | with_reducible refine stepE ?_ | with_reducible refine stepEs ?_ | with_reducible refine stepB ?_ | with_reducible refine stepS ?_ | refine okO_of (o := getSh _ _) rfl ?_ | with_reducible refine okK_bl ?_ | with_reducible refine okT_tt ?_ | with_reducible refine okT_ntt ?_ | with_reducible refine o_nins ?_ | with_reducible refine o_isS ?_ | refine okO_of (o := opF _ _) rfl ?_)) <;> (try (conv => whnf))
        rfl
      · have hc' : (!small.contains c) = false := by rw [hc]; rfl
        have h36 : s36.contains c = true := by
          rw [show s36 = small ++ figs from rfl]
          simp only [List.contains_iff_mem, List.mem_append] at hc ⊢
          exact .inl hc
        (repeat' ((try (conv => whnf)) <;> first | refine o_leT (by simp only [List.length_cons] at hl ⊢; omega) ?_ | refine o_ixs0 ?_ | refine okT_cf hc' ?_ | refine okO_of (o := itemsOf (.str (c :: t'))) (a := (c :: t').map fun c => D.str [c]) rfl ?_ | with_reducible refine stepE ?_ | with_reducible refine stepEs ?_ | with_reducible refine stepB ?_ | with_reducible refine stepS ?_ | refine okO_of (o := getSh _ _) rfl ?_ | with_reducible refine okK_bl ?_ | with_reducible refine okT_tt ?_ | with_reducible refine okT_ntt ?_ | with_reducible refine o_nins ?_ | with_reducible refine o_isS ?_ | refine okO_of (o := opF _ _) rfl ?_ | with_reducible refine stepIt ?_)) <;> (try (conv => whnf))
        refine okComp_map (fun c : Nat => D.str [c]) (fun c => .bl (s36.contains c)) (fun c _ => ?_) ?_
        · (repeat' ((try (conv => whnf)) <;> first | with_reducible refine stepE ?_ | refine okO_of (o := getSh _ _) rfl ?_ | with_reducible refine o_ins ?_)) <;> (try (conv => whnf))
        rw [show ((c :: t').map fun c => D.bl (s36.contains c)) = ((c :: t').map fun c => s36.contains c).map .bl by simp]
        (repeat' ((try (conv => whnf)) <;> (with_reducible refine stepEs ?_))) <;> (try (conv => whnf))
        refine o_all ?_
        have ea : ((c :: t').map fun c => s36.contains c).all id = tailOk t' := by
          rw [tailOk_36, List.map_cons, List.all_cons, h36, List.all_map]
          rfl
        rw [ea]
        cases ht : tailOk t'
        · (repeat' ((try (conv => whnf)) <;> first | with_reducible refine stepE ?_ | with_reducible refine stepB ?_ | with_reducible refine stepS ?_ | with_reducible refine okK_bl ?_ | with_reducible refine okT_nff ?_)) <;> (try (conv => whnf))
          rfl
        · (repeat' ((try (conv => whnf)) <;> first | with_reducible refine stepE ?_ | with_reducible refine stepEs ?_ | with_reducible refine stepB ?_ | with_reducible refine stepS ?_ | refine okO_of (o := getSh _ _) rfl ?_ | with_reducible refine okK_bl ?_ | with_reducible refine okT_ntt ?_ | with_reducible refine o_ninls ?_)) <;> (try (conv => whnf))
          rw [show ([D.str [110, 111, 116], D.str [97, 110, 100], D.str [111, 114], D.str [116, 104, 101, 110], D.str [97, 108, 108], D.str [115, 111, 109, 101], D.str [102, 97, 108, 115, 101]] : List D) = kept.map D.str from rfl, isIn_strs]
          rfl
    · have e : nameS t = false := by
        unfold nameS builtS
        by_cases h : 1 ≤ t.length
        · have : ¬ t.length ≤ 8 := fun q => hl ⟨h, q⟩
          simp [this]
        · simp [h]
      show okB _ _ _ _ (.fn (fun y => y = .bl (nameS t)) _)
      rw [e]
      by_cases h1 : (1 : Int) ≤ t.length
      · (repeat' ((try (conv => whnf)) <;> first | refine o_leT h1 ?_ | refine o_leF (by omega) ?_ | with_reducible refine stepE ?_ | with_reducible refine stepEs ?_ | with_reducible refine stepB ?_ | with_reducible refine stepS ?_ | refine okO_of (o := getSh _ _) rfl ?_ | with_reducible refine okK_bl ?_ | with_reducible refine okT_tt ?_ | with_reducible refine okT_ntt ?_ | with_reducible refine okT_nff ?_ | with_reducible refine o_isS ?_ | refine okO_of (o := opF _ _) rfl ?_)) <;> (try (conv => whnf))
      · (repeat' ((try (conv => whnf)) <;> first | refine o_leF h1 ?_ | with_reducible refine stepE ?_ | with_reducible refine stepEs ?_ | with_reducible refine stepB ?_ | with_reducible refine stepS ?_ | refine okO_of (o := getSh _ _) rfl ?_ | with_reducible refine okK_bl ?_ | with_reducible refine okT_ff ?_ | with_reducible refine okT_ntt ?_ | with_reducible refine okT_nff ?_ | with_reducible refine o_isS ?_ | refine okO_of (o := opF _ _) rfl ?_)) <;> (try (conv => whnf))
  | _ => (repeat' ((try (conv => whnf)) <;> first | with_reducible refine stepE ?_ | with_reducible refine stepEs ?_ | with_reducible refine stepB ?_ | with_reducible refine stepS ?_ | refine okO_of (o := getSh _ _) rfl ?_ | with_reducible refine okK_bl ?_ | with_reducible refine okT_tt ?_ | with_reducible refine okT_ct (by decide) ?_ | refine okO_of (o := opF _ _) rfl ?_)) <;> (try (conv => whnf))
end
end Ev

/-! The laws' own hands: new names, one (k36). -/
namespace Ev
abbrev nmL (t : List Nat) (l : Ln) : Bool := namedG t l.g
theorem newG_gs {ls : List Ln} {b : Nat} {t : List Nat} (h : nameS t = true) : newG (gs ls) b [.str t] = !((ls.take b).any (nmL t)) := by
  unfold newG
  rw [show nameRef [.str t] = some t from by simp [nameRef, h]]
  simp only [gs, ← List.map_take, List.any_map]
  rfl
section
variable {T : Nat → Option FD} {gl : Nat → Option D}
theorem lawNamesO_ok [Fn T 273 c_law_names] {n : Nat} (hn : 102 ≤ n) {x : Option Stm} (hx : ∀ A, x = some A → StOk A) : callF T gl n 273 [eStm x] = .ok (.lst ((tmO x).map .str)) := by
  cases x with
  | none =>
    refine eq_of_okR (okR_call (k := 0) (by omega) rfl fun n hn => ?_)
    show okB _ _ _ (c_law_names.start [.non]) _
    (repeat' ((try (conv => whnf)) <;> first | refine okT_ct rfl ?_ | with_reducible refine stepE ?_ | with_reducible refine stepEs ?_ | with_reducible refine stepB ?_ | with_reducible refine stepS ?_ | refine okO_of (o := getSh _ _) rfl ?_)) <;> (try (conv => whnf))
    rfl
  | some A =>
    have hA := hx A rfl
    exact lawNames_ok A (by have := hA.dp; omega) hA.wf hA.sz
theorem named_tm {l : Ln} (hl : LgOk l.g) {t : List Nat} (ht : nameS t = true) : nmL t l = (isIn (.str t) l.refs || (tmO l.st).contains t) := by
  show ((match l.st with
    | some A => A.nms.contains t
    | none => false) || isIn (.str t) l.refs) = _
  cases hs : l.st with
  | none => simp [tmO]
  | some A =>
    show (A.nms.contains t || isIn (.str t) l.refs) = (isIn (.str t) l.refs || A.tm.contains t)
    rw [tm_nms (hl.st A hs).wf ht, Bool.or_comm]
end
theorem box_apart {ls : List Ln} {k b : Nat} {y : D} (hk : k < ls.length) (h : boxG (gs ls) (paths ls) k y = some b) : (nth (paths ls) k == nth (paths ls) b) = false := by
  cases y <;> simp only [boxG, reduceCtorEq] at h
  split at h
  · rename_i i q
    cases h
    obtain ⟨q0, q1, q2, q3⟩ := q
    have hb : i.toNat < ls.length := by omega
    rw [(gs_st hb).2.1] at q2
    have ho2 : opR ((rls ls).getD i.toNat []) = true := by rw [(line_at hb).1]; exact q2
    have hm : i.toNat ∈ nth (paths ls) i.toNat := by
      rw [nth_paths hb]
      show i.toNat ∈ (if opR ((rls ls).getD i.toNat []) then (pth (rls ls) (lvs ls) i.toNat).take ((lvs ls).getD i.toNat 0 - 1) ++ [i.toNat] else _ : List Nat)
      rw [if_pos ho2]
      simp
    unfold boxSeenB at q3
    rw [Bool.and_eq_true] at q3
    rw [beq_eq_false_iff_ne]
    intro e
    rw [← e] at hm
    have : (nth (paths ls) k).contains i.toNat = true := by simpa using hm
    rw [this] at q3
    cases q3.1
  · cases h
section
variable {T : Nat → Option FD} {gl : Nat → Option D}
theorem paths_len (ls : List Ln) : (paths ls).length = ls.length := by simp [paths, pths]
end
end Ev

/-! Lines that a law draws (k35). -/
namespace Ev
def B.tl : B → Nat → B
  | b, 0 => b
  | .cons _ b, k + 1 => B.tl b k
  | .freeze _ b, k + 1 => B.tl b k
  | .pair _ _ _ _ b, k + 1 => B.tl b k
  | b, _ => b
/-- closed, and not deep -/
abbrev Cs := Clo 8 600
theorem Cs.cl {A : Stm} (h : Cs A) : Cl A := h.le (by omega) (by omega)
/-- a line that may be handed in, its statement closed -/
structure LnF (l : Ln) : Prop where
  st : ∀ A, l.st = some A → Cs A
  refs : l.refs.length ≤ 3 ∧ ∀ r ∈ l.refs, flatD r = true
theorem Cl.ok {A : Stm} (h : Cl A) : StOk A := ⟨h.wf, by have := h.dp; omega, by have := h.sz; omega⟩
theorem LnF.g {l : Ln} (h : LnF l) : LgOk l.g := ⟨fun A hA => (h.st A hA).cl.ok, by have := h.refs.1; show l.refs.length ≤ 1000; omega, h.refs.2⟩
structure Lz (ls : List Ln) (m : Nat) : Prop where
  ln : ∀ l ∈ ls, LnF l
  lev : LevOk (rls ls) (lvs ls)
  len : ls.length ≤ m
theorem Lz.snoc {ls : List Ln} {m : Nat} (h : Lz ls m) {l : Ln} (hl : LnF l) (h1 : lst (opR l.rule) ≤ l.lv) (h2 : l.lv ≤ lastLv ls + lst (opR l.rule)) (h6 : l.lv ≤ 60) : Lz (ls ++ [l]) (m + 1) := by
  have := h.len
  refine ⟨fun k hk => ?_, levOk_snoc h.lev h1 h6 h2, by simp; omega⟩
  rcases List.mem_append.mp hk with q | q
  · exact h.ln k q
  · simp at q; subst q; exact hl
theorem Lz.le {ls : List Ln} {m k : Nat} (h : Lz ls m) (hk : m ≤ k) : Lz ls k := ⟨h.ln, h.lev, by have := h.len; omega⟩
theorem Lz.last {ls : List Ln} {m : Nat} (h : Lz ls m) {l : Ln} (hl : LgOk l.g) (h1 : lst (opR l.rule) ≤ l.lv) (h2 : l.lv ≤ lastLv ls + lst (opR l.rule)) (h6 : l.lv ≤ 60) (hm : m ≤ 70) : LinesOk (ls ++ [l]) ∧ ∀ z ∈ ls ++ [l], LgOk z.g := by
  have := h.len
  refine ⟨⟨by simp; omega, levOk_snoc h.lev h1 h6 h2⟩, fun k hk => ?_⟩
  rcases List.mem_append.mp hk with q | q
  · exact (h.ln k q).g
  · simp at q; subst q; exact hl
theorem depthL_lns : ∀ K : List Ln, (∀ z ∈ K, LgOk z.g) → D.depthL (K.map Ln.enc) ≤ 140 := fun K => by
  induction K with
  | nil => intro _; simp [D.depthL]
  | cons z K ih =>
    intro h
    have i1 := ih fun y hy => h y (List.mem_cons_of_mem _ hy)
    have hz := h z (List.mem_cons_self ..)
    have r1 : D.depthL z.refs ≤ 1 := by
      have : ∀ R : List D, (∀ y ∈ R, flatD y = true) → D.depthL R ≤ 1 := fun R => by
        induction R with
        | nil => intro _; simp [D.depthL]
        | cons y R ih =>
          intro h
          have i2 := ih fun w hw => h w (List.mem_cons_of_mem _ hw)
          have := h y (List.mem_cons_self ..)
          have : y.depth ≤ 1 := by cases y <;> simp_all [flatD, D.depth]
          simp only [D.depthL]
          omega
      exact this _ hz.refs.2
    have s1 : (eStm z.st).depth ≤ 120 := by
      cases q : z.st with
      | none => simp [eStm, D.depth]
      | some A =>
        have a1 := enc_depth A
        have a2 := (hz.st A q).dp
        simp only [eStm]
        omega
    simp only [List.map_cons, D.depthL, Ln.enc, D.depth]
    omega
/-- the line that opens the box -/
structure OpenL (l : Ln) : Prop where
  f : LnF l
  lv : l.lv = 1
  rule : l.rule = caseR ∨ l.rule = newR ∨ l.rule = guessR
  new : l.rule ≠ newR → ∃ A, l.st = some A
  old : l.rule = newR → l.st = none
theorem OpenL.op {l : Ln} (h : OpenL l) : opR l.rule = true := by rcases h.rule with e | e | e <;> rw [e] <;> decide
section
variable {T : Nat → Option FD} {gl : Nat → Option D}
theorem some2_ok [Fn T 232 c_law_cell_at_v1] [Fn T 234 c_law_letter_by] [Fn T 235 c_law_made] [Fn T 237 c_law_some] {n : Nat} (hn : 8 ≤ n) (s : List Int) (a : Int) {ns ws : List (List Nat)} (n0 : 0 < ns.length) (n3 : ns.length ≤ 3) (w3 : ws.length = 3) (hns : ∀ t ∈ ns, nameS t = true) (hws : ∀ t ∈ ws, nameS t = true) (m : Int) (m0 : 0 ≤ m) (m1 : m ≤ 1000) :
    okR (callF T gl n 237 [.lst (s.map .int), .int a, .lst [.lst (ns.map .str), .lst (ws.map .str)], .int m]) noX fun d => ∃ l : List Stm, d = .lst (l.map Stm.enc) ∧ l.length = m.toNat ∧ ∀ A ∈ l, Clo 5 31 A := by
  refine okR_call (k := 7) hn rfl fun n hn => ?_
  have lv := line_val
  (repeat' ((try (conv => whnf)) <;> first | with_reducible refine stepE ?_ | with_reducible refine stepEs ?_ | with_reducible refine stepB ?_ | with_reducible refine stepS ?_ | refine okO_of (o := getSh _ _) rfl ?_ | with_reducible refine stepIt ?_ | refine okO_of (o := listOf _) rfl ?_)) <;> (try (conv => whnf))
  refine o_rng1 (by omega) (by omega) ?_
  refine okFor_rng0 (I := fun k ρ => ∃ (l : List Stm) (v5 v6 : Option (Fl × D)), l.length = k ∧ (∀ A ∈ l, Clo 5 31 A) ∧ ρ = [some (.sh, .lst (s.map .int)), some (.sh, .int a), some (.sh, .lst [.lst (ns.map .str), .lst (ws.map .str)]), some (.sh, .int m), some (.own, .lst (l.map Stm.enc)), v5, v6]) ⟨[], _, _, rfl, by simp, rfl⟩ ?_ ?_
  · intro k hk ρ ⟨l, v5, v6, h1, h2, hρ⟩
    subst hρ
    (repeat' ((try (conv => whnf)) <;> first | with_reducible refine stepE ?_ | with_reducible refine stepEs ?_ | with_reducible refine stepB ?_ | with_reducible refine stepS ?_ | refine okO_of (o := getSh _ _) rfl ?_ | with_reducible refine o_addi ?_)) <;> (try (conv => whnf))
    refine okR_then (cell_at_v1_ok (by omega) s _) fun d ⟨c, hd, c0, c1⟩ => ?_
    subst hd
    (repeat' ((try (conv => whnf)) <;> first | with_reducible refine stepE ?_ | with_reducible refine stepEs ?_ | with_reducible refine stepB ?_ | with_reducible refine stepS ?_ | refine okO_of (o := getSh _ _) rfl ?_ | refine okO_of (o := getOwn _ _) rfl ?_)) <;> (try (conv => whnf))
    refine okO_of (a := .int 1000000000) (by simp [opB]) ?_
    (repeat' ((try (conv => whnf)) <;> first | with_reducible refine stepE ?_ | with_reducible refine stepEs ?_ | refine okO_of (o := getSh _ _) rfl ?_ | with_reducible refine o_addi ?_ | with_reducible refine o_mod (by first | decide | omega | (simp only [List.length_map, List.length_range, List.length_cons, List.length_nil, List.length_append]; omega)) ?_ | refine okO_of (o := opIx (.lst (_ :: _)) _) rfl ?_)) <;> (try (conv => whnf))
    refine okR_then (made_ok (1 + c % 4).toNat (1 + c % 4).toNat _ _ ns ws (Nat.le_refl _) (by omega) (by omega) n0 (by omega) (fun t ht => by simp [termOk, hns t ht]) w3 hws) fun d ⟨A, hd, hA⟩ => ?_
    subst hd
    refine o_app (by simp; omega) ?_
    (repeat' ((try (conv => whnf)) <;> (with_reducible refine stepB ?_))) <;> (try (conv => whnf))
    refine ⟨l ++ [A], _, _, by simp [h1], fun B hB => ?_, by simp; rfl⟩
    rcases List.mem_append.mp hB with h | h
    · exact h2 B h
    · simp at h
      subst h
      exact hA.cl (by omega) hns
  · intro ρ ⟨l, v5, v6, h1, h2, hρ⟩
    subst hρ
    (repeat' ((try (conv => whnf)) <;> first | with_reducible refine stepB ?_ | with_reducible refine stepS ?_ | refine okO_of (o := getOwn _ _) rfl ?_)) <;> (try (conv => whnf))
    exact ⟨l, rfl, h1, h2⟩
end
theorem mapS {ls : List Ln} {l : Ln} : ls.map Ln.enc ++ [l.enc] = (ls ++ [l]).map Ln.enc := by simp
theorem path_open {L : List Ln} {b : Nat} (hb : b < L.length) (op : opR L[b].rule = true) : nth (paths L) b = (path L b).take (L[b].lv - 1) ++ [b] := by
  rw [nth_paths hb]
  show (if opR ((rls L).getD b []) then (pth (rls L) (lvs L) b).take ((lvs L).getD b 0 - 1) ++ [b] else _) = _
  rw [(line_at hb).1, (line_at hb).2, op]
  rfl
theorem path_plain {L : List Ln} {b : Nat} (hb : b < L.length) (op : opR L[b].rule = false) : nth (paths L) b = (path L b).take L[b].lv := by
  rw [nth_paths hb]
  show (if opR ((rls L).getD b []) then _ else (pth (rls L) (lvs L) b).take ((lvs L).getD b 0)) = _
  rw [(line_at hb).1, (line_at hb).2, op]
  rfl
theorem fre_nil_of_cl {A : Stm} (h : Cl A) : A.fre.isEmpty = true := by rw [h.fre]; rfl
end Ev

/-! k35: a name out of a statement. -/
namespace Ev
/-- the term at place i, with what stands for it -/
def outT (m : D) (x : List Nat) (n : Int) (p : List Nat × Nat) : List Nat := if D.eqv (.str p.1) m && (decide (n = 0) || decide ((n + p.2) % 3 > 0)) then x else p.1
def outN (n : Int) : Int := n / 3 * (n % 2 + 1)
def Stm.out (m : D) (x : List Nat) : Stm → Int → Stm
  | .is w ts, n => .is w (ts.zipIdx.map (outT m x n))
  | .fls, _ => .fls
  | .not a, n => .not (a.out m x (outN n))
  | .bin o a b, n => .bin o (a.out m x (outN n)) (b.out m x (outN n))
  | .qu q y a, n => if y = x then .qu q y a else .qu q y (a.out m x n)
theorem strD (s : List Nat) (m : D) : min (D.str s).depth m.depth ≤ eqDeep := Nat.le_trans (Nat.min_le_left _ _) (by simp [D.depth]; decide)
theorem outN_lt {v : Int} (h0 : 0 ≤ v) (h1 : v < 50) : 0 ≤ outN v ∧ outN v < 50 := by
  unfold outN
  rcases (by omega : v % 2 = 0 ∨ v % 2 = 1) with h | h <;> rw [h] <;> omega
theorem out_dp (m : D) (x : List Nat) : ∀ (A : Stm) (n : Int), (A.out m x n).dp = A.dp
  | .is w ts, _ => rfl
  | .fls, _ => rfl
  | .not a, n => by simp only [Stm.out, Stm.dp, out_dp m x a]
  | .bin o a b, n => by simp only [Stm.out, Stm.dp, out_dp m x a, out_dp m x b]
  | .qu q y a, n => by
    simp only [Stm.out]
    split
    · rfl
    · simp only [Stm.dp, out_dp m x a]
theorem out_sz (m : D) (x : List Nat) : ∀ (A : Stm) (n : Int), (A.out m x n).sz = A.sz
  | .is w ts, _ => rfl
  | .fls, _ => rfl
  | .not a, n => by simp only [Stm.out, Stm.sz, out_sz m x a]
  | .bin o a b, n => by simp only [Stm.out, Stm.sz, out_sz m x a, out_sz m x b]
  | .qu q y a, n => by
    simp only [Stm.out]
    split
    · rfl
    · simp only [Stm.sz, out_sz m x a]
theorem outT_or (m : D) (x : List Nat) (n : Int) (p : List Nat × Nat) : outT m x n p = x ∨ outT m x n p = p.1 := by
  unfold outT
  split
  · exact .inl rfl
  · exact .inr rfl
theorem mem_zi {ts : List (List Nat)} {p : List Nat × Nat} (h : p ∈ ts.zipIdx) : p.1 ∈ ts := by
  have := List.mem_map_of_mem (f := Prod.fst) h
  rwa [List.zipIdx_map_fst] at this
theorem out_wf {m : D} {x : List Nat} (hx : termOk x = true) : ∀ (A : Stm) (n : Int), A.wf → (A.out m x n).wf
  | .is w ts, n, h => ⟨h.1, by simpa [Stm.out] using h.2.1, fun t ht => by
    simp only [List.mem_map] at ht
    obtain ⟨u, hu, rfl⟩ := ht
    rcases outT_or m x n u with e | e <;> rw [e]
    · exact hx
    · exact h.2.2 _ (mem_zi hu)⟩
  | .fls, _, _ => trivial
  | .not a, n, h => out_wf hx a _ h
  | .bin o a b, n, h => ⟨out_wf hx a _ h.1, out_wf hx b _ h.2⟩
  | .qu q y a, n, h => by
    simp only [Stm.out]
    split
    · exact h
    · exact ⟨h.1, out_wf hx a _ h.2⟩
theorem out_ft {m : D} {x t : List Nat} : ∀ (A : Stm) (n : Int), t ∈ (A.out m x n).ft → t ∈ A.ft ∨ t = x
  | .is w ts, n, h => by
    simp only [Stm.out, Stm.ft, List.mem_map] at h
    obtain ⟨u, hu, rfl⟩ := h
    rcases outT_or m x n u with e | e <;> rw [e]
    · exact .inr rfl
    · exact .inl (mem_zi hu)
  | .fls, _, h => by cases h
  | .not a, n, h => out_ft a _ h
  | .bin o a b, n, h => by
    rcases List.mem_append.mp h with h | h
    · exact (out_ft a _ h).imp_left fun h => List.mem_append_left _ h
    · exact (out_ft b _ h).imp_left fun h => List.mem_append_right _ h
  | .qu q y a, n, h => by
    simp only [Stm.out] at h
    split at h
    · exact .inl h
    · obtain ⟨h1, h2⟩ := List.mem_filter.mp h
      exact (out_ft a _ h1).imp_left fun h => List.mem_filter.mpr ⟨h, h2⟩
/-- the statement of the line every: closed by its letter -/
theorem out_cl {m : D} {x : List Nat} (hx : letterS x = true) {A : Stm} (h : Cs A) (n : Int) (q : Bool) : Cl (.qu q x (A.out m x n)) := by
  have d := h.dp
  have z := h.sz
  refine ⟨⟨hx, out_wf (by simp [termOk, hx]) A n h.wf⟩, by simp only [Stm.dp, out_dp]; omega, by simp only [Stm.sz, out_sz]; omega, nil_of_mem fun t ht => ?_⟩
  obtain ⟨m1, m2⟩ := (fre_mem _ t).mp ht
  obtain ⟨m3, m4⟩ := List.mem_filter.mp m1
  rcases out_ft A n m3 with e | e
  · have : t ∈ A.fre := (fre_mem A t).mpr ⟨e, m2⟩
    rw [h.fre] at this
    cases this
  · subst e; simp at m4
section
variable {T : Nat → Option FD} {gl : Nat → Option D}
theorem lawOut_ok [Fn T 274 c_law_out] {m : D} (hm : flatD m = true) (x : List Nat) : ∀ (A : Stm) {n : Nat} {v : Int}, A.dp + 1 ≤ n → A.wf → 0 ≤ v → v < 50 → callF T gl n 274 [A.enc, m, .str x, .int v] = .ok (A.out m x v).enc
  | .is w ts, n, v, hn, wf, h0, h1 => by
    refine eq_of_okR (okR_call (k := 1) hn rfl fun n hn => ?_)
    unfold Stm.enc
    have hl := wf.2.1
    have lv := line_val
    (repeat' ((try (conv => whnf)) <;> first | with_reducible refine stepE ?_ | with_reducible refine stepEs ?_ | with_reducible refine stepB ?_ | with_reducible refine stepS ?_ | refine okO_of (o := getSh _ _) rfl ?_ | with_reducible refine okT_ct (by decide) ?_ | with_reducible refine o_eqs ?_ | refine okO_of (o := opIx (.tup (_ :: _)) _) rfl ?_ | refine okO_of (o := opF _ _) rfl ?_ | with_reducible refine stepIt ?_ | refine okO_of (o := listOf _) rfl ?_)) <;> (try (conv => whnf))
    refine o_rng1 (by rw [lv]; omega) (by rw [List.length_map, lv]; omega) ?_
    refine okFor_rng0 (I := fun k ρ => ∃ v5 : Option (Fl × D), ρ = [some (.sh, .tup [.str [105, 115], .str w, .tup (ts.map .str)]), some (.sh, m), some (.sh, .str x), some (.sh, .int v), some (.own, .lst (((ts.take k).zipIdx.map (outT m x v)).map .str)), v5, none]) ⟨_, rfl⟩ ?_ ?_
    · intro k hk ρ ⟨v5, hρ⟩
      subst hρ
      have hk : k < ts.length := by simpa using hk
      have e0 : (ts.map D.str)[k]? = some (.str ts[k]) := by simp [hk]
      have ea : ((ts.take (k + 1)).zipIdx.map (outT m x v)).map D.str = ((ts.take k).zipIdx.map (outT m x v)).map D.str ++ [.str (outT m x v (ts[k], k))] := by
        rw [List.take_succ_eq_append_getElem hk]
        simp only [List.zipIdx_append, List.map_append, List.zipIdx_cons, List.zipIdx_nil, List.map_cons, List.map_nil, List.length_take, Nat.zero_add, Nat.min_eq_left (Nat.le_of_lt hk)]
      (repeat' ((try (conv => whnf)) <;> first | refine o_ixt e0 ?_ | refine o_eq (strD _ _) ?_ | with_reducible refine stepE ?_ | with_reducible refine stepB ?_ | with_reducible refine stepS ?_ | refine okO_of (o := getSh _ _) rfl ?_ | with_reducible refine okK_bl ?_ | with_reducible refine okT_tt ?_ | with_reducible refine okT_ff ?_ | with_reducible refine okT_dec (fun hT => ?_) (fun hT => ?_) | with_reducible refine okT_bl (fun hT => ?_) (fun hT => ?_) | with_reducible refine o_addi ?_ | with_reducible refine o_mod (by first | decide | omega | (simp only [List.length_map, List.length_range, List.length_cons, List.length_nil, List.length_append]; omega)) ?_ | with_reducible refine o_eqi ?_ | refine okO_of (o := opC _ (.int _) (.int _)) rfl ?_ | refine okO_of (o := opIx (.tup (_ :: _)) _) rfl ?_ | refine okO_of (o := getOwn _ _) rfl ?_)) <;> (try (conv => whnf))
      · refine o_app (by simp only [List.length_map, List.length_zipIdx, List.length_take]; omega) ?_
        (repeat' ((try (conv => whnf)) <;> (with_reducible refine stepB ?_))) <;> (try (conv => whnf))
        refine ⟨some (.sh, .int (k : Int)), ?_⟩
        rw [ea, show outT m x v (ts[k], k) = x from by simp_all [outT]]
        rfl
      · refine o_app (by simp only [List.length_map, List.length_zipIdx, List.length_take]; omega) ?_
        (repeat' ((try (conv => whnf)) <;> (with_reducible refine stepB ?_))) <;> (try (conv => whnf))
        refine ⟨some (.sh, .int (k : Int)), ?_⟩
        rw [ea, show outT m x v (ts[k], k) = x from by simp_all [outT]]
        rfl
      · refine o_app (by simp only [List.length_map, List.length_zipIdx, List.length_take]; omega) ?_
        (repeat' ((try (conv => whnf)) <;> (with_reducible refine stepB ?_))) <;> (try (conv => whnf))
        refine ⟨some (.sh, .int (k : Int)), ?_⟩
        rw [ea, show outT m x v (ts[k], k) = ts[k] from by simp_all [outT] <;> (intro h; omega)]
        rfl
      · refine o_app (by simp only [List.length_map, List.length_zipIdx, List.length_take]; omega) ?_
        (repeat' ((try (conv => whnf)) <;> (with_reducible refine stepB ?_))) <;> (try (conv => whnf))
        refine ⟨some (.sh, .int (k : Int)), ?_⟩
        rw [ea, show outT m x v (ts[k], k) = ts[k] from by simp_all [outT]]
        rfl
    · intro ρ ⟨v5, hρ⟩
      subst hρ
      (repeat' ((try (conv => whnf)) <;> first | with_reducible refine stepE ?_ | with_reducible refine stepEs ?_ | with_reducible refine stepB ?_ | with_reducible refine stepS ?_ | refine okO_of (o := getSh _ _) rfl ?_ | refine okO_of (o := opIx (.tup (_ :: _)) _) rfl ?_ | refine okO_of (o := opF _ _) rfl ?_ | refine okO_of (o := getAny _ _) rfl ?_)) <;> (try (conv => whnf))
      simp [Stm.out, Stm.enc]
  | .fls, n, v, hn, _, _, _ => by
    refine eq_of_okR (okR_call (k := 1) hn rfl fun n hn => ?_)
    unfold Stm.enc
    (repeat' ((try (conv => whnf)) <;> first | refine okT_cf rfl ?_ | with_reducible refine stepE ?_ | with_reducible refine stepEs ?_ | with_reducible refine stepB ?_ | with_reducible refine stepS ?_ | refine okO_of (o := getSh _ _) rfl ?_ | with_reducible refine o_eqs ?_ | with_reducible refine o_inls ?_ | refine okO_of (o := opIx (.tup (_ :: _)) _) rfl ?_ | refine okO_of (o := ixPart _ _) rfl ?_)) <;> (try (conv => whnf))
    refine o_slt fun t ht _ => ?_
    rw [cut_takeI _ (by omega)] at ht
    obtain rfl : t = [.str [102, 97, 108, 115, 101]] := ht
    (repeat' ((try (conv => whnf)) <;> first | with_reducible refine stepE ?_ | with_reducible refine stepEs ?_ | refine okO_of (o := getSh _ _) rfl ?_ | refine okO_of (o := ixPart _ _) rfl ?_ | with_reducible refine stepIt ?_)) <;> (try (conv => whnf))
    refine o_slt fun t ht _ => ?_
    rw [cut_dropI _ (by omega)] at ht
    obtain rfl : t = [] := ht
    (repeat' ((try (conv => whnf)) <;> first | with_reducible refine stepEs ?_ | refine okO_of (o := opF _ _) rfl ?_ | refine okO_of (o := itemsOf _) rfl ?_ | with_reducible refine okComp_nil ?_)) <;> (try (conv => whnf))
    refine o_addt (by (simp only [List.length_append, List.length_cons, List.length_nil, List.length_map, line_val]; omega)) ?_
    (try (conv => whnf)) <;> (try (conv => whnf))
    rfl
  | .not a, n, v, hn, wf, h0, h1 => by
    refine eq_of_okR (okR_call (k := a.dp + 1) hn rfl fun n hn => ?_)
    have ih := lawOut_ok hm x a (n := n) (v := outN v) (by omega) wf (outN_lt h0 h1).1 (outN_lt h0 h1).2
    unfold outN at ih
    unfold Stm.enc
    (repeat' ((try (conv => whnf)) <;> first | refine okT_cf rfl ?_ | with_reducible refine stepE ?_ | with_reducible refine stepEs ?_ | with_reducible refine stepB ?_ | with_reducible refine stepS ?_ | refine okO_of (o := getSh _ _) rfl ?_ | with_reducible refine o_eqs ?_ | with_reducible refine o_inls ?_ | refine okO_of (o := opIx (.tup (_ :: _)) _) rfl ?_ | refine okO_of (o := ixPart _ _) rfl ?_)) <;> (try (conv => whnf))
    refine o_slt fun t ht _ => ?_
    rw [cut_takeI _ (by omega)] at ht
    obtain rfl : t = [.str [110, 111, 116]] := ht
    (repeat' ((try (conv => whnf)) <;> first | with_reducible refine stepE ?_ | with_reducible refine stepEs ?_ | refine okO_of (o := getSh _ _) rfl ?_ | refine okO_of (o := ixPart _ _) rfl ?_ | with_reducible refine stepIt ?_)) <;> (try (conv => whnf))
    refine o_slt fun t ht _ => ?_
    rw [cut_dropI _ (by omega)] at ht
    obtain rfl : t = [a.enc] := ht
    (repeat' ((try (conv => whnf)) <;> first | refine okR_of (ih) ?_ | with_reducible refine stepE ?_ | with_reducible refine stepEs ?_ | refine okO_of (o := getSh _ _) rfl ?_ | with_reducible refine okT_tt ?_ | with_reducible refine o_addi ?_ | with_reducible refine o_mod (by first | decide | omega | (simp only [List.length_map, List.length_range, List.length_cons, List.length_nil, List.length_append]; omega)) ?_ | with_reducible refine o_fdiv (by first | decide | omega | (simp only [List.length_map, List.length_range, List.length_cons, List.length_nil, List.length_append]; omega)) (by first | decide | omega | (simp only [List.length_map, List.length_range, List.length_cons, List.length_nil, List.length_append]; omega)) ?_ | with_reducible refine o_mul (by first | (exact Or.inl (by decide)) | (exact Or.inr (by decide)) | omega) ?_ | refine okO_of (o := opF _ _) rfl ?_ | refine okO_of (o := itemsOf _) rfl ?_ | with_reducible refine okComp_cons ?_ | with_reducible refine okComp_nil ?_)) <;> (try (conv => whnf))
    refine o_addt (by (simp only [List.length_append, List.length_cons, List.length_nil, List.length_map, line_val]; omega)) ?_
    (try (conv => whnf)) <;> (try (conv => whnf))
    rfl
  | .bin o a b, n, v, hn, wf, h0, h1 => by
    refine eq_of_okR (okR_call (k := max a.dp b.dp + 1) hn rfl fun n hn => ?_)
    have ih1 := lawOut_ok hm x a (n := n) (v := outN v) (by omega) wf.1 (outN_lt h0 h1).1 (outN_lt h0 h1).2
    have ih2 := lawOut_ok hm x b (n := n) (v := outN v) (by omega) wf.2 (outN_lt h0 h1).1 (outN_lt h0 h1).2
    unfold outN at ih1 ih2
    unfold Stm.enc
    cases o
    · (repeat' ((try (conv => whnf)) <;> first | refine okT_cf rfl ?_ | with_reducible refine stepE ?_ | with_reducible refine stepEs ?_ | with_reducible refine stepB ?_ | with_reducible refine stepS ?_ | refine okO_of (o := getSh _ _) rfl ?_ | with_reducible refine o_eqs ?_ | with_reducible refine o_inls ?_ | refine okO_of (o := opIx (.tup (_ :: _)) _) rfl ?_ | refine okO_of (o := ixPart _ _) rfl ?_)) <;> (try (conv => whnf))
      refine o_slt fun t ht _ => ?_
      rw [cut_takeI _ (by omega)] at ht
      obtain rfl : t = [.str [97, 110, 100]] := ht
      (repeat' ((try (conv => whnf)) <;> first | with_reducible refine stepE ?_ | with_reducible refine stepEs ?_ | refine okO_of (o := getSh _ _) rfl ?_ | refine okO_of (o := ixPart _ _) rfl ?_ | with_reducible refine stepIt ?_)) <;> (try (conv => whnf))
      refine o_slt fun t ht _ => ?_
      rw [cut_dropI _ (by omega)] at ht
      obtain rfl : t = [a.enc, b.enc] := ht
      (repeat' ((try (conv => whnf)) <;> first | refine okR_of (ih1) ?_ | refine okR_of (ih2) ?_ | with_reducible refine stepE ?_ | with_reducible refine stepEs ?_ | refine okO_of (o := getSh _ _) rfl ?_ | with_reducible refine okT_tt ?_ | with_reducible refine o_addi ?_ | with_reducible refine o_mod (by first | decide | omega | (simp only [List.length_map, List.length_range, List.length_cons, List.length_nil, List.length_append]; omega)) ?_ | with_reducible refine o_fdiv (by first | decide | omega | (simp only [List.length_map, List.length_range, List.length_cons, List.length_nil, List.length_append]; omega)) (by first | decide | omega | (simp only [List.length_map, List.length_range, List.length_cons, List.length_nil, List.length_append]; omega)) ?_ | with_reducible refine o_mul (by first | (exact Or.inl (by decide)) | (exact Or.inr (by decide)) | omega) ?_ | refine okO_of (o := opF _ _) rfl ?_ | refine okO_of (o := itemsOf _) rfl ?_ | with_reducible refine okComp_cons ?_ | with_reducible refine okComp_nil ?_)) <;> (try (conv => whnf))
      refine o_addt (by (simp only [List.length_append, List.length_cons, List.length_nil, List.length_map, line_val]; omega)) ?_
      (try (conv => whnf)) <;> (try (conv => whnf))
      rfl
    · (repeat' ((try (conv => whnf)) <;> first | refine okT_cf rfl ?_ | with_reducible refine stepE ?_ | with_reducible refine stepEs ?_ | with_reducible refine stepB ?_ | with_reducible refine stepS ?_ | refine okO_of (o := getSh _ _) rfl ?_ | with_reducible refine o_eqs ?_ | with_reducible refine o_inls ?_ | refine okO_of (o := opIx (.tup (_ :: _)) _) rfl ?_ | refine okO_of (o := ixPart _ _) rfl ?_)) <;> (try (conv => whnf))
      refine o_slt fun t ht _ => ?_
      rw [cut_takeI _ (by omega)] at ht
      obtain rfl : t = [.str [111, 114]] := ht
      (repeat' ((try (conv => whnf)) <;> first | with_reducible refine stepE ?_ | with_reducible refine stepEs ?_ | refine okO_of (o := getSh _ _) rfl ?_ | refine okO_of (o := ixPart _ _) rfl ?_ | with_reducible refine stepIt ?_)) <;> (try (conv => whnf))
      refine o_slt fun t ht _ => ?_
      rw [cut_dropI _ (by omega)] at ht
      obtain rfl : t = [a.enc, b.enc] := ht
      (repeat' ((try (conv => whnf)) <;> first | refine okR_of (ih1) ?_ | refine okR_of (ih2) ?_ | with_reducible refine stepE ?_ | with_reducible refine stepEs ?_ | refine okO_of (o := getSh _ _) rfl ?_ | with_reducible refine okT_tt ?_ | with_reducible refine o_addi ?_ | with_reducible refine o_mod (by first | decide | omega | (simp only [List.length_map, List.length_range, List.length_cons, List.length_nil, List.length_append]; omega)) ?_ | with_reducible refine o_fdiv (by first | decide | omega | (simp only [List.length_map, List.length_range, List.length_cons, List.length_nil, List.length_append]; omega)) (by first | decide | omega | (simp only [List.length_map, List.length_range, List.length_cons, List.length_nil, List.length_append]; omega)) ?_ | with_reducible refine o_mul (by first | (exact Or.inl (by decide)) | (exact Or.inr (by decide)) | omega) ?_ | refine okO_of (o := opF _ _) rfl ?_ | refine okO_of (o := itemsOf _) rfl ?_ | with_reducible refine okComp_cons ?_ | with_reducible refine okComp_nil ?_)) <;> (try (conv => whnf))
      refine o_addt (by (simp only [List.length_append, List.length_cons, List.length_nil, List.length_map, line_val]; omega)) ?_
      (try (conv => whnf)) <;> (try (conv => whnf))
      rfl
    · (repeat' ((try (conv => whnf)) <;> first | refine okT_cf rfl ?_ | with_reducible refine stepE ?_ | with_reducible refine stepEs ?_ | with_reducible refine stepB ?_ | with_reducible refine stepS ?_ | refine okO_of (o := getSh _ _) rfl ?_ | with_reducible refine o_eqs ?_ | with_reducible refine o_inls ?_ | refine okO_of (o := opIx (.tup (_ :: _)) _) rfl ?_ | refine okO_of (o := ixPart _ _) rfl ?_)) <;> (try (conv => whnf))
      refine o_slt fun t ht _ => ?_
      rw [cut_takeI _ (by omega)] at ht
      obtain rfl : t = [.str [116, 104, 101, 110]] := ht
      (repeat' ((try (conv => whnf)) <;> first | with_reducible refine stepE ?_ | with_reducible refine stepEs ?_ | refine okO_of (o := getSh _ _) rfl ?_ | refine okO_of (o := ixPart _ _) rfl ?_ | with_reducible refine stepIt ?_)) <;> (try (conv => whnf))
      refine o_slt fun t ht _ => ?_
      rw [cut_dropI _ (by omega)] at ht
      obtain rfl : t = [a.enc, b.enc] := ht
      (repeat' ((try (conv => whnf)) <;> first | refine okR_of (ih1) ?_ | refine okR_of (ih2) ?_ | with_reducible refine stepE ?_ | with_reducible refine stepEs ?_ | refine okO_of (o := getSh _ _) rfl ?_ | with_reducible refine okT_tt ?_ | with_reducible refine o_addi ?_ | with_reducible refine o_mod (by first | decide | omega | (simp only [List.length_map, List.length_range, List.length_cons, List.length_nil, List.length_append]; omega)) ?_ | with_reducible refine o_fdiv (by first | decide | omega | (simp only [List.length_map, List.length_range, List.length_cons, List.length_nil, List.length_append]; omega)) (by first | decide | omega | (simp only [List.length_map, List.length_range, List.length_cons, List.length_nil, List.length_append]; omega)) ?_ | with_reducible refine o_mul (by first | (exact Or.inl (by decide)) | (exact Or.inr (by decide)) | omega) ?_ | refine okO_of (o := opF _ _) rfl ?_ | refine okO_of (o := itemsOf _) rfl ?_ | with_reducible refine okComp_cons ?_ | with_reducible refine okComp_nil ?_)) <;> (try (conv => whnf))
      refine o_addt (by (simp only [List.length_append, List.length_cons, List.length_nil, List.length_map, line_val]; omega)) ?_
      (try (conv => whnf)) <;> (try (conv => whnf))
      rfl
  | .qu q y a, n, v, hn, wf, h0, h1 => by
    refine eq_of_okR (okR_call (k := a.dp + 1) hn rfl fun n hn => ?_)
    have ih := lawOut_ok hm x a (n := n) (v := v) (by omega) wf.2 h0 h1
    unfold Stm.enc
    cases q
    all_goals
      (repeat' ((try (conv => whnf)) <;> first | refine okR_of (ih) ?_ | with_reducible refine stepE ?_ | with_reducible refine stepEs ?_ | with_reducible refine stepB ?_ | with_reducible refine stepS ?_ | refine okO_of (o := getSh _ _) rfl ?_ | with_reducible refine okK_bl ?_ | with_reducible refine okT_ct (by decide) ?_ | with_reducible refine okT_cf (by decide) ?_ | with_reducible refine okT_bl (fun hT => ?_) (fun hT => ?_) | with_reducible refine o_eqs ?_ | with_reducible refine o_inls ?_ | refine okO_of (o := opIx (.tup (_ :: _)) _) rfl ?_)) <;> (try (conv => whnf))
      · have : y = x := by simpa using hT
        simp [Stm.out, this, Stm.enc]
      · have : ¬ y = x := by simpa using hT
        simp [Stm.out, this, Stm.enc]
end
end Ev

/-! k35: new and every, by the law's own hand. -/
namespace Ev
section
variable {T : Nat → Option FD} {gl : Nat → Option D}
theorem lawNew35_ok [Fn T 265 c_law_is_name_v2] [Fn T 273 c_law_names] [Fn T 276 c_law_new] {n : Nat} (hn : 104 ≤ n) {ls : List Ln} (hl : ∀ l ∈ ls, LgOk l.g) {b : Nat} (hb : b < ls.length) : callF T gl n 276 [.lst (ls.map Ln.enc), .int (b : Int)] = .ok (.bl ((ls[b].rule == newR) && newG (gs ls) b ls[b].refs)) := by
  refine eq_of_okR (okR_call (k := 103) hn rfl fun n hn => ?_)
  have hlk := hl ls[b] (List.getElem_mem hb)
  cases hr : ls[b].rule == newR
  · have hr2 : (!(ls[b].rule == [110, 101, 119])) = true := by rw [show (ls[b].rule == [110, 101, 119]) = false from hr]; rfl
    (repeat' ((try (conv => whnf)) <;> first | refine o_lnl hb ?_ | refine o_ln3 ?_ | refine o_ln1 ?_ | refine okT_ct hr2 ?_ | with_reducible refine stepE ?_ | with_reducible refine stepB ?_ | with_reducible refine stepS ?_ | refine okO_of (o := getSh _ _) rfl ?_ | with_reducible refine okT_tt ?_ | with_reducible refine o_nes ?_)) <;> (try (conv => whnf))
    rfl
  have hr2 : (!(ls[b].rule == [110, 101, 119])) = false := by rw [show (ls[b].rule == [110, 101, 119]) = true from hr]; rfl
  rw [Bool.true_and]
  by_cases h1 : ls[b].refs.length = 1
  · obtain ⟨x, hf⟩ := List.length_eq_one_iff.mp h1
    have hx := hlk.refs.2 x (by show x ∈ ls[b].refs; rw [hf]; simp)
    have nm := lawIsName_ok (T := T) (gl := gl) (n := n) (by omega) hx
    rw [hf]
    by_cases hs : ∃ t, x = .str t ∧ nameS t = true
    · obtain ⟨t, rfl, ht⟩ := hs
      have nm : callF T gl n 265 [.str t] = .ok (.bl true) := by rw [nm]; simp only [ht]
      rw [newG_gs ht]
      have hlt : ∀ l ∈ ls.take b, LgOk l.g := fun l hm => hl l (List.mem_of_mem_take hm)
      (repeat' ((try (conv => whnf)) <;> first | refine o_lnl hb ?_ | refine o_ln3r hf ?_ | refine o_ln1 ?_ | refine okT_cf hr2 ?_ | refine okT_cf rfl ?_ | refine okR_of (nm) ?_ | with_reducible refine stepE ?_ | with_reducible refine stepEs ?_ | with_reducible refine stepB ?_ | with_reducible refine stepS ?_ | refine okO_of (o := getSh _ _) rfl ?_ | with_reducible refine okK_bl ?_ | with_reducible refine o_nei ?_ | with_reducible refine o_nes ?_ | refine okO_of (o := opIx (.tup (_ :: _)) _) rfl ?_ | refine okO_of (o := opF _ _) rfl ?_ | refine okO_of (o := ixPart _ _) rfl ?_ | with_reducible refine stepIt ?_)) <;> (try (conv => whnf))
      refine o_sll fun u hu _ => ?_
      rw [cut_map, cut_take] at hu
      subst hu
      generalize ls.take b = tk at hlt ⊢
      (repeat' ((try (conv => whnf)) <;> (refine okO_of (o := itemsOf _) rfl ?_))) <;> (try (conv => whnf))
      refine okFor_map Ln.enc (I := fun rest ρ => ∃ v3 : Option (Fl × D), tk.any (nmL t) = rest.any (nmL t) ∧ (∀ l ∈ rest, LgOk l.g) ∧ ρ = [some (.sh, .lst (ls.map Ln.enc)), some (.sh, .int (b : Int)), some (.sh, .tup [.str t]), v3]) (fun l rest ρ ⟨v3, ha, hr, hρ⟩ => ?_) (fun ρ ⟨v3, ha, hr, hρ⟩ => ?_) ⟨_, rfl, hlt, rfl⟩
      · subst hρ
        have hl0 := hr l (List.mem_cons_self ..)
        have ln := lawNamesO_ok (T := T) (gl := gl) (n := n) (by omega) (x := l.st) hl0.st
        have hn := named_tm hl0 ht
        rw [List.any_cons] at ha
        (repeat' ((try (conv => whnf)) <;> first | refine o_ln3 ?_ | refine o_ln2 ?_ | refine okR_of (ln) ?_ | with_reducible refine stepE ?_ | with_reducible refine stepEs ?_ | with_reducible refine stepB ?_ | with_reducible refine stepS ?_ | refine okO_of (o := getSh _ _) rfl ?_ | with_reducible refine okK_bl ?_ | with_reducible refine okT_tt ?_ | with_reducible refine okT_bl (fun hT => ?_) (fun hT => ?_) | with_reducible refine o_inls ?_ | with_reducible refine o_ints ?_ | refine okO_of (o := opIx (.tup (_ :: _)) _) rfl ?_)) <;> (try (conv => whnf))
        · rw [ha, hn, hT]
          rfl
        · rw [isIn_strs] at hT
          rw [ha, hn, hT]
          simp
        · rename_i h2
          rw [isIn_strs] at hT
          refine ⟨some (.sh, l.enc), ?_, fun x hx => hr x (List.mem_cons_of_mem _ hx), rfl⟩
          rw [ha, hn, hT, h2]
          rfl
      · subst hρ
        (repeat' ((try (conv => whnf)) <;> first | with_reducible refine stepE ?_ | with_reducible refine stepB ?_ | with_reducible refine stepS ?_)) <;> (try (conv => whnf))
        rw [ha]
        rfl
    · have e1 : nameRef [x] = none := by
        cases x with
        | str t =>
          have : ¬ nameS t = true := fun h => hs ⟨t, rfl, h⟩
          simp [nameRef, this]
        | _ => rfl
      have e2 : callF T gl n 265 [x] = .ok (.bl false) := by
        rw [nm]
        cases x with
        | str t =>
          have : nameS t = false := by
            have : ¬ nameS t = true := fun h => hs ⟨t, rfl, h⟩
            simpa using this
          simp only [this]
        | _ => rfl
      have e3 : newG (gs ls) b [x] = false := by unfold newG; rw [e1]
      rw [e3]
      (repeat' ((try (conv => whnf)) <;> first | refine o_lnl hb ?_ | refine o_ln3r hf ?_ | refine o_ln1 ?_ | refine okT_cf hr2 ?_ | refine okT_cf rfl ?_ | refine okR_of (e2) ?_ | with_reducible refine stepE ?_ | with_reducible refine stepEs ?_ | with_reducible refine stepB ?_ | with_reducible refine stepS ?_ | refine okO_of (o := getSh _ _) rfl ?_ | with_reducible refine okK_bl ?_ | with_reducible refine okT_nff ?_ | with_reducible refine o_nei ?_ | with_reducible refine o_nes ?_ | refine okO_of (o := opIx (.tup (_ :: _)) _) rfl ?_ | refine okO_of (o := opF _ _) rfl ?_)) <;> (try (conv => whnf))
  · have e : nameRef ls[b].refs = none := by
      generalize ls[b].refs = l at h1
      match l, h1 with
      | [], _ => rfl
      | [_], h => simp at h
      | a :: _ :: _, _ => cases a <;> rfl
    have e3 : newG (gs ls) b ls[b].refs = false := by unfold newG; rw [e]
    have h2 : decide ((ls[b].refs.length : Int) ≠ 1) = true := by simp; omega
    rw [e3]
    (repeat' ((try (conv => whnf)) <;> first | refine o_lnl hb ?_ | refine o_ln3 ?_ | refine o_ln1 ?_ | refine okT_cf hr2 ?_ | refine okT_ct h2 ?_ | with_reducible refine stepE ?_ | with_reducible refine stepEs ?_ | with_reducible refine stepB ?_ | with_reducible refine stepS ?_ | refine okO_of (o := getSh _ _) rfl ?_ | with_reducible refine okK_bl ?_ | with_reducible refine okT_tt ?_ | with_reducible refine o_nei ?_ | with_reducible refine o_nes ?_ | refine okO_of (o := opF _ _) rfl ?_)) <;> (try (conv => whnf))
theorem everyG_none (ls : List Lg) (P : List (List Nat)) (k : Nat) (x : D) (S : Stm) : everyG ls P k x S none = false := by
  cases S with
  | qu q y a => cases q <;> rfl
  | _ => rfl
theorem lawEvery_ok [Fn T 238 c_law_paths] [Fn T 253 c_law_box] [Fn T 263 c_law_put_v1] [Fn T 265 c_law_is_name_v2] [Fn T 273 c_law_names] [Fn T 277 c_law_every] {n : Nat} (hn : 104 ≤ n) {ls : List Ln} (ok : LinesOk ls) (hl : ∀ l ∈ ls, LgOk l.g) {k : Nat} (hk : k + 1 = ls.length) {S : Stm} (hs : (ls[k]'(by omega)).st = some S) {y : D} (hf : (ls[k]'(by omega)).refs = [y]) :
    callF T gl n 277 [.lst (ls.map Ln.enc), .int (k : Int)] = .ok (.bl (byG (gs ls) (paths ls) k sEvery S [y])) := by
  refine eq_of_okR (okR_call (k := 103) hn rfl fun n hn => ?_)
  rw [show byG (gs ls) (paths ls) k sEvery S [y] = everyG (gs ls) (paths ls) k y S (boxNameG (gs ls) (paths ls) k y newR) from rfl]
  have hk2 : k < ls.length := by omega
  have hlk := hl ls[k] (List.getElem_mem hk2)
  have hS := hlk.st S hs
  have fy : flatD y = true := hlk.refs.2 y (by show y ∈ ls[k].refs; rw [hf]; simp)
  have lb := lawBox_ok (T := T) (gl := gl) (n := n) (by omega) ok hk2 fy
  have nS := lawNames_ok (T := T) (gl := gl) S (n := n) (by have := hS.dp; omega) hS.wf hS.sz
  cases hb : boxG (gs ls) (paths ls) k y with
  | none =>
    rw [hb] at lb
    have lb : callF T gl n 253 [.lst (ls.map Ln.enc), .int (k : Int), y] = .ok .non := lb
    have e : boxNameG (gs ls) (paths ls) k y newR = none := by unfold boxNameG; rw [hb]
    rw [e, everyG_none]
    (repeat' ((try (conv => whnf)) <;> first | refine o_lnl hk2 ?_ | refine o_ln2r hs ?_ | refine o_ln3r hf ?_ | refine okT_ct rfl ?_ | refine okR_of (lb) ?_ | with_reducible refine stepE ?_ | with_reducible refine stepEs ?_ | with_reducible refine stepB ?_ | with_reducible refine stepS ?_ | refine okO_of (o := getSh _ _) rfl ?_ | refine okO_of (o := opIx (.tup (_ :: _)) _) rfl ?_)) <;> (try (conv => whnf))
  | some b =>
    rw [hb] at lb
    obtain ⟨hbk, hy⟩ := boxG_lt hb
    have hbl : b < ls.length := by omega
    obtain ⟨e1, e2, e3⟩ := gs_st hbl
    have ap := box_apart hk2 hb
    have ee := endK_end (P := paths ls) (k := k) (b := b) (by rw [paths_len]; omega) hbk ap
    have lb : callF T gl n 253 [.lst (ls.map Ln.enc), .int (k : Int), y] = .ok (.lst [.str ls[b].rule, eStm ls[b].st, .tup ls[b].refs, eStm (stAt (gs ls) (endG (paths ls) b))]) := by
      rw [lb]
      simp only [boxD, e1, e2, e3, ee]
    have hlb := hl ls[b] (List.getElem_mem hbl)
    cases hr : ls[b].rule == newR
    · have hr2 : (!(ls[b].rule == [110, 101, 119])) = true := by rw [show (ls[b].rule == [110, 101, 119]) = false from hr]; rfl
      have e : boxNameG (gs ls) (paths ls) k y newR = none := by
        unfold boxNameG
        rw [hb]
        simp only [e2, hr, Bool.false_eq_true, if_false]
      rw [e, everyG_none]
      (repeat' ((try (conv => whnf)) <;> first | refine o_lnl hk2 ?_ | refine o_ln2r hs ?_ | refine o_ln3r hf ?_ | refine okT_ct hr2 ?_ | refine okT_ct rfl ?_ | refine okT_cf rfl ?_ | refine okR_of (lb) ?_ | with_reducible refine stepE ?_ | with_reducible refine stepEs ?_ | with_reducible refine stepB ?_ | with_reducible refine stepS ?_ | refine okO_of (o := getSh _ _) rfl ?_ | with_reducible refine okK_bl ?_ | with_reducible refine o_nes ?_ | refine okO_of (o := opIx (.tup (_ :: _)) _) rfl ?_ | refine okO_of (o := opIx (.lst (_ :: _)) _) rfl ?_)) <;> (try (conv => whnf))
    · have hr2 : (!(ls[b].rule == [110, 101, 119])) = false := by rw [show (ls[b].rule == [110, 101, 119]) = true from hr]; rfl
      have e : boxNameG (gs ls) (paths ls) k y newR = nameRef ls[b].refs := by
        unfold boxNameG
        rw [hb]
        simp only [e2, e3, hr, if_true]
      rw [e]
      by_cases h1 : ls[b].refs.length = 1
      · obtain ⟨u, hu⟩ := List.length_eq_one_iff.mp h1
        have fu := hlb.refs.2 u (by show u ∈ ls[b].refs; rw [hu]; simp)
        have nm := lawIsName_ok (T := T) (gl := gl) (n := n) (by omega) fu
        rw [hu] at lb ⊢
        by_cases hn : ∃ t, u = .str t ∧ nameS t = true
        · obtain ⟨t, rfl, ht⟩ := hn
          have nm : callF T gl n 265 [.str t] = .ok (.bl true) := by rw [nm]; simp only [ht]
          rw [show nameRef [.str t] = some t from by simp [nameRef, ht]]
          cases S with
          | bin o a b => cases o <;> ((repeat' ((try (conv => whnf)) <;> first | refine o_lnl hk2 ?_ | refine o_ln2r hs ?_ | refine o_ln3r hf ?_ | refine okT_cf hr2 ?_ | refine okT_ct rfl ?_ | refine okT_cf rfl ?_ | refine o_hd ?_ | refine okR_of (lb) ?_ | refine okR_of (nm) ?_ | with_reducible refine stepE ?_ | with_reducible refine stepEs ?_ | with_reducible refine stepB ?_ | with_reducible refine stepS ?_ | refine okO_of (o := getSh _ _) rfl ?_ | with_reducible refine okK_bl ?_ | with_reducible refine o_nei ?_ | with_reducible refine o_nes ?_ | refine okO_of (o := opIx (.tup (_ :: _)) _) rfl ?_ | refine okO_of (o := opIx (.lst (_ :: _)) _) rfl ?_ | refine okO_of (o := opF _ _) rfl ?_)) <;> (try (conv => whnf)); rfl)
          | qu q z a =>
            cases q
            · (repeat' ((try (conv => whnf)) <;> first | refine o_lnl hk2 ?_ | refine o_ln2r hs ?_ | refine o_ln3r hf ?_ | refine okT_cf hr2 ?_ | refine okT_ct rfl ?_ | refine okT_cf rfl ?_ | refine o_hd ?_ | refine okR_of (lb) ?_ | refine okR_of (nm) ?_ | with_reducible refine stepE ?_ | with_reducible refine stepEs ?_ | with_reducible refine stepB ?_ | with_reducible refine stepS ?_ | refine okO_of (o := getSh _ _) rfl ?_ | with_reducible refine okK_bl ?_ | with_reducible refine o_nei ?_ | with_reducible refine o_nes ?_ | refine okO_of (o := opIx (.tup (_ :: _)) _) rfl ?_ | refine okO_of (o := opIx (.lst (_ :: _)) _) rfl ?_ | refine okO_of (o := opF _ _) rfl ?_)) <;> (try (conv => whnf))
              rfl
            · have pt := lawPut_ok (T := T) (gl := gl) z t a (n := n) (by have := hS.dp; simp only [Stm.dp] at this; omega)
              have pd : (a.put z t).dp ≤ 140 := by rw [put_dp]; have := hS.dp; simp only [Stm.dp] at this; omega
              have goal : everyG (gs ls) (paths ls) k y (.qu true z a) (some t) = (!(Stm.qu true z a).tm.contains t && decide (stAt (gs ls) (endG (paths ls) b) = some (a.put z t))) := by
                rw [tm_nms hS.wf ht]
                show (!(Stm.qu true z a).nms.contains t && decide (((boxG (gs ls) (paths ls) k y).bind fun b => stAt (gs ls) (endG (paths ls) b)) = some (a.put z t))) = _
                rw [hb]
                rfl
              rw [goal]
              (repeat' ((try (conv => whnf)) <;> first | refine o_lnl hk2 ?_ | refine o_ln2r hs ?_ | refine o_ln3r hf ?_ | refine okT_cf hr2 ?_ | refine okT_cf rfl ?_ | refine o_hd ?_ | refine enc_0 (d := a.enc) rfl ?_ | refine enc_0 (d := .str z) rfl ?_ | refine o_eqD pd ?_ | refine okR_of (lb) ?_ | refine okR_of (nm) ?_ | refine okR_of (nS) ?_ | refine okR_of (pt) ?_ | with_reducible refine stepE ?_ | with_reducible refine stepEs ?_ | with_reducible refine stepB ?_ | with_reducible refine stepS ?_ | refine okO_of (o := getSh _ _) rfl ?_ | with_reducible refine okK_bl ?_ | with_reducible refine okT_bl (fun hT => ?_) (fun hT => ?_) | with_reducible refine o_nei ?_ | with_reducible refine o_nes ?_ | with_reducible refine o_inls ?_ | refine okO_of (o := opIx (.tup (_ :: _)) _) rfl ?_ | refine okO_of (o := opIx (.lst (_ :: _)) _) rfl ?_ | refine okO_of (o := opF _ _) rfl ?_)) <;> (try (conv => whnf))
              · rw [isIn_strs] at hT
                rw [hT]; rfl
              · rw [isIn_strs] at hT
                rw [hT]; rfl
          | _ => (repeat' ((try (conv => whnf)) <;> first | refine o_lnl hk2 ?_ | refine o_ln2r hs ?_ | refine o_ln3r hf ?_ | refine okT_cf hr2 ?_ | refine okT_ct rfl ?_ | refine okT_cf rfl ?_ | refine o_hd ?_ | refine okR_of (lb) ?_ | refine okR_of (nm) ?_ | with_reducible refine stepE ?_ | with_reducible refine stepEs ?_ | with_reducible refine stepB ?_ | with_reducible refine stepS ?_ | refine okO_of (o := getSh _ _) rfl ?_ | with_reducible refine okK_bl ?_ | with_reducible refine o_nei ?_ | with_reducible refine o_nes ?_ | refine okO_of (o := opIx (.tup (_ :: _)) _) rfl ?_ | refine okO_of (o := opIx (.lst (_ :: _)) _) rfl ?_ | refine okO_of (o := opF _ _) rfl ?_)) <;> (try (conv => whnf)); rfl
        · have e1 : nameRef [u] = none := by
            cases u with
            | str t =>
              have : ¬ nameS t = true := fun h => hn ⟨t, rfl, h⟩
              simp [nameRef, this]
            | _ => rfl
          have e2 : callF T gl n 265 [u] = .ok (.bl false) := by
            rw [nm]
            cases u with
            | str t =>
              have : nameS t = false := by
                have : ¬ nameS t = true := fun h => hn ⟨t, rfl, h⟩
                simpa using this
              simp only [this]
            | _ => rfl
          rw [e1, everyG_none]
          (repeat' ((try (conv => whnf)) <;> first | refine o_lnl hk2 ?_ | refine o_ln2r hs ?_ | refine o_ln3r hf ?_ | refine okT_cf hr2 ?_ | refine okT_ct rfl ?_ | refine okT_cf rfl ?_ | refine okR_of (lb) ?_ | refine okR_of (e2) ?_ | with_reducible refine stepE ?_ | with_reducible refine stepEs ?_ | with_reducible refine stepB ?_ | with_reducible refine stepS ?_ | refine okO_of (o := getSh _ _) rfl ?_ | with_reducible refine okK_bl ?_ | with_reducible refine o_nei ?_ | with_reducible refine o_nes ?_ | refine okO_of (o := opIx (.tup (_ :: _)) _) rfl ?_ | refine okO_of (o := opIx (.lst (_ :: _)) _) rfl ?_ | refine okO_of (o := opF _ _) rfl ?_)) <;> (try (conv => whnf))
      · have e : nameRef ls[b].refs = none := by
          generalize ls[b].refs = l at h1
          match l, h1 with
          | [], _ => rfl
          | [_], h => simp at h
          | a :: _ :: _, _ => cases a <;> rfl
        have h2 : decide ((ls[b].refs.length : Int) ≠ 1) = true := by simp; omega
        rw [e, everyG_none]
        (repeat' ((try (conv => whnf)) <;> first | refine o_lnl hk2 ?_ | refine o_ln2r hs ?_ | refine o_ln3r hf ?_ | refine okT_cf hr2 ?_ | refine okT_ct h2 ?_ | refine okT_ct rfl ?_ | refine okT_cf rfl ?_ | refine okR_of (lb) ?_ | with_reducible refine stepE ?_ | with_reducible refine stepEs ?_ | with_reducible refine stepB ?_ | with_reducible refine stepS ?_ | refine okO_of (o := getSh _ _) rfl ?_ | with_reducible refine okK_bl ?_ | with_reducible refine o_nei ?_ | with_reducible refine o_nes ?_ | refine okO_of (o := opIx (.tup (_ :: _)) _) rfl ?_ | refine okO_of (o := opIx (.lst (_ :: _)) _) rfl ?_ | refine okO_of (o := opF _ _) rfl ?_)) <;> (try (conv => whnf))
end
end Ev

/-! k35: the lines that are drawn. -/
namespace Ev
section
variable {T : Nat → Option FD} {gl : Nat → Option D}
theorem lines35_ok [Fn T 232 c_law_cell_at_v1] [Fn T 275 c_law_lines_v2] {n : Nat} (hn : 3 ≤ n) (s : List Int) {ns ws : List (List Nat)} (dr : DrawOk ns ws) {ps : List Stm} (p3 : ps.length = 3) (hp : ∀ A ∈ ps, Clo 5 31 A) :
    okR (callF T gl n 275 [.lst (s.map .int), .lst (ps.map Stm.enc), .lst [.lst (ns.map .str), .lst (ws.map .str)]]) noX fun d => ∃ (ls : List Ln) (b : Nat) (u : D), d = .lst [.lst (ls.map Ln.enc), u, .int (b : Int)] ∧ flatD u = true ∧ Lz ls 20 ∧ ∃ h : b < ls.length, OpenL ls[b] := by
  refine okR_call (k := 2) hn rfl fun n hn => ?_
  have lv := line_val
  have n3 := dr.n3
  let G : D → Prop := fun d => ∃ (ls : List Ln) (b : Nat) (u : D), d = .lst [.lst (ls.map Ln.enc), u, .int (b : Int)] ∧ flatD u = true ∧ Lz ls 20 ∧ ∃ h : b < ls.length, OpenL ls[b]
  have name : ∀ {j : Int} {P : D → Prop}, (∀ m : List Nat, P (.str m)) → okO (opIx (.lst (ns.map D.str)) (.int (j % 3))) P := fun {j P} h => o_ixlm (dec := fun t : List Nat => D.str t) (by omega) (by omega) fun m _ => h m
  have part : ∀ {j : Int} {P : D → Prop}, (∀ B, Cs B → P B.enc) → okO (opIx (.lst (ps.map Stm.enc)) (.int (j % ((ps.map Stm.enc).length : Int)))) P := fun {j P} h => by
    rw [List.length_map]
    exact o_ixlm (dec := Stm.enc) (Int.emod_nonneg _ (by omega)) (Int.emod_lt_of_pos _ (by omega)) fun B hB => h B ((hp B (List.mem_of_getElem? hB)).le (by omega) (by omega))
  have flat : ∀ (m : List Nat) (y : D), y ∈ [D.int 0, D.str m] → flatD y = true := fun m y h => by
    simp at h
    rcases h with h | h <;> subst h <;> rfl
  have opG : lst (opR guessR) = 1 := by decide
  have app : ∀ {ls : List Ln} {P : List D → Prop} (l : Ln), ls.length ≤ 50 → P ((ls ++ [l]).map Ln.enc) → okO (appL (ls.map Ln.enc) l.enc) P := fun {ls P} l h p => o_app (by simp; omega) (by rw [mapS]; exact p)
  let ρ1 : List Ln → Option (Fl × D) → Option (Fl × D) → Option (Fl × D) → Option (Fl × D) → Option (Fl × D) → Option (Fl × D) → Option (Fl × D) → Env := fun ls v4 v5 v6 v7 v8 v9 v10 => [some (.sh, .lst (s.map .int)), some (.sh, .lst (ps.map Stm.enc)), some (.sh, .lst [.lst (ns.map .str), .lst (ws.map .str)]), some (.own, .lst (ls.map Ln.enc)), v4, v5, v6, v7, v8, v9, v10]
  have after2 : ∀ (ls : List Ln) (o : Ln) (u : D) (v4 v6 v8 v9 v10 : Option (Fl × D)), Lz ls 6 → OpenL o → flatD u = true → okB (callF T gl n) gl (c_law_lines_v2.body.tl 11) (ρ1 (ls ++ [o]) v4 (some (.sh, .int (ls.length : Int))) v6 (some (.sh, u)) v8 v9 v10) (.fn G noX) := fun ls o u v4 v6 v8 v9 v10 hz ho hu => by
    have hlen := hz.len
    have hz1 := hz.snoc ho.f (by rw [ho.op, ho.lv]; decide) (by rw [ho.op, ho.lv]; show 1 ≤ _ + 1; omega) (by rw [ho.lv]; omega)
    have hlen1 := hz1.len
    (repeat' ((try (conv => whnf)) <;> first | with_reducible refine stepE ?_ | with_reducible refine stepEs ?_ | with_reducible refine stepB ?_ | with_reducible refine stepS ?_ | refine okO_of (o := getSh _ _) rfl ?_ | with_reducible refine stepIt ?_)) <;> (try (conv => whnf))
    refine okR_then (cell_at_v1_ok (by omega) s _) fun d ⟨c17, hd, _, _⟩ => ?_
    subst hd
    (repeat' ((try (conv => whnf)) <;> first | with_reducible refine stepE ?_ | with_reducible refine o_mod (by first | decide | omega | (simp only [List.length_map, List.length_range, List.length_cons, List.length_nil, List.length_append]; omega)) ?_)) <;> (try (conv => whnf))
    refine o_rng1 (by omega) (by omega) ?_
    refine okFor_rng0 (I := fun k ρ => ∃ (l : List Ln) (v4 v6 : Option (Fl × D)), Lz (ls ++ [o] ++ l) (7 + 2 * k) ∧ 1 ≤ lastLv (ls ++ [o] ++ l) ∧ ρ = ρ1 (ls ++ [o] ++ l) v4 (some (.sh, .int (ls.length : Int))) v6 (some (.sh, u)) v8 v9 v10) ⟨[], v4, v6, by simpa using hz1, by simp only [List.append_nil]; rw [lastLv_snoc, ho.lv]; omega, by simp [ρ1, setOwn, setV]⟩ (fun k hk ρ ⟨l, v4, v6, hz, h1, hρ⟩ => ?_) (fun ρ ⟨l, v4, v6, hz, h1, hρ⟩ => ?_)
    · subst hρ
      have hlen2 := hz.len
      have k3 : k < 3 := by omega
      (repeat' ((try (conv => whnf)) <;> first | with_reducible refine stepE ?_ | with_reducible refine stepEs ?_ | with_reducible refine stepB ?_ | with_reducible refine stepS ?_ | refine okO_of (o := getSh _ _) rfl ?_ | with_reducible refine o_addi ?_)) <;> (try (conv => whnf))
      refine okR_then (cell_at_v1_ok (by omega) s _) fun d ⟨c, hd, _, _⟩ => ?_
      subst hd
      have any : ∀ (l2 : List Ln) (m : Nat) (w : Nat) (B : Stm), Lz (ls ++ [o] ++ l2) m → m ≤ 7 + 2 * k + 1 → 1 ≤ w → w ≤ lastLv (ls ++ [o] ++ l2) → w ≤ 2 → Cs B → Lz (ls ++ [o] ++ (l2 ++ [⟨w, sAny, some B, []⟩])) (7 + 2 * (k + 1)) ∧ 1 ≤ lastLv (ls ++ [o] ++ (l2 ++ [⟨w, sAny, some B, []⟩])) := fun l2 m w B hz hm w1 w2 w3 hB => by
        rw [← List.append_assoc]
        refine ⟨(hz.snoc (l := ⟨w, sAny, some B, []⟩) ⟨fun A e => (by cases e; exact hB), by show 0 ≤ 3; omega, by simp⟩ (by show lst (opR sAny) ≤ w; rw [show lst (opR sAny) = 0 by decide]; omega) (by show w ≤ _ + _; omega) (by show w ≤ 60; omega)).le (by omega), by rw [lastLv_snoc]; exact w1⟩
      (repeat' ((try (conv => whnf)) <;> first | (refine part fun B hB => ?_) | with_reducible refine stepE ?_ | with_reducible refine stepEs ?_ | with_reducible refine stepB ?_ | with_reducible refine stepS ?_ | refine okO_of (o := getSh _ _) rfl ?_ | with_reducible refine okK_bl ?_ | with_reducible refine okT_dec (fun hT => ?_) (fun hT => ?_) | with_reducible refine o_addi ?_ | with_reducible refine o_mod (by first | decide | omega | (simp only [List.length_map, List.length_range, List.length_cons, List.length_nil, List.length_append]; omega)) ?_ | with_reducible refine o_fdiv (by first | decide | omega | (simp only [List.length_map, List.length_range, List.length_cons, List.length_nil, List.length_append]; omega)) (by first | decide | omega | (simp only [List.length_map, List.length_range, List.length_cons, List.length_nil, List.length_append]; omega)) ?_ | with_reducible refine o_eqi ?_ | refine okO_of (o := opF _ _) rfl ?_ | refine okO_of (o := getOwn _ _) rfl ?_)) <;> (try (conv => whnf))
      · refine app ⟨2, guessR, some B, []⟩ (by omega) ?_
        have z2 := hz.snoc (l := ⟨2, guessR, some B, []⟩) ⟨fun A e => (by cases e; exact hB), by show 0 ≤ 3; omega, by simp⟩ (by show lst (opR guessR) ≤ 2; decide) (by show 2 ≤ _ + lst (opR guessR); rw [opG]; omega) (by show 2 ≤ 60; omega)
        have l2 : lastLv (ls ++ [o] ++ l ++ [⟨2, guessR, some B, []⟩]) = 2 := lastLv_snoc _ _
        have as : ls ++ [o] ++ l ++ [⟨2, guessR, some B, []⟩] = ls ++ [o] ++ (l ++ [⟨2, guessR, some B, []⟩]) := List.append_assoc ..
        rw [as] at z2 l2 ⊢
        (repeat' ((try (conv => whnf)) <;> first | (refine part fun C hC => ?_) | with_reducible refine stepE ?_ | with_reducible refine stepEs ?_ | with_reducible refine stepB ?_ | with_reducible refine stepS ?_ | refine okO_of (o := getSh _ _) rfl ?_ | with_reducible refine okK_bl ?_ | with_reducible refine okT_dec (fun hT => ?_) (fun hT => ?_) | with_reducible refine o_addi ?_ | with_reducible refine o_mod (by first | decide | omega | (simp only [List.length_map, List.length_range, List.length_cons, List.length_nil, List.length_append]; omega)) ?_ | with_reducible refine o_fdiv (by first | decide | omega | (simp only [List.length_map, List.length_range, List.length_cons, List.length_nil, List.length_append]; omega)) (by first | decide | omega | (simp only [List.length_map, List.length_range, List.length_cons, List.length_nil, List.length_append]; omega)) ?_ | with_reducible refine o_eqi ?_ | refine okO_of (o := opF _ _) rfl ?_ | refine okO_of (o := getOwn _ _) rfl ?_)) <;> (try (conv => whnf))
        any_goals (exfalso; omega)
        generalize decide (c % 12 = 1) = bb
        cases bb
        · refine app ⟨1, sAny, some C, []⟩ (by have := z2.len; omega) ?_
          rw [List.append_assoc (ls ++ [o])]
          (repeat' ((try (conv => whnf)) <;> (with_reducible refine stepB ?_))) <;> (try (conv => whnf))
          exact ⟨_, _, _, (any _ _ 1 C z2 (by omega) (by omega) (by omega) (by omega) hC).1, (any _ _ 1 C z2 (by omega) (by omega) (by omega) (by omega) hC).2, rfl⟩
        · refine app ⟨2, sAny, some C, []⟩ (by have := z2.len; omega) ?_
          rw [List.append_assoc (ls ++ [o])]
          (repeat' ((try (conv => whnf)) <;> (with_reducible refine stepB ?_))) <;> (try (conv => whnf))
          exact ⟨_, _, _, (any _ _ 2 C z2 (by omega) (by omega) (by omega) (by omega) hC).1, (any _ _ 2 C z2 (by omega) (by omega) (by omega) (by omega) hC).2, rfl⟩
      · exfalso; omega
      · refine app ⟨1, sAny, some B, []⟩ (by omega) ?_
        rw [List.append_assoc (ls ++ [o])]
        (repeat' ((try (conv => whnf)) <;> (with_reducible refine stepB ?_))) <;> (try (conv => whnf))
        exact ⟨_, _, _, (any _ _ 1 B hz (by omega) (by omega) (by omega) (by omega) hB).1, (any _ _ 1 B hz (by omega) (by omega) (by omega) (by omega) hB).2, rfl⟩
    · subst hρ
      have hlen2 := hz.len
      have hk3 : (c17 % 3).toNat ≤ 2 := by omega
      (repeat' ((try (conv => whnf)) <;> first | with_reducible refine stepE ?_ | with_reducible refine stepEs ?_ | with_reducible refine stepB ?_ | with_reducible refine stepS ?_ | refine okO_of (o := getSh _ _) rfl ?_ | refine okO_of (o := getOwn _ _) rfl ?_)) <;> (try (conv => whnf))
      exact ⟨_, ls.length, u, rfl, hu, hz.le (by omega), by simp, by simp; exact ho⟩
  have after1 : ∀ (ls : List Ln) (v4 v6 v10 : Option (Fl × D)), Lz ls 6 → okB (callF T gl n) gl (c_law_lines_v2.body.tl 2) (ρ1 ls v4 none v6 none none none v10) (.fn G noX) := fun ls v4 v6 v10 hz => by
    have hlen := hz.len
    (repeat' ((try (conv => whnf)) <;> first | with_reducible refine stepE ?_ | with_reducible refine stepEs ?_ | with_reducible refine stepB ?_ | with_reducible refine stepS ?_ | refine okO_of (o := getSh _ _) rfl ?_ | refine okO_of (o := opF _ _) rfl ?_ | refine okO_of (o := getAny _ _) rfl ?_)) <;> (try (conv => whnf))
    refine okR_then (cell_at_v1_ok (by omega) s _) fun d ⟨c, hd, _, _⟩ => ?_
    subst hd
    have rest : ∀ u : D, flatD u = true → okB (callF T gl n) gl (c_law_lines_v2.body.tl 6) (ρ1 ls v4 (some (.sh, .int (ls.length : Int))) (some (.sh, .int c)) (some (.sh, u)) none none v10) (.fn G noX) := fun u hu => by
      (repeat' ((try (conv => whnf)) <;> first | with_reducible refine stepE ?_ | with_reducible refine stepEs ?_ | with_reducible refine stepB ?_ | with_reducible refine stepS ?_ | refine okO_of (o := getSh _ _) rfl ?_ | with_reducible refine o_mod (by first | decide | omega | (simp only [List.length_map, List.length_range, List.length_cons, List.length_nil, List.length_append]; omega)) ?_ | with_reducible refine o_fdiv (by first | decide | omega | (simp only [List.length_map, List.length_range, List.length_cons, List.length_nil, List.length_append]; omega)) (by first | decide | omega | (simp only [List.length_map, List.length_range, List.length_cons, List.length_nil, List.length_append]; omega)) ?_)) <;> (try (conv => whnf))
      refine o_ixl' (by omega) (by simp only [List.length_cons, List.length_nil]; omega) fun d hd => ?_
      obtain ⟨r, rfl, hr⟩ : ∃ r : List Nat, d = .str r ∧ (r = caseR ∨ r = newR ∨ r = guessR) := by
        have := List.mem_of_getElem? hd
        simp only [List.mem_cons, List.not_mem_nil, or_false] at this
        rcases this with h | h | h | h | h | h
        · exact ⟨_, h, .inr (.inl rfl)⟩
        · exact ⟨_, h, .inr (.inl rfl)⟩
        · exact ⟨_, h, .inr (.inl rfl)⟩
        · exact ⟨_, h, .inr (.inl rfl)⟩
        · exact ⟨_, h, .inl rfl⟩
        · exact ⟨_, h, .inr (.inr rfl)⟩
      have fin : ∀ (st : Option Stm) (l : List D), (∀ A, st = some A → Cs A) → (r ≠ newR → ∃ A, st = some A) → (r = newR → st = none) → l.length ≤ 2 → (∀ y ∈ l, flatD y = true) → okB (callF T gl n) gl (c_law_lines_v2.body.tl 10) (ρ1 ls v4 (some (.sh, .int (ls.length : Int))) (some (.sh, .int c)) (some (.sh, u)) (some (.sh, .str r)) (some (.sh, eStm st)) (some (.sh, .tup l))) (.fn G noX) := fun st l h1 h2 h3 h4 h5 => by
        (repeat' ((try (conv => whnf)) <;> first | with_reducible refine stepE ?_ | with_reducible refine stepEs ?_ | with_reducible refine stepB ?_ | with_reducible refine stepS ?_ | refine okO_of (o := getSh _ _) rfl ?_ | refine okO_of (o := getOwn _ _) rfl ?_)) <;> (try (conv => whnf))
        refine app ⟨1, r, st, l⟩ (by omega) ?_
        (repeat' ((try (conv => whnf)) <;> (exact after2 ls ⟨1, r, st, l⟩ u _ _ _ _ _ hz ⟨⟨h1, by show l.length ≤ 3; omega, h5⟩, rfl, hr, h2, h3⟩ hu))) <;> (try (conv => whnf))
      have two : ∀ {j : Int} {P : D → Prop}, (∀ l : List D, l.length ≤ 2 → (∀ y ∈ l, flatD y = true) → P (.tup l)) → okO (opIx (.lst [.tup [], .tup [u, u]]) (.int (j % 2))) P := fun {j P} h => by
        refine o_ixl' (by omega) (by simp only [List.length_cons, List.length_nil]; omega) fun d hd => ?_
        have := List.mem_of_getElem? hd
        simp only [List.mem_cons, List.not_mem_nil, or_false] at this
        rcases this with e | e <;> subst e
        · exact h [] (by simp) (by simp)
        · exact h [u, u] (by simp) (by simp [hu])
      have so : ∀ {B : Stm}, Cs B → ∀ A, some B = some A → Cs A := fun hB A e => by cases e; exact hB
      rcases hr with rfl | rfl | rfl
      · (repeat' ((try (conv => whnf)) <;> first | (refine part fun B hB => ?_) | (refine two fun l h1 h2 => ?_) | exact fin (some _) [u] (so (by assumption)) (fun _ => ⟨_, rfl⟩) (fun h => absurd h (by decide)) (by simp) (by simp [hu]) | exact fin (some _) _ (so (by assumption)) (fun _ => ⟨_, rfl⟩) (fun h => absurd h (by decide)) (by assumption) (by assumption) | with_reducible refine stepE ?_ | with_reducible refine stepEs ?_ | with_reducible refine stepB ?_ | with_reducible refine stepS ?_ | refine okO_of (o := getSh _ _) rfl ?_ | with_reducible refine okK_bl ?_ | with_reducible refine okT_cf (by decide) ?_ | with_reducible refine okT_dec (fun hT => ?_) (fun hT => ?_) | with_reducible refine o_mod (by first | decide | omega | (simp only [List.length_map, List.length_range, List.length_cons, List.length_nil, List.length_append]; omega)) ?_ | with_reducible refine o_fdiv (by first | decide | omega | (simp only [List.length_map, List.length_range, List.length_cons, List.length_nil, List.length_append]; omega)) (by first | decide | omega | (simp only [List.length_map, List.length_range, List.length_cons, List.length_nil, List.length_append]; omega)) ?_ | with_reducible refine o_eqi ?_ | with_reducible refine o_eqs ?_ | with_reducible refine o_nes ?_ | refine okO_of (o := opIx (.lst (_ :: _)) _) rfl ?_ | refine okO_of (o := opF _ _) rfl ?_)) <;> (try (conv => whnf))
      · (repeat' ((try (conv => whnf)) <;> first | (refine part fun B hB => ?_) | (refine two fun l h1 h2 => ?_) | exact fin none [u] (fun A e => by cases e) (fun h => absurd rfl h) (fun _ => rfl) (by simp) (by simp [hu]) | exact fin none _ (fun A e => by cases e) (fun h => absurd rfl h) (fun _ => rfl) (by assumption) (by assumption) | with_reducible refine stepE ?_ | with_reducible refine stepEs ?_ | with_reducible refine stepB ?_ | with_reducible refine stepS ?_ | refine okO_of (o := getSh _ _) rfl ?_ | with_reducible refine okK_bl ?_ | with_reducible refine okT_cf (by decide) ?_ | with_reducible refine okT_dec (fun hT => ?_) (fun hT => ?_) | with_reducible refine o_mod (by first | decide | omega | (simp only [List.length_map, List.length_range, List.length_cons, List.length_nil, List.length_append]; omega)) ?_ | with_reducible refine o_fdiv (by first | decide | omega | (simp only [List.length_map, List.length_range, List.length_cons, List.length_nil, List.length_append]; omega)) (by first | decide | omega | (simp only [List.length_map, List.length_range, List.length_cons, List.length_nil, List.length_append]; omega)) ?_ | with_reducible refine o_eqi ?_ | with_reducible refine o_eqs ?_ | with_reducible refine o_nes ?_ | refine okO_of (o := opIx (.lst (_ :: _)) _) rfl ?_ | refine okO_of (o := opF _ _) rfl ?_)) <;> (try (conv => whnf))
      · (repeat' ((try (conv => whnf)) <;> first | (refine part fun B hB => ?_) | (refine two fun l h1 h2 => ?_) | exact fin (some _) _ (so (by assumption)) (fun _ => ⟨_, rfl⟩) (fun h => absurd h (by decide)) (by assumption) (by assumption) | with_reducible refine stepE ?_ | with_reducible refine stepEs ?_ | with_reducible refine stepB ?_ | with_reducible refine stepS ?_ | refine okO_of (o := getSh _ _) rfl ?_ | with_reducible refine okT_tt ?_ | with_reducible refine okT_ct (by decide) ?_ | with_reducible refine o_mod (by first | decide | omega | (simp only [List.length_map, List.length_range, List.length_cons, List.length_nil, List.length_append]; omega)) ?_ | with_reducible refine o_fdiv (by first | decide | omega | (simp only [List.length_map, List.length_range, List.length_cons, List.length_nil, List.length_append]; omega)) (by first | decide | omega | (simp only [List.length_map, List.length_range, List.length_cons, List.length_nil, List.length_append]; omega)) ?_ | with_reducible refine o_eqs ?_ | with_reducible refine o_nes ?_ | refine okO_of (o := opIx (.lst (_ :: _)) _) rfl ?_ | refine okO_of (o := opF _ _) rfl ?_)) <;> (try (conv => whnf))
    have odd : ∀ {j : Int} {P : D → Prop}, (∀ u, flatD u = true → P u) → okO (opIx (.lst [.str [88], .str [], .int 3, .str [110, 111, 116], .str [99, 45], .non]) (.int (j % 6))) P := fun {j P} h => by
      refine o_ixl' (by omega) (by simp only [List.length_cons, List.length_nil]; omega) fun d hd => ?_
      have := List.mem_of_getElem? hd
      simp only [List.mem_cons, List.not_mem_nil, or_false] at this
      rcases this with e | e | e | e | e | e <;> subst e <;> exact h _ rfl
    have ll : ((ls.map Ln.enc).length : Int) = (ls.length : Int) := by simp
    rw [ll]
    (repeat' ((try (conv => whnf)) <;> first | (refine name fun m => ?_) | (refine odd fun u hu => ?_) | exact rest _ rfl | (exact rest _ (by assumption)) | with_reducible refine stepE ?_ | with_reducible refine stepEs ?_ | with_reducible refine stepB ?_ | with_reducible refine stepS ?_ | refine okO_of (o := getSh _ _) rfl ?_ | with_reducible refine okT_dec (fun hT => ?_) (fun hT => ?_) | with_reducible refine o_mod (by first | decide | omega | (simp only [List.length_map, List.length_range, List.length_cons, List.length_nil, List.length_append]; omega)) ?_ | with_reducible refine o_fdiv (by first | decide | omega | (simp only [List.length_map, List.length_range, List.length_cons, List.length_nil, List.length_append]; omega)) (by first | decide | omega | (simp only [List.length_map, List.length_range, List.length_cons, List.length_nil, List.length_append]; omega)) ?_ | with_reducible refine o_eqi ?_ | refine okO_of (o := opIx (.lst (_ :: _)) _) rfl ?_)) <;> (try (conv => whnf))
  (repeat' ((try (conv => whnf)) <;> first | with_reducible refine stepE ?_ | with_reducible refine stepEs ?_ | with_reducible refine stepB ?_ | with_reducible refine stepS ?_ | refine okO_of (o := getSh _ _) rfl ?_ | with_reducible refine stepIt ?_ | refine okO_of (o := listOf _) rfl ?_)) <;> (try (conv => whnf))
  refine okR_then (cell_at_v1_ok (by omega) s _) fun d ⟨c11, hd, c0, c1⟩ => ?_
  subst hd
  (repeat' ((try (conv => whnf)) <;> first | with_reducible refine stepE ?_ | with_reducible refine o_mod (by first | decide | omega | (simp only [List.length_map, List.length_range, List.length_cons, List.length_nil, List.length_append]; omega)) ?_)) <;> (try (conv => whnf))
  refine o_rng1 (by omega) (by omega) ?_
  refine okFor_rng0 (I := fun k ρ => ∃ (ls : List Ln) (v4 v6 v10 : Option (Fl × D)), Lz ls (2 * k) ∧ ρ = ρ1 ls v4 none v6 none none none v10) ⟨[], _, _, _, ⟨by simp, fun j l h => by simp [lvs] at h, by simp⟩, rfl⟩ (fun k hk ρ ⟨ls, v4, v6, v10, hz, hρ⟩ => ?_) (fun ρ ⟨ls, v4, v6, v10, hz, hρ⟩ => ?_)
  · subst hρ
    have hlen := hz.len
    have k3 : k < 3 := by omega
    (repeat' ((try (conv => whnf)) <;> first | with_reducible refine stepE ?_ | with_reducible refine stepEs ?_ | with_reducible refine stepB ?_ | with_reducible refine stepS ?_ | refine okO_of (o := getSh _ _) rfl ?_ | with_reducible refine o_addi ?_)) <;> (try (conv => whnf))
    refine okR_then (cell_at_v1_ok (by omega) s _) fun d ⟨c, hd, _, _⟩ => ?_
    subst hd
    have body : ∀ (l : List D), l.length ≤ 2 → (∀ y ∈ l, flatD y = true) → ∀ m : En, (∀ ρ, (∃ (ls : List Ln) (v4 v6 v10 : Option (Fl × D)), Lz ls (2 * (k + 1)) ∧ ρ = ρ1 ls v4 none v6 none none none v10) → m.nx ρ) → okB (callF T gl n) gl ((forBody (c_law_lines_v2.body.tl 1).head).tl 3) (ρ1 ls (some (.sh, .int (k : Int))) none (some (.sh, .int c)) none none none (some (.sh, .tup l))) m := fun l l2 lf m hm => by
      have two : ∀ (z : Ln), LnF z → z.lv = 1 → opR z.rule = true → ∀ B, Cs B → m.nx (ρ1 ((ls ++ [z]) ++ [⟨1, sEach, some B, l⟩]) (some (.sh, .int (k : Int))) none (some (.sh, .int c)) none none none (some (.sh, .tup l))) := fun z hzf hz1 hzo B hB => hm _ ⟨_, _, _, _, by
        have a1 := hz.snoc hzf (by rw [hzo, hz1]; decide) (by rw [hzo, hz1]; show 1 ≤ _ + 1; omega) (by omega)
        have a2 := a1.snoc (l := ⟨1, sEach, some B, l⟩) ⟨fun A e => by cases e; exact hB, by show l.length ≤ 3; omega, lf⟩ (by show lst (opR sEach) ≤ 1; decide) (by rw [lastLv_snoc, hz1]; show 1 ≤ 1 + _; omega) (by show 1 ≤ 60; omega)
        exact a2.le (by omega), rfl⟩
      (repeat' ((try (conv => whnf)) <;> first | (refine part fun B hB => ?_) | with_reducible refine stepE ?_ | with_reducible refine stepEs ?_ | with_reducible refine stepB ?_ | with_reducible refine stepS ?_ | refine okO_of (o := getSh _ _) rfl ?_ | with_reducible refine okT_dec (fun hT => ?_) (fun hT => ?_) | with_reducible refine o_mod (by first | decide | omega | (simp only [List.length_map, List.length_range, List.length_cons, List.length_nil, List.length_append]; omega)) ?_ | with_reducible refine o_fdiv (by first | decide | omega | (simp only [List.length_map, List.length_range, List.length_cons, List.length_nil, List.length_append]; omega)) (by first | decide | omega | (simp only [List.length_map, List.length_range, List.length_cons, List.length_nil, List.length_append]; omega)) ?_ | with_reducible refine o_eqi ?_ | refine okO_of (o := opF _ _) rfl ?_ | refine okO_of (o := getOwn _ _) rfl ?_)) <;> (try (conv => whnf))
      · refine o_ixl' (by omega) (by simp only [List.length_cons, List.length_nil]; omega) fun d hd => ?_
        obtain ⟨r, rfl, hr⟩ : ∃ r : List Nat, d = .str r ∧ opR r = true := by
          have := List.mem_of_getElem? hd
          simp only [List.mem_cons, List.not_mem_nil, or_false] at this
          rcases this with h | h
          · exact ⟨_, h, by decide⟩
          · exact ⟨_, h, by decide⟩
        (repeat' ((try (conv => whnf)) <;> first | (refine name fun m => ?_) | with_reducible refine stepE ?_ | with_reducible refine stepEs ?_ | refine okO_of (o := getSh _ _) rfl ?_ | with_reducible refine o_mod (by first | decide | omega | (simp only [List.length_map, List.length_range, List.length_cons, List.length_nil, List.length_append]; omega)) ?_ | with_reducible refine o_fdiv (by first | decide | omega | (simp only [List.length_map, List.length_range, List.length_cons, List.length_nil, List.length_append]; omega)) (by first | decide | omega | (simp only [List.length_map, List.length_range, List.length_cons, List.length_nil, List.length_append]; omega)) ?_ | refine okO_of (o := opIx (.lst (_ :: _)) _) rfl ?_)) <;> (try (conv => whnf))
        refine app ⟨1, r, none, [.str m]⟩ (by omega) ?_
        (repeat' ((try (conv => whnf)) <;> first | (refine part fun B hB => ?_) | with_reducible refine stepE ?_ | with_reducible refine stepEs ?_ | with_reducible refine stepB ?_ | with_reducible refine stepS ?_ | refine okO_of (o := getSh _ _) rfl ?_ | with_reducible refine o_mod (by first | decide | omega | (simp only [List.length_map, List.length_range, List.length_cons, List.length_nil, List.length_append]; omega)) ?_ | with_reducible refine o_fdiv (by first | decide | omega | (simp only [List.length_map, List.length_range, List.length_cons, List.length_nil, List.length_append]; omega)) (by first | decide | omega | (simp only [List.length_map, List.length_range, List.length_cons, List.length_nil, List.length_append]; omega)) ?_ | refine okO_of (o := opF _ _) rfl ?_ | refine okO_of (o := getOwn _ _) rfl ?_)) <;> (try (conv => whnf))
        refine app ⟨1, sEach, some B, l⟩ (by simp; omega) ?_
        (repeat' ((try (conv => whnf)) <;> (with_reducible refine stepB ?_))) <;> (try (conv => whnf))
        exact two _ ⟨fun A e => (by cases e), by show 1 ≤ 3; omega, fun y h => by simp at h; subst h; rfl⟩ rfl hr B hB
      · refine app ⟨1, guessR, some B, []⟩ (by omega) ?_
        (repeat' ((try (conv => whnf)) <;> first | (refine part fun C hC => ?_) | with_reducible refine stepE ?_ | with_reducible refine stepEs ?_ | with_reducible refine stepB ?_ | with_reducible refine stepS ?_ | refine okO_of (o := getSh _ _) rfl ?_ | with_reducible refine o_mod (by first | decide | omega | (simp only [List.length_map, List.length_range, List.length_cons, List.length_nil, List.length_append]; omega)) ?_ | with_reducible refine o_fdiv (by first | decide | omega | (simp only [List.length_map, List.length_range, List.length_cons, List.length_nil, List.length_append]; omega)) (by first | decide | omega | (simp only [List.length_map, List.length_range, List.length_cons, List.length_nil, List.length_append]; omega)) ?_ | refine okO_of (o := opF _ _) rfl ?_ | refine okO_of (o := getOwn _ _) rfl ?_)) <;> (try (conv => whnf))
        refine app ⟨1, sEach, some C, l⟩ (by simp; omega) ?_
        (repeat' ((try (conv => whnf)) <;> (with_reducible refine stepB ?_))) <;> (try (conv => whnf))
        exact two _ ⟨fun A e => by cases e; exact hB, by show 0 ≤ 3; omega, fun y h => by simp at h⟩ rfl rfl C hC
      · refine o_ixl' (by omega) (by simp only [List.length_cons, List.length_nil]; omega) fun d hd => ?_
        obtain ⟨r, rfl, hr⟩ : ∃ r : List Nat, d = .str r ∧ opR r = false := by
          have := List.mem_of_getElem? hd
          simp only [List.mem_cons, List.not_mem_nil, or_false] at this
          rcases this with h | h | h
          · exact ⟨_, h, by decide⟩
          · exact ⟨_, h, by decide⟩
          · exact ⟨_, h, by decide⟩
        (repeat' ((try (conv => whnf)) <;> first | (refine part fun B hB => ?_) | with_reducible refine stepE ?_ | with_reducible refine stepEs ?_ | refine okO_of (o := getSh _ _) rfl ?_ | with_reducible refine o_mod (by first | decide | omega | (simp only [List.length_map, List.length_range, List.length_cons, List.length_nil, List.length_append]; omega)) ?_ | with_reducible refine o_fdiv (by first | decide | omega | (simp only [List.length_map, List.length_range, List.length_cons, List.length_nil, List.length_append]; omega)) (by first | decide | omega | (simp only [List.length_map, List.length_range, List.length_cons, List.length_nil, List.length_append]; omega)) ?_ | refine okO_of (o := opF _ _) rfl ?_)) <;> (try (conv => whnf))
        refine app ⟨0, r, some B, l⟩ (by omega) ?_
        (repeat' ((try (conv => whnf)) <;> (with_reducible refine stepB ?_))) <;> (try (conv => whnf))
        exact hm _ ⟨_, _, _, _, (hz.snoc (l := ⟨0, r, some B, l⟩) ⟨fun A e => by cases e; exact hB, by show l.length ≤ 3; omega, lf⟩ (by show lst (opR r) ≤ 0; rw [hr]; decide) (Nat.zero_le _) (Nat.zero_le _)).le (by omega), rfl⟩
    (repeat' ((try (conv => whnf)) <;> first | (refine body [] (by simp) (by simp) _ fun ρ h => ?_; exact h) | (refine name fun m => ?_) | (refine body [.int 0, .str _] (by simp) (flat _) _ fun ρ h => ?_; exact h) | with_reducible refine stepE ?_ | with_reducible refine stepEs ?_ | with_reducible refine stepB ?_ | with_reducible refine stepS ?_ | refine okO_of (o := getSh _ _) rfl ?_ | with_reducible refine okT_dec (fun hT => ?_) (fun hT => ?_) | with_reducible refine o_mod (by first | decide | omega | (simp only [List.length_map, List.length_range, List.length_cons, List.length_nil, List.length_append]; omega)) ?_ | with_reducible refine o_fdiv (by first | decide | omega | (simp only [List.length_map, List.length_range, List.length_cons, List.length_nil, List.length_append]; omega)) (by first | decide | omega | (simp only [List.length_map, List.length_range, List.length_cons, List.length_nil, List.length_append]; omega)) ?_ | with_reducible refine o_eqi ?_ | refine okO_of (o := opIx (.lst (_ :: _)) _) rfl ?_)) <;> (try (conv => whnf))
  · subst hρ
    have hlen := hz.len
    (repeat' ((try (conv => whnf)) <;> (exact after1 ls v4 v6 v10 (hz.le (by omega))))) <;> (try (conv => whnf))
end
end Ev

/-! k35: new and every. -/
namespace Ev
section
variable {T : Nat → Option FD} {gl : Nat → Option D}
theorem whole35_ok [Fn T 232 c_law_cell_at_v1] [Fn T 234 c_law_letter_by] [Fn T 238 c_law_paths] [Fn T 253 c_law_box] [Fn T 274 c_law_out] [Fn T 278 c_law_whole_v1] {n : Nat} (hn : 14 ≤ n) (s : List Int) {ps : List Stm} (p3 : ps.length = 3) (hp : ∀ A ∈ ps, Clo 5 31 A) {ls : List Ln} (hz : Lz ls 20) {b : Nat} (hb : b < ls.length) (ho : OpenL ls[b]) {u : D} (hu : flatD u = true) :
    okR (callF T gl n 278 [.lst (s.map .int), .lst (ls.map Ln.enc), u, .lst (ps.map Stm.enc), .int (b : Int)]) noX fun d => ∃ (S : Stm) (y : D), d = .tup [.int (b : Int), .lst ((ls ++ [(⟨0, sEvery, some S, [y]⟩ : Ln)]).map Ln.enc)] ∧ Cl S ∧ flatD y = true := by
  refine okR_callM (k := 13) hn rfl fun n hn => ?_
  have lv := line_val
  have hlen := hz.len
  let G : D → Prop := fun d => ∃ (S : Stm) (y : D), d = .tup [.int (b : Int), .lst ((ls ++ [(⟨0, sEvery, some S, [y]⟩ : Ln)]).map Ln.enc)] ∧ Cl S ∧ flatD y = true
  let En' : En := .fm [1] G
  have ll : ((ls.map Ln.enc).length : Int) = (ls.length : Int) := by simp
  have part : ∀ {j : Int} {P : D → Prop}, (∀ B, Cs B → P B.enc) → okO (opIx (.lst (ps.map Stm.enc)) (.int (j % ((ps.map Stm.enc).length : Int)))) P := fun {j P} h => by
    rw [List.length_map]
    exact o_ixlm (dec := Stm.enc) (Int.emod_nonneg _ (by omega)) (Int.emod_lt_of_pos _ (by omega)) fun B hB => h B ((hp B (List.mem_of_getElem? hB)).le (by omega) (by omega))
  (repeat' ((try (conv => whnf)) <;> first | with_reducible refine stepE ?_ | with_reducible refine stepEs ?_ | with_reducible refine stepB ?_ | with_reducible refine stepS ?_ | refine okO_of (o := getSh _ _) rfl ?_)) <;> (try (conv => whnf))
  refine okR_then (cell_at_v1_ok (by omega) s _) fun d ⟨c, hd, c0, c1⟩ => ?_
  subst hd
  let ρ1 : D → D → Option (Fl × D) → Option (Fl × D) → Option (Fl × D) → Option (Fl × D) → Env := fun d6 d7 v8 v9 v10 v11 => [some (.sh, .lst (s.map .int)), some (.own, .lst (ls.map Ln.enc)), some (.sh, u), some (.sh, .lst (ps.map Stm.enc)), some (.sh, .int (b : Int)), some (.sh, .int c), some (.sh, d6), some (.sh, d7), v8, v9, v10, v11]
  have last : ∀ (d6 d7 : D) (v8 v9 : Option (Fl × D)) (S : Stm) (y : D), Cl S → flatD y = true → okB (callF T gl n) gl (c_law_whole_v1.body.tl 10) (ρ1 d6 d7 v8 v9 (some (.sh, S.enc)) (some (.sh, y))) En' := fun d6 d7 v8 v9 S y hS hy => by
    (repeat' ((try (conv => whnf)) <;> first | with_reducible refine stepE ?_ | with_reducible refine stepEs ?_ | with_reducible refine stepB ?_ | with_reducible refine stepS ?_ | refine okO_of (o := getSh _ _) rfl ?_ | refine okO_of (o := getOwn _ _) rfl ?_)) <;> (try (conv => whnf))
    refine o_app (by simp; omega) ?_
    rw [show ls.map Ln.enc ++ [.tup [.int 0, .str [101, 118, 101, 114, 121], S.enc, .tup [y]]] = (ls ++ [(⟨0, sEvery, some S, [y]⟩ : Ln)]).map Ln.enc from mapS (l := ⟨0, sEvery, some S, [y]⟩)]
    (repeat' ((try (conv => whnf)) <;> first | with_reducible refine stepE ?_ | with_reducible refine stepB ?_ | with_reducible refine stepS ?_ | refine okO_of (o := getSh _ _) rfl ?_ | refine okO_of (o := handM [_] _ _) (a := .tup [_, .lst _]) rfl ?_)) <;> (try (conv => whnf))
    exact ⟨S, y, rfl, hS, hy⟩
  have ref : ∀ (d6 d7 : D) (v8 v9 : Option (Fl × D)) (S : Stm) , Cl S → okB (callF T gl n) gl (c_law_whole_v1.body.tl 8) (ρ1 d6 d7 v8 v9 (some (.sh, S.enc)) none) En' := fun d6 d7 v8 v9 S hS => by
    have odd : ∀ {j i1 i2 : Int} {P : D → Prop}, (∀ y, flatD y = true → P y) → okO (opIx (.lst [.int 0, .int i1, .int (-1), .int i2, u, .bl true]) (.int (j % 6))) P := fun {j i1 i2 P} h => by
      refine o_ixl' (by omega) (by simp only [List.length_cons, List.length_nil]; omega) fun d hd => ?_
      have := List.mem_of_getElem? hd
      simp only [List.mem_cons, List.not_mem_nil, or_false] at this
      rcases this with e | e | e | e | e | e <;> subst e
      · exact h _ rfl
      · exact h _ rfl
      · exact h _ rfl
      · exact h _ rfl
      · exact h _ hu
      · exact h _ rfl
    (repeat' ((try (conv => whnf)) <;> first | (refine odd fun y hy => ?_) | exact last _ _ _ _ S _ hS rfl | (exact last _ _ _ _ S _ hS (by assumption)) | with_reducible refine stepE ?_ | with_reducible refine stepEs ?_ | with_reducible refine stepB ?_ | with_reducible refine stepS ?_ | refine okO_of (o := getSh _ _) rfl ?_ | with_reducible refine okT_dec (fun hT => ?_) (fun hT => ?_) | with_reducible refine o_addi ?_ | with_reducible refine o_mod (by first | decide | omega | (simp only [List.length_map, List.length_range, List.length_cons, List.length_nil, List.length_append]; omega)) ?_ | with_reducible refine o_fdiv (by first | decide | omega | (simp only [List.length_map, List.length_range, List.length_cons, List.length_nil, List.length_append]; omega)) (by first | decide | omega | (simp only [List.length_map, List.length_range, List.length_cons, List.length_nil, List.length_append]; omega)) ?_ | with_reducible refine o_eqi ?_ | refine okO_of (o := opF _ _) rfl ?_ | refine okO_of (o := getAny _ _) rfl ?_ | refine okO_of (o := opNeg _) rfl ?_)) <;> (try (conv => whnf))
  have rest : ∀ (d6 : D) (S : Stm), Cs S → okB (callF T gl n) gl (c_law_whole_v1.body.tl 4) (ρ1 d6 S.enc none none none none) En' := fun d6 S hS => by
    (repeat' ((try (conv => whnf)) <;> first | with_reducible refine stepE ?_ | with_reducible refine stepEs ?_ | with_reducible refine stepB ?_ | with_reducible refine stepS ?_ | refine okO_of (o := getSh _ _) rfl ?_ | with_reducible refine o_fdiv (by first | decide | omega | (simp only [List.length_map, List.length_range, List.length_cons, List.length_nil, List.length_append]; omega)) (by first | decide | omega | (simp only [List.length_map, List.length_range, List.length_cons, List.length_nil, List.length_append]; omega)) ?_)) <;> (try (conv => whnf))
    refine okR_then (letter_by_ok (by omega) _) fun d ⟨x, hd, hx⟩ => ?_
    subst hd
    (repeat' ((try (conv => whnf)) <;> first | with_reducible refine stepE ?_ | with_reducible refine stepEs ?_ | with_reducible refine stepB ?_ | with_reducible refine stepS ?_ | refine okO_of (o := getSh _ _) rfl ?_ | with_reducible refine o_mod (by first | decide | omega | (simp only [List.length_map, List.length_range, List.length_cons, List.length_nil, List.length_append]; omega)) ?_ | with_reducible refine o_fdiv (by first | decide | omega | (simp only [List.length_map, List.length_range, List.length_cons, List.length_nil, List.length_append]; omega)) (by first | decide | omega | (simp only [List.length_map, List.length_range, List.length_cons, List.length_nil, List.length_append]; omega)) ?_)) <;> (try (conv => whnf))
    refine o_ixl' (by omega) (by simp only [List.length_cons, List.length_nil]; omega) fun d hd => ?_
    obtain ⟨v, rfl, v0, v1⟩ : ∃ v : Int, d = .int v ∧ 0 ≤ v ∧ v < 50 := by
      have := List.mem_of_getElem? hd
      simp only [List.mem_cons, List.not_mem_nil, or_false] at this
      rcases this with e | e | e | e <;> subst e
      · exact ⟨_, rfl, by omega, by omega⟩
      · exact ⟨_, rfl, by omega, by omega⟩
      · exact ⟨_, rfl, by omega, by omega⟩
      · exact ⟨_, rfl, by omega, by omega⟩
    have ot := lawOut_ok (T := T) (gl := gl) hu x S (n := n) (by have := hS.dp; omega) hS.wf v0 v1
    (repeat' ((try (conv => whnf)) <;> first | refine okR_of (ot) ?_ | with_reducible refine stepE ?_ | with_reducible refine stepEs ?_ | with_reducible refine stepB ?_ | with_reducible refine stepS ?_ | refine okO_of (o := getSh _ _) rfl ?_ | with_reducible refine o_mod (by first | decide | omega | (simp only [List.length_map, List.length_range, List.length_cons, List.length_nil, List.length_append]; omega)) ?_ | with_reducible refine o_fdiv (by first | decide | omega | (simp only [List.length_map, List.length_range, List.length_cons, List.length_nil, List.length_append]; omega)) (by first | decide | omega | (simp only [List.length_map, List.length_range, List.length_cons, List.length_nil, List.length_append]; omega)) ?_)) <;> (try (conv => whnf))
    refine o_ixl' (by omega) (by simp only [List.length_cons, List.length_nil]; omega) fun d hd => ?_
    obtain ⟨q, rfl⟩ : ∃ q : Bool, d = .str (quS q) := by
      have := List.mem_of_getElem? hd
      simp only [List.mem_cons, List.not_mem_nil, or_false] at this
      rcases this with e | e | e | e <;> subst e
      · exact ⟨true, rfl⟩
      · exact ⟨true, rfl⟩
      · exact ⟨true, rfl⟩
      · exact ⟨false, rfl⟩
    have cq := out_cl (m := u) hx hS v q
    (repeat' ((try (conv => whnf)) <;> first | exact ref _ _ _ _ (.qu q x (S.out u x v)) cq | exact ref _ _ _ _ S hS.cl | with_reducible refine stepE ?_ | with_reducible refine stepEs ?_ | with_reducible refine stepB ?_ | with_reducible refine stepS ?_ | refine okO_of (o := getSh _ _) rfl ?_ | with_reducible refine okT_dec (fun hT => ?_) (fun hT => ?_) | with_reducible refine o_mod (by first | decide | omega | (simp only [List.length_map, List.length_range, List.length_cons, List.length_nil, List.length_append]; omega)) ?_ | with_reducible refine o_fdiv (by first | decide | omega | (simp only [List.length_map, List.length_range, List.length_cons, List.length_nil, List.length_append]; omega)) (by first | decide | omega | (simp only [List.length_map, List.length_range, List.length_cons, List.length_nil, List.length_append]; omega)) ?_ | with_reducible refine o_eqi ?_)) <;> (try (conv => whnf))
  (repeat' ((try (conv => whnf)) <;> first | with_reducible refine stepE ?_ | with_reducible refine stepEs ?_ | with_reducible refine stepB ?_ | with_reducible refine stepS ?_ | refine okO_of (o := getSh _ _) rfl ?_ | refine okO_of (o := getAny _ _) rfl ?_)) <;> (try (conv => whnf))
  refine o_ixlm (dec := Stm.enc) (by omega) (by omega) fun B0 hB0 => ?_
  have hB0 : Cs B0 := (hp B0 (List.mem_of_getElem? hB0)).le (by omega) (by omega)
  have hlen2 : (ls ++ [(⟨0, sAny, some B0, []⟩ : Ln)]).length = ls.length + 1 := by simp
  have hz0 := hz.snoc (l := ⟨0, sAny, some B0, []⟩) ⟨fun A e => (by cases e; exact hB0), by show 0 ≤ 3; omega, by simp⟩ (by show lst (opR sAny) ≤ 0; decide) (Nat.zero_le _) (Nat.zero_le _)
  (repeat' ((try (conv => whnf)) <;> first | with_reducible refine stepE ?_ | with_reducible refine stepEs ?_)) <;> (try (conv => whnf))
  refine o_addl (by simp only [List.length_map, List.length_cons, List.length_nil]; omega) ?_
  rw [show ls.map Ln.enc ++ [.tup [.int 0, .str [97, 110, 121], B0.enc, .tup []]] = (ls ++ [(⟨0, sAny, some B0, []⟩ : Ln)]).map Ln.enc from mapS (l := ⟨0, sAny, some B0, []⟩)]
  have hk : (ls ++ [(⟨0, sAny, some B0, []⟩ : Ln)])[ls.length]? = some ⟨0, sAny, some B0, []⟩ := by simp
  have hb2 : (ls ++ [(⟨0, sAny, some B0, []⟩ : Ln)])[b]? = some ls[b] := by rw [List.getElem?_append_left hb, List.getElem?_eq_getElem hb]
  generalize ls ++ [(⟨0, sAny, some B0, []⟩ : Ln)] = L at hz0 hk hb2 hlen2 ⊢
  have lok : LinesOk L := ⟨by have := hz0.len; omega, hz0.lev⟩
  have k0 : ls.length < L.length := by omega
  have b0 : b < L.length := by omega
  have ek : L[ls.length] = ⟨0, sAny, some B0, []⟩ := by rw [List.getElem?_eq_getElem k0] at hk; exact Option.some.inj hk
  have eb : L[b] = ls[b] := by rw [List.getElem?_eq_getElem b0] at hb2; exact Option.some.inj hb2
  have lbx := lawBox_ok (T := T) (gl := gl) (n := n) (by omega) lok k0 (r := .int (b : Int)) rfl
  have bG : boxG (gs L) (paths L) ls.length (.int (b : Int)) = some b := by
    have op : opR L[b].rule = true := by rw [eb]; exact ho.op
    have q1 := path_plain k0 (by rw [ek]; show opR sAny = false; decide)
    have q2 := path_open b0 op
    rw [ek] at q1
    rw [eb, ho.lv] at q2
    have q1 : nth (paths L) ls.length = [] := by rw [q1]; exact List.take_zero
    have q2 : nth (paths L) b = [b] := by rw [q2]; simp
    simp only [boxG, Int.toNat_natCast]
    rw [if_pos ⟨by omega, by omega, by rw [(gs_st b0).2.1]; exact op, by unfold boxSeenB; rw [q1, q2]; rfl⟩]
  rw [bG] at lbx
  have hX : ∀ A, stAt (gs L) (endK (paths L) ls.length b) = some A → Cs A := fun A e => by
    unfold stAt at e
    cases q : (gs L)[endK (paths L) ls.length b]? with
    | none => rw [q] at e; cases e
    | some z =>
      rw [q] at e
      obtain ⟨y, hy, rfl⟩ := List.mem_map.mp (List.mem_of_getElem? q)
      exact (hz0.ln y hy).st A e
  have lbx : callF T gl n 253 [.lst (L.map Ln.enc), .int (ls.length : Int), .int (b : Int)] = .ok (.lst [.str (ruleAt (gs L) b), eStm (stAt (gs L) b), .tup (refsAt (gs L) b), eStm (stAt (gs L) (endK (paths L) ls.length b))]) := lbx
  generalize stAt (gs L) (endK (paths L) ls.length b) = X at lbx hX
  generalize stAt (gs L) b = X2 at lbx
  (repeat' ((try (conv => whnf)) <;> first | with_reducible refine stepE ?_ | with_reducible refine stepEs ?_ | refine okO_of (o := getSh _ _) rfl ?_ | refine okO_of (o := opF _ _) rfl ?_ | refine okO_of (o := getAny _ _) rfl ?_)) <;> (try (conv => whnf))
  rw [ll]
  cases X with
  | none =>
    have lbx : callF T gl n 253 [.lst (L.map Ln.enc), .int (ls.length : Int), .int (b : Int)] = .ok (.lst [.str (ruleAt (gs L) b), eStm X2, .tup (refsAt (gs L) b), .non]) := lbx
    (repeat' ((try (conv => whnf)) <;> first | refine okT_ct rfl ?_ | (refine part fun B hB => ?_) | exact rest _ _ hB | refine okR_of (lbx) ?_ | with_reducible refine stepE ?_ | with_reducible refine stepEs ?_ | with_reducible refine stepB ?_ | with_reducible refine stepS ?_ | refine okO_of (o := getSh _ _) rfl ?_ | with_reducible refine o_mod (by first | decide | omega | (simp only [List.length_map, List.length_range, List.length_cons, List.length_nil, List.length_append]; omega)) ?_ | with_reducible refine o_fdiv (by first | decide | omega | (simp only [List.length_map, List.length_range, List.length_cons, List.length_nil, List.length_append]; omega)) (by first | decide | omega | (simp only [List.length_map, List.length_range, List.length_cons, List.length_nil, List.length_append]; omega)) ?_ | refine okO_of (o := opIx (.lst (_ :: _)) _) rfl ?_ | refine okO_of (o := opF _ _) rfl ?_)) <;> (try (conv => whnf))
  | some A =>
    have hA := hX A rfl
    have nA := isNon_enc A
    have lbx : callF T gl n 253 [.lst (L.map Ln.enc), .int (ls.length : Int), .int (b : Int)] = .ok (.lst [.str (ruleAt (gs L) b), eStm X2, .tup (refsAt (gs L) b), A.enc]) := lbx
    (repeat' ((try (conv => whnf)) <;> first | refine okT_cf nA ?_ | exact rest _ _ hA | refine okR_of (lbx) ?_ | with_reducible refine stepE ?_ | with_reducible refine stepB ?_ | with_reducible refine stepS ?_ | refine okO_of (o := getSh _ _) rfl ?_ | refine okO_of (o := opIx (.lst (_ :: _)) _) rfl ?_)) <;> (try (conv => whnf))
theorem law_plain_35 [Gl gl 0 (.str small)] [Gl gl 1 (.str great)] [Gl gl 2 (.str figs)] [Gl gl 3 (.tup (kept.map .str))] [Gl gl 4 (.int 8)] [Fn T 5 c_built] [Fn T 6 c_is_name] [Fn T 7 c_is_letter] [Fn T 15 c_parts_of] [Fn T 27 c_rising] [Fn T 28 c_names_in] [Fn T 29 c_free_in] [Fn T 35 c_put] [Fn T 140 c_opens] [Fn T 144 c_boxes] [Fn T 154 c_begins] [Fn T 155 c_seen] [Fn T 157 c_box_seen] [Fn T 159 c_end_of] [Fn T 209 c_is_number_v1] [Fn T 210 c_names_one] [Fn T 211 c_told] [Fn T 212 c_is_form] [Fn T 213 c_is_box] [Fn T 214 c_closes] [Fn T 215 c_named] [Fn T 216 c_is_new] [Fn T 217 c_opening] [Fn T 218 c_by_one] [Fn T 219 c_by_two] [Fn T 220 c_by_box] [Fn T 221 c_by_cases] [Fn T 222 c_by_each] [Fn T 223 c_by_some] [Fn T 224 c_box_name] [Fn T 225 c_by_every] [Fn T 226 c_by_case] [Fn T 227 c_refs_of] [Fn T 228 c_by_lines] [Fn T 229 c_by_boxes] [Fn T 230 c_is_told] [Fn T 231 c_follows]
    [Fn T 232 c_law_cell_at_v1] [Fn T 233 c_law_name_by_v2] [Fn T 234 c_law_letter_by] [Fn T 235 c_law_made] [Fn T 236 c_law_draw] [Fn T 237 c_law_some] [Fn T 238 c_law_paths] [Fn T 253 c_law_box] [Fn T 263 c_law_put_v1] [Fn T 265 c_law_is_name_v2] [Fn T 273 c_law_names] [Fn T 274 c_law_out] [Fn T 275 c_law_lines_v2] [Fn T 276 c_law_new] [Fn T 277 c_law_every] [Fn T 278 c_law_whole_v1] [Fn T 279 c_law_v26]
    {s : List Int} (h : s.length ≤ 63) : callF T gl depthMost 279 [.lst (s.map .int)] = .ok (.bl true) := by
  refine eq_of_okR (okR_call (k := 200) (by decide) rfl fun n hn => ?_)
  have lv := line_val
  (repeat' ((try (conv => whnf)) <;> first | with_reducible refine stepE ?_ | with_reducible refine stepEs ?_ | with_reducible refine stepB ?_ | with_reducible refine stepS ?_ | refine okO_of (o := getSh _ _) rfl ?_)) <;> (try (conv => whnf))
  refine okR_then (draw_ok (by omega) s _) fun d ⟨ns, ws, hd, dr⟩ => ?_
  subst hd
  have n3 := dr.n3
  (repeat' ((try (conv => whnf)) <;> first | with_reducible refine stepE ?_ | with_reducible refine stepEs ?_ | with_reducible refine stepB ?_ | with_reducible refine stepS ?_ | refine okO_of (o := getSh _ _) rfl ?_)) <;> (try (conv => whnf))
  refine okR_then (some2_ok (by omega) s _ (ns := ns) (by omega) (by omega) dr.w3 dr.n dr.w _ (by omega) (by omega)) fun d ⟨ps, hd, pl, pc⟩ => ?_
  subst hd
  have pl : ps.length = 3 := pl
  (repeat' ((try (conv => whnf)) <;> first | with_reducible refine stepE ?_ | with_reducible refine stepEs ?_ | with_reducible refine stepB ?_ | refine okO_of (o := getSh _ _) rfl ?_)) <;> (try (conv => whnf))
  refine okR_then (lines35_ok (by omega) s dr pl pc) fun d ⟨ls, b, u, hd, hu, hz, hb, ho⟩ => ?_
  subst hd
  have hlen := hz.len
  (repeat' ((try (conv => whnf)) <;> first | with_reducible refine stepE ?_ | with_reducible refine stepEs ?_ | with_reducible refine stepB ?_ | with_reducible refine stepS ?_ | refine okO_of (o := getSh _ _) rfl ?_ | refine okO_of (o := getAny _ _) rfl ?_ | refine okO_of (o := getPrt _ _ _) rfl ?_ | refine okO_of (o := ite _ (pairOf _) _) rfl ?_ | refine okO_of (o := konP _ _) rfl ?_ | refine okO_of (o := ownsAt _ _) rfl ?_)) <;> (try (conv => whnf))
  refine okR_then (whole35_ok (by omega) s pl pc hz hb ho hu) fun d ⟨S, y, hd, hS, hy⟩ => ?_
  subst hd
  have hk : (ls ++ [(⟨0, sEvery, some S, [y]⟩ : Ln)])[ls.length]? = some ⟨0, sEvery, some S, [y]⟩ := by simp
  have hb2 : (ls ++ [(⟨0, sEvery, some S, [y]⟩ : Ln)])[b]? = some ls[b] := by rw [List.getElem?_append_left hb, List.getElem?_eq_getElem hb]
  have hL : (ls ++ [(⟨0, sEvery, some S, [y]⟩ : Ln)]).length = ls.length + 1 := by simp
  have ⟨lok, lgo⟩ := hz.last (l := ⟨0, sEvery, some S, [y]⟩) ⟨fun A e => (by cases e; exact hS.ok), by show 1 ≤ 1000; omega, fun z h => by rw [List.mem_singleton.mp h]; exact hy⟩ (by show lst (opR sEvery) ≤ 0; decide) (Nat.zero_le _) (Nat.zero_le _) (by omega)
  generalize ls ++ [(⟨0, sEvery, some S, [y]⟩ : Ln)] = L at lok lgo hk hb2 hL ⊢
  have ggo : ∀ z ∈ gs L, LgOk z := fun z hz => by
    obtain ⟨y, hy, rfl⟩ := List.mem_map.mp hz
    exact lgo y hy
  have k0 : ls.length < L.length := by omega
  have b0 : b < L.length := by omega
  have ek : L[ls.length] = ⟨0, sEvery, some S, [y]⟩ := by rw [List.getElem?_eq_getElem k0] at hk; exact Option.some.inj hk
  have eb : L[b] = ls[b] := by rw [List.getElem?_eq_getElem b0] at hb2; exact Option.some.inj hb2
  have lp := fun (j : Nat) (hj : j < L.length) => (⟨ggo, by rw [paths_len]; have := lok.len; omega, by rw [paths_len]; simp, by rw [paths_len]; exact hj⟩ : LpOk (gs L) (paths L) j)
  have f1 := followsG_ok (T := T) (gl := gl) (n := n) (by omega) (lp _ k0)
  have f2 := followsG_ok (T := T) (gl := gl) (n := n) (by omega) (lp _ b0)
  rw [gs_enc] at f1 f2
  have o1 := lawEvery_ok (T := T) (gl := gl) (n := n) (by omega) lok lgo (k := ls.length) (by omega) (S := S) (by rw [ek]) (y := y) (by rw [ek])
  have w1 := lawNew35_ok (T := T) (gl := gl) (n := n) (by omega) lgo b0
  have e1 : followsG (gs L) (paths L) ls.length = byG (gs L) (paths L) ls.length sEvery S [y] := by
    have : (gs L)[ls.length]? = some ⟨0, sEvery, some S, [y]⟩ := by
      show (L.map Ln.g)[ls.length]? = _
      rw [List.getElem?_map, hk]
      rfl
    unfold followsG
    rw [this]
    show ((if sEvery == newR then _ else S.fre.isEmpty) && _) = _
    rw [fre_nil_of_cl hS]
    rfl
  have e2 : ls[b].rule = newR → followsG (gs L) (paths L) b = newG (gs L) b L[b].refs := fun hr => by
    have : (gs L)[b]? = some ls[b].g := by
      show (L.map Ln.g)[b]? = _
      rw [List.getElem?_map, hb2]
      rfl
    unfold followsG
    rw [this, eb]
    have hr' : ls[b].g.rule = newR := hr
    have hA' : ls[b].g.st = none := ho.old hr
    show (isToldG ls[b].g && (if isIn (.str ls[b].g.rule) byOpen then openG (gs L) b ls[b].g else _)) = _
    have t1 : isToldG ls[b].g = true := by
      unfold isToldG
      rw [hr', hA']
      rfl
    have t2 : isIn (.str ls[b].g.rule) byOpen = true := by rw [hr']; decide
    rw [t1, t2]
    simp only [if_true, Bool.true_and]
    unfold openG
    rw [hr']
    rfl
  rw [e1] at f1
  generalize byG (gs L) (paths L) ls.length sEvery S [y] = g1 at f1 o1
  generalize followsG (gs L) (paths L) b = g2 at f2 e2
  generalize newG (gs L) b L[b].refs = g3 at w1 e2
  have bx := boxes_ok (T := T) (gl := gl) (n := n) (by omega) L lok
  have ln : (((L.map Ln.enc).length : Nat) : Int) - 1 = (ls.length : Int) := by rw [List.length_map, hL]; omega
  have ld := depthL_lns L lgo
  have dl : min (D.depth (.tup (L.map Ln.enc))) (D.depth (.tup (L.map Ln.enc))) ≤ eqDeep := by simp only [D.depth, eqDeep]; omega
  have dbb : ∀ a b : Bool, min (D.depth (.lst [.bl a, .bl b])) (D.depth (.lst [.bl a, .bl b])) ≤ eqDeep := fun a b => by simp [D.depth, D.depthL, eqDeep]
  let En' : En := .fn (fun y => y = .bl true) noX
  have old : ∀ r : List Nat, L[b].rule = r → (!(r == [110, 101, 119])) = true → okB (callF T gl n) gl (c_law_v26.body.tl 4) [some (.sh, .lst (s.map .int)), some (.sh, .lst [.lst (ns.map .str), .lst (ws.map .str)]), some (.sh, .lst (ps.map Stm.enc)), some (.prt, .lst [.non, u, .int (b : Int)]), some (.own, .lst (L.map Ln.enc)), some (.sh, .int (b : Int)), none, none, none, none, none, none, none] En' := fun r hr2 hr3 => by
    have hr5 : (!(r == newR)) = true := hr3
    have hr4 : (L[b].rule == newR) = false := by rw [hr2]; simpa using hr5
    rw [hr4] at w1
    have w1 : callF T gl n 276 [.lst (L.map Ln.enc), .int (b : Int)] = .ok (.bl false) := w1
    (repeat' ((try (conv => whnf)) <;> first | refine okR_of (bx) ?_ | with_reducible refine stepE ?_ | with_reducible refine stepEs ?_ | with_reducible refine stepB ?_ | with_reducible refine stepS ?_ | refine okO_of (o := getSh _ _) rfl ?_ | with_reducible refine o_subi ?_ | refine okO_of (o := opF _ _) rfl ?_ | refine okO_of (o := getAny _ _) rfl ?_ | refine okO_of (o := getOwn _ _) rfl ?_)) <;> (try (conv => whnf))
    rw [ln]
    (repeat' ((try (conv => whnf)) <;> first | refine o_lnl b0 ?_ | refine o_ln1r hr2 ?_ | refine okT_ct hr3 ?_ | refine okR_of (f1) ?_ | refine okR_of (f2) ?_ | refine okR_of (o1) ?_ | refine okR_of (w1) ?_ | with_reducible refine stepE ?_ | with_reducible refine stepEs ?_ | with_reducible refine stepB ?_ | with_reducible refine stepS ?_ | refine okO_of (o := getSh _ _) rfl ?_ | with_reducible refine o_nes ?_ | refine okO_of (o := ixPart _ _) rfl ?_)) <;> (try (conv => whnf))
    refine o_sll fun t ht _ => ?_
    rw [cut_takeI _ (by omega)] at ht
    obtain rfl : t = [.bl g1] := ht
    (repeat' ((try (conv => whnf)) <;> first | with_reducible refine stepE ?_ | refine okO_of (o := getSh _ _) rfl ?_ | refine okO_of (o := ixPart _ _) rfl ?_)) <;> (try (conv => whnf))
    refine o_sll fun t ht _ => ?_
    rw [cut_dropI _ (by omega)] at ht
    obtain rfl : t = [.bl g2] := ht
    (repeat' ((try (conv => whnf)) <;> first | refine okO_of (o := opB _ (.lst [.bl g1]) (.lst [.bl g2])) (a := .lst [.bl g1, .bl g2]) rfl ?_ | refine o_eq (dbb _ _) ?_ | refine o_eq dl ?_ | refine okT_ct (eqv_refl _) ?_ | refine okR_of (f1) ?_ | refine okR_of (f2) ?_ | with_reducible refine stepE ?_ | with_reducible refine stepEs ?_ | with_reducible refine stepB ?_ | with_reducible refine stepS ?_ | refine okO_of (o := getSh _ _) rfl ?_ | with_reducible refine okK_bl ?_ | with_reducible refine okT_tt ?_ | with_reducible refine okT_ct (by decide) ?_ | with_reducible refine o_isB ?_ | refine okO_of (o := opF _ _) rfl ?_ | with_reducible refine stepIt ?_ | refine okO_of (o := itemsOf _) rfl ?_ | with_reducible refine okComp_cons ?_ | with_reducible refine okComp_nil ?_)) <;> (try (conv => whnf))
    all_goals first
      | (rw [eqv_refl]; done)
      | (rw [eqv_refl]; rfl)
  have new : L[b].rule = newR → okB (callF T gl n) gl (c_law_v26.body.tl 4) [some (.sh, .lst (s.map .int)), some (.sh, .lst [.lst (ns.map .str), .lst (ws.map .str)]), some (.sh, .lst (ps.map Stm.enc)), some (.prt, .lst [.non, u, .int (b : Int)]), some (.own, .lst (L.map Ln.enc)), some (.sh, .int (b : Int)), none, none, none, none, none, none, none] En' := fun hr2 => by
    have hr4 : (L[b].rule == newR) = true := by rw [hr2]; rfl
    rw [hr4] at w1
    have w1 : callF T gl n 276 [.lst (L.map Ln.enc), .int (b : Int)] = .ok (.bl g3) := w1
    have e3 := e2 (by rw [← eb]; exact hr2)
    subst e3
    have hr2 : L[b].rule = [110, 101, 119] := hr2
    (repeat' ((try (conv => whnf)) <;> first | refine okR_of (bx) ?_ | with_reducible refine stepE ?_ | with_reducible refine stepEs ?_ | with_reducible refine stepB ?_ | with_reducible refine stepS ?_ | refine okO_of (o := getSh _ _) rfl ?_ | with_reducible refine o_subi ?_ | refine okO_of (o := opF _ _) rfl ?_ | refine okO_of (o := getAny _ _) rfl ?_ | refine okO_of (o := getOwn _ _) rfl ?_)) <;> (try (conv => whnf))
    rw [ln]
    (repeat' ((try (conv => whnf)) <;> first | refine o_lnl b0 ?_ | refine o_ln1r hr2 ?_ | refine o_eq (dbb _ _) ?_ | refine o_eq dl ?_ | refine okT_ct (eqv_refl _) ?_ | refine okR_of (f1) ?_ | refine okR_of (f2) ?_ | refine okR_of (o1) ?_ | refine okR_of (w1) ?_ | with_reducible refine stepE ?_ | with_reducible refine stepEs ?_ | with_reducible refine stepB ?_ | with_reducible refine stepS ?_ | refine okO_of (o := getSh _ _) rfl ?_ | with_reducible refine okK_bl ?_ | with_reducible refine okT_tt ?_ | with_reducible refine okT_ct (by decide) ?_ | with_reducible refine okT_cf (by decide) ?_ | with_reducible refine o_nes ?_ | with_reducible refine o_isB ?_ | refine okO_of (o := opF _ _) rfl ?_ | with_reducible refine stepIt ?_ | refine okO_of (o := itemsOf _) rfl ?_ | with_reducible refine okComp_cons ?_ | with_reducible refine okComp_nil ?_)) <;> (try (conv => whnf))
    all_goals first
      | (rw [eqv_refl]; done)
      | (rw [eqv_refl]; rfl)
  rcases ho.rule with hr | hr | hr
  · have hc := old caseR (by rw [eb]; exact hr) rfl
    (repeat' ((try (conv => whnf)) <;> first | exact hc | refine okO_of (o := mutRes _ _) (a := (_, [_])) rfl ?_)) <;> (try (conv => whnf))
  · (repeat' ((try (conv => whnf)) <;> first | exact new (by rw [eb]; exact hr) | refine okO_of (o := mutRes _ _) (a := (_, [_])) rfl ?_)) <;> (try (conv => whnf))
  · have hc := old guessR (by rw [eb]; exact hr) rfl
    (repeat' ((try (conv => whnf)) <;> first | exact hc | refine okO_of (o := mutRes _ _) (a := (_, [_])) rfl ?_)) <;> (try (conv => whnf))
end
end Ev

namespace LawEnd
open PySem PySem.Spec Ev
open PyProof.Rows hiding St
theorem plain (ns : List Int) (h : ns.length ≤ 63) : callF tx.T tx.gl depthMost 279 [.lst (ns.map .int)] = .ok (.bl true) := law_plain_35 h
end LawEnd
open PySem PySem.W PySem.Calls PyProof.Rows Ev
theorem PySem.Challenge.cw_boxproof_k35_new_and_every_holds : PySem.Challenge.rw_boxproof_k35_new_and_every.Holds := by
  exact LawEnd.holds_of LawEnd.plain

