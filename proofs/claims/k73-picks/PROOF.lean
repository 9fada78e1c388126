import PyProof.Rows.All
import Wide.All
import OpenK.AllK
import Wide.FinOn
import HandS.ForMost
import HandS.ForExc
import HandS.Wide
import HandS.IsInst
import HandS.EndBits
import PySem.Challenge.RW_lightstold_k73_judge_of_picks
set_option Elab.async false
set_option linter.all false
set_option maxRecDepth 100000
set_option autoImplicit false
/-! MV, part A: data, the small language, its evaluator. -/
namespace MV
open PySem L2

/-- data: flags tell which containers are owned; scr is the script -/
inductive D where
  | un | non | bl (b : Bool) | int (i : Int) | str (s : Str)
  | lst (o : Bool) (xs : List D) | tup (o : Bool) (xs : List D)
  | ins (o : Bool) (c : Nat) (ks : List Nat) (xs : List D)
  | scr (ns : List Int)

mutual
/-- frozen copy -/
def D.fz : D → D
  | .lst _ xs => .lst false (fzs xs)
  | .tup _ xs => .tup false (fzs xs)
  | .ins _ c ks xs => .ins false c ks (fzs xs)
  | .un => .un
  | .non => .non
  | .bl b => .bl b
  | .int i => .int i
  | .str s => .str s
  | .scr ns => .scr ns
def fzs : List D → List D
  | [] => []
  | d :: r => d.fz :: fzs r
end
mutual
def D.isFz : D → Bool
  | .lst o xs => !o && isFzs xs
  | .tup o xs => !o && isFzs xs
  | .ins o _ _ xs => !o && isFzs xs
  | .un => true
  | .non => true
  | .bl _ => true
  | .int _ => true
  | .str _ => true
  | .scr _ => true
def isFzs : List D → Bool
  | [] => true
  | d :: r => d.isFz && isFzs r
end
mutual
/-- as plain data -/
def D.py : D → Option PyData
  | .non => some .none
  | .bl b => some (.bool b)
  | .int i => some (.int i)
  | .str s => some (.str s)
  | .lst _ xs => (pys xs).map .list
  | .tup _ xs => (pys xs).map .tuple
  | .un => none
  | .ins _ _ _ _ => none
  | .scr _ => none
def pys : List D → Option (List PyData)
  | [] => some []
  | d :: r => match d.py, pys r with
    | some x, some y => some (x :: y)
    | _, _ => none
end

/-- still expressions: nothing changes -/
inductive P where
  | lit (d : D)
  | sl (i : Nat)
  | ix (a b : P)
  | add (a b : P)
  | sub (a b : P)

/-- one-place and two-place operations -/
inductive U where
  | neg | len | int | abs | str | repr | list | tuple | sum | min | max | sorted
  | isInt | isBool | isList | isTuple | isStr | isN | notN
  deriving DecidableEq
inductive B where
  | add | sub | mul | fdiv | mod | pow | eq | ne | lt | le | gt | ge | isin | notin | ix | min2 | max2
  deriving DecidableEq

inductive T where
  | sl (i : Nat) | nil | cons (a r : T) | tup (a : T)

inductive E where
  | p (a : P)
  | var (i : Nat) | mv (i : Nat)
  | u (op : U) (a : E)
  | b (op : B) (a b : E)
  | ixs (i : Nat) (b : E)
  | slc (a lo hi : E)
  | and (a b : E) | or (a b : E) | not (a : E)
  | ite (c a b : E)
  | chain (a r : E) | ck (op : B) (e r : E)
  | lstE (a : E) | tupE (a : E)
  | call (f : Nat) (a : E) | io (i : Nat)
  | lc (own : List Nat) (t : T) (it : E) (c : E) (e : E)
  | rng (a b : E) | enm (a : E) | zp (a b : E)
  | nil | cons (a r : E)

inductive S where
  | skip | seq (a b : S)
  | asg (t : T) (e : E)
  | setIx (i : Nat) (k : E) (e : E)
  | augIx (i : Nat) (k : P) (op : B) (e : E)
  | aug (i : Nat) (op : B) (e : E)
  | app (i : Nat) (e : E)
  | ex (e : E)
  | ret (e : E) | retN
  | ite (c : E) (a b : S)
  | for_ (t : T) (it : E) (b : S)
  | whl (c : E) (b : S)
  | brk | cnt
  | never

inductive ER where
  | ok (d : D) (ρ : List D) | exc (x : D) (ρ : List D) | bad
inductive LR where
  | ok (ds : List D) (ρ : List D) | exc (x : D) (ρ : List D) | bad
inductive AR where
  | ok (ds : List (Option Nat × D)) (ρ : List D) | exc (x : D) (ρ : List D) | bad
inductive SR where
  | next (ρ : List D) | ret (d : D) (ρ : List D) | brk (ρ : List D) | cnt (ρ : List D) | exc (x : D) (ρ : List D) | bad
inductive CR where
  | ok (d : D) (os : List D) | exc (x : D) (os : List D) | bad

def ixF : D → D → Option D
  | .lst _ xs, .int i => atI xs i
  | .tup _ xs, .int i => atI xs i
  | .str z, .int i => if z.length ≤ sizeLine then (atI z.cps.toList i).map fun c => .str ⟨#[c]⟩ else none
  | _, _ => none

def evP : P → List D → Option D
  | .lit d, _ => some d
  | .sl i, ρ => match ρ[i]? with | some .un => none | r => r
  | .ix a b, ρ => match evP a ρ, evP b ρ with
    | some x, some y => ixF x y
    | _, _ => none
  | .add a b, ρ => match evP a ρ, evP b ρ with
    | some (.int x), some (.int y) => some (.int (x + y))
    | _, _ => none
  | .sub a b, ρ => match evP a ρ, evP b ρ with
    | some (.int x), some (.int y) => some (.int (x - y))
    | _, _ => none

/-- a list of whole numbers -/
def intsD : List D → Option (List Int)
  | [] => some []
  | .int i :: r => (intsD r).map (i :: ·)
  | _ :: _ => none
/-- the least of a list that is not empty, the greatest, the numbers in order -/
def leastI : List Int → Int
  | [] => 0
  | [x] => x
  | x :: y :: r => if x ≤ leastI (y :: r) then x else leastI (y :: r)
def mostI : List Int → Int
  | [] => 0
  | [x] => x
  | x :: y :: r => if mostI (y :: r) ≤ x then x else mostI (y :: r)
def insI (x : Int) : List Int → List Int
  | [] => [x]
  | y :: r => if x ≤ y then x :: y :: r else y :: insI x r
def sortI : List Int → List Int
  | [] => []
  | x :: r => insI x (sortI r)

def uF : U → D → Option D
  | .neg, .int i => some (.int (-i))
  | .len, .lst _ xs => some (.int xs.length)
  | .len, .tup _ xs => some (.int xs.length)
  | .len, .str z => if z.length ≤ sizeLine then some (.int z.length) else none
  | .int, .int i => some (.int i)
  | .int, .bl b => some (.int (if b then 1 else 0))
  | .abs, .int i => some (.int (if i < 0 then -i else i))
  | .str, .int i => if i.natAbs.log2 < 1920 then some (.str (toString i)) else none
  | .repr, d => match d.py with
    | some x => if x.showable && decide (x.shown.length ≤ sizeLine) && decide (x.depth ≤ 60) then some (.str x.shown) else none
    | none => none
  | .list, .lst _ xs => if isFzs xs then some (.lst true xs) else none
  | .list, .tup _ xs => if isFzs xs then some (.lst true xs) else none
  | .list, .scr ns => some (.lst true (ns.map .int))
  | .tuple, .lst _ xs => if isFzs xs then some (.tup true xs) else none
  | .sum, .lst _ xs => (intsD xs).map fun ns => .int ns.sum
  | .min, .lst _ xs => match intsD xs with
    | some (n :: r) => some (.int (leastI (n :: r)))
    | _ => none
  | .max, .lst _ xs => match intsD xs with
    | some (n :: r) => some (.int (mostI (n :: r)))
    | _ => none
  | .sorted, .lst _ xs => match intsD xs with
    | some ns => if ns.length < 64 then some (.lst true ((sortI ns).map .int)) else none
    | _ => none
  | .isInt, d => match d with | .un => none | .ins .. => none | .scr _ => none | .int _ => some (.bl true) | .bl _ => some (.bl true) | _ => some (.bl false)
  | .isBool, d => match d with | .un => none | .ins .. => none | .scr _ => none | .bl _ => some (.bl true) | _ => some (.bl false)
  | .isList, d => match d with | .un => none | .ins .. => none | .scr _ => none | .lst _ _ => some (.bl true) | _ => some (.bl false)
  | .isTuple, d => match d with | .un => none | .ins .. => none | .scr _ => none | .tup _ _ => some (.bl true) | _ => some (.bl false)
  | .isStr, d => match d with | .un => none | .ins .. => none | .scr _ => none | .str _ => some (.bl true) | _ => some (.bl false)
  | .isN, d => match d with | .un => none | .non => some (.bl true) | _ => some (.bl false)
  | .notN, d => match d with | .un => none | .non => some (.bl false) | _ => some (.bl true)
  | _, _ => none

def eqF (a b : D) : Option Bool := match a.py, b.py with
  | some x, some y => if SeqAt.shaped x && SeqAt.shaped y then some (PyData.eqv x y) else none
  | _, _ => none
def inF (x c : D) : Option Bool := match x, c with
  | .str i, .str j => some (!(Builtin.Str.occurrences j i 0 j.length 1).isEmpty)
  | x, .lst _ ds => match x.py, pys ds with
    | some d, some xs => if SeqAt.shaped d && PyData.canLayAll0 xs then some (xs.any fun y => PyData.eqv y d) else none
    | _, _ => none
  | x, .tup _ ds => match x.py, pys ds with
    | some d, some xs => if SeqAt.shaped d && PyData.canLayAll0 xs then some (xs.any fun y => PyData.eqv y d) else none
    | _, _ => none
  | _, _ => none

def bF : B → D → D → Option D
  | .add, .int i, .int j => some (.int (i + j))
  | .add, .str i, .str j => if i.length + j.length ≤ sizeLine then some (.str (i ++ j)) else none
  | .add, .lst _ xs, .lst _ ys => if isFzs xs && isFzs ys && decide (xs.length + ys.length ≤ sizeLine) then some (.lst true (xs ++ ys)) else none
  | .sub, .int i, .int j => some (.int (i - j))
  | .mul, .int i, .int j => if i.natAbs.log2 + j.natAbs.log2 < 1000000 then some (.int (i * j)) else none
  | .mul, .lst _ xs, .int k => if isFzs xs && decide (-(2 ^ 63) ≤ k) && decide (k < 2 ^ 63) && decide (xs.length * k.toNat ≤ sizeLine) then some (.lst true (List.replicate k.toNat xs).flatten) else none
  | .fdiv, .int i, .int j => if 0 < j ∧ j.natAbs.log2 < 9000 then some (.int (i / j)) else none
  | .mod, .int i, .int j => if 0 < j then some (.int (i % j)) else none
  | .pow, .int i, .int j => if 0 ≤ j ∧ j ≤ 1000000 ∧ i.natAbs < 2 ^ 64 then some (.int (i ^ j.toNat)) else none
  | .eq, a, b => (eqF a b).map .bl
  | .ne, a, b => (eqF a b).map fun k => .bl !k
  | .lt, .int i, .int j => some (.bl (decide (i < j)))
  | .le, .int i, .int j => some (.bl (decide (i ≤ j)))
  | .gt, .int i, .int j => some (.bl (decide (j < i)))
  | .ge, .int i, .int j => some (.bl (decide (j ≤ i)))
  | .isin, a, b => (inF a b).map .bl
  | .notin, a, b => (inF a b).map fun k => .bl !k
  | .ix, a, b => match ixF a b with
    | some d => if d.isFz then some d else none
    | none => none
  | .min2, .int i, .int j => some (.int (if j < i then j else i))
  | .max2, .int i, .int j => some (.int (if j > i then j else i))
  | _, _, _ => none

/-- the bounds of a slice: left out, or a number -/
def bndF (out : Bool) (d : D) : Option (Option Int) := match out, d with
  | true, .non => some none
  | false, .int i => some (some i)
  | _, _ => none
def bndO (out : Bool) (d : D) : Option D := if (bndF out d).isSome then some d else none
/-- nothing stands there: None -/
def isN : E → Bool
  | .p (.lit .non) => true
  | _ => false
def cutF (d : D) (lo hi : Option Int) : Option D := match d with
  | .lst _ xs => if isFzs xs then some (.lst true ((xs.drop (HT.sIx xs.length 0 lo)).take (HT.sIx xs.length xs.length hi - HT.sIx xs.length 0 lo))) else none
  | _ => none

def E.isP : E → Bool
  | .p _ => true
  | _ => false
def E.isNil : E → Bool
  | .nil => true
  | _ => false

def ER.bind : ER → (D → List D → ER) → ER
  | .ok d ρ, f => f d ρ
  | .exc x ρ, _ => .exc x ρ
  | .bad, _ => .bad
/-- what is asked of a value that is kept -/
def own (e : E) (r : ER) : ER := match r with
  | .ok d ρ => if e.isP && !d.isFz then .bad else .ok d ρ
  | .exc x ρ => .exc x ρ
  | .bad => .bad
def ofO (o : Option D) (ρ : List D) : ER := match o with
  | some d => .ok d ρ
  | none => .bad

/-- a target is given a value -/
def bindT : T → D → List D → Option (List D)
  | .sl i, d, ρ => if i < ρ.length then some (ρ.set i d) else none
  | .tup t, d, ρ => match d.fz with
    | .tup _ ds => bindT t (.tup false ds) ρ
    | _ => none
  | .nil, .tup _ [], ρ => some ρ
  | .cons t r, .tup o (d :: ds), ρ => match bindT t d ρ with
    | some ρ1 => bindT r (.tup o ds) ρ1
    | none => none
  | _, _, _ => none

def slotsOf : List (Option Nat × D) → List Nat
  | [] => []
  | (some i, _) :: r => i :: slotsOf r
  | (none, _) :: r => slotsOf r
def back : List (Option Nat × D) → List D → List D → List D
  | (some i, _) :: r, o :: os, ρ => back r os (ρ.set i o)
  | (none, _) :: r, _ :: os, ρ => back r os ρ
  | _, _, ρ => ρ

def plainA : List (Option Nat × D) → Option (List D)
  | [] => some []
  | (none, d) :: r => (plainA r).map (d :: ·)
  | (some _, _) :: _ => none

/-- the items of what is walked -/
def itemsF : D → Option (List D)
  | .lst _ xs => some xs
  | .tup _ xs => some xs
  | _ => none
def enumF : Nat → List D → List D
  | _, [] => []
  | n, d :: r => .tup false [.int n, d] :: enumF (n + 1) r
def zipF : List D → List D → List D
  | x :: xs, y :: ys => .tup false [x, y] :: zipF xs ys
  | _, _ => []
def rngF (lo : Int) (n : Nat) : List D := (List.range n).map fun (i : Nat) => .int (lo + (i : Int))

def unS (own : List Nat) (ρ : List D) : List D := own.foldl (fun r i => r.set i .un) ρ

/-- the turns of a comprehension -/
def lcL (turn : D → List D → ER) : List D → List D → List D → ER
  | [], acc, ρ => .ok (.lst true acc) ρ
  | d :: r, acc, ρ => match turn d ρ with
    | .ok (.lst true ds) ρ' => if acc.length + ds.length ≤ sizeLine then lcL turn r (acc ++ ds) ρ' else .bad
    | .ok _ _ => .bad
    | .exc _ _ => .bad
    | .bad => .bad

def AR.bind : AR → (List (Option Nat × D) → List D → AR) → AR
  | .ok d ρ, f => f d ρ
  | .exc x ρ, _ => .exc x ρ
  | .bad, _ => .bad
def ER.toA : ER → (D → List D → AR) → AR
  | .ok d ρ, f => f d ρ
  | .exc x ρ, _ => .exc x ρ
  | .bad, _ => .bad
def AR.toE : AR → (List (Option Nat × D) → List D → ER) → ER
  | .ok d ρ, f => f d ρ
  | .exc x ρ, _ => .exc x ρ
  | .bad, _ => .bad
def ER.toL : ER → (D → List D → LR) → LR
  | .ok d ρ, f => f d ρ
  | .exc x ρ, _ => .exc x ρ
  | .bad, _ => .bad
def LR.toE : LR → (List D → List D → ER) → ER
  | .ok d ρ, f => f d ρ
  | .exc x ρ, _ => .exc x ρ
  | .bad, _ => .bad
def ER.toS : ER → (D → List D → SR) → SR
  | .ok d ρ, f => f d ρ
  | .exc x ρ, _ => .exc x ρ
  | .bad, _ => .bad
def LR.toS : LR → (List D → List D → SR) → SR
  | .ok d ρ, f => f d ρ
  | .exc x ρ, _ => .exc x ρ
  | .bad, _ => .bad
/-- by a truth value -/
def onB (d : D) (t f : ER) : ER := match d with
  | .bl true => t
  | .bl false => f
  | _ => .bad
def onBS (d : D) (t f : SR) : SR := match d with
  | .bl true => t
  | .bl false => f
  | _ => .bad
/-- a slot that holds something -/
def slot (ρ : List D) (i : Nat) : Option D := match ρ[i]? with
  | some .un => none
  | r => r
/-- the arguments, with what stands in the slots -/
def fill (ρ : List D) : List (Option Nat × D) → Option (List D)
  | [] => some []
  | (some i, _) :: r => match slot ρ i with
    | some d => (fill ρ r).map (d :: ·)
    | none => none
  | (none, d) :: r => (fill ρ r).map (d :: ·)
def onO (o : Option D) (f : D → ER) : ER := match o with
  | some d => f d
  | none => .bad
def onOS (o : Option D) (f : D → SR) : SR := match o with
  | some d => f d
  | none => .bad
def onR (o : Option (List D)) (f : List D → ER) : ER := match o with
  | some d => f d
  | none => .bad
def onRS (o : Option (List D)) (f : List D → SR) : SR := match o with
  | some d => f d
  | none => .bad
def mkL (own : Bool) (as : List (Option Nat × D)) (ρ : List D) : ER := match plainA as with
  | some ds => if ds.length ≤ sizeLine then .ok (if own then .lst true (fzs ds) else .tup false (fzs ds)) ρ else .bad
  | none => .bad
/-- behind a call -/
def backC (as : List (Option Nat × D)) (ρ : List D) : CR → ER
  | .ok d os => .ok d (back as os ρ)
  | .exc x os => .exc x (back as os ρ)
  | .bad => .bad
def sliceF (a b : Bool) (x l h : D) (ρ : List D) : ER := match bndF a l, bndF b h with
  | some l, some h => ofO (cutF x l h) ρ
  | _, _ => .bad
def rngR (x y : D) (ρ : List D) : LR := match x, y with
  | .int i, .int j => if -(2 ^ 62) ≤ i ∧ i < 2 ^ 62 ∧ -(2 ^ 62) ≤ j ∧ j < 2 ^ 62 then .ok (rngF i (j - i).toNat) ρ else .bad
  | _, _ => .bad
def enmR (x : D) (ρ : List D) : LR := match x.fz with
  | .lst _ xs => .ok (enumF 0 xs) ρ
  | _ => .bad
def zpR (x y : D) (ρ : List D) : LR := match x.fz, y.fz with
  | .lst _ xs, .lst _ ys => .ok (zipF xs ys) ρ
  | _, _ => .bad
def itemsR (x : D) (ρ : List D) : LR := match itemsF x.fz with
  | some ds => .ok ds ρ
  | none => .bad
/-- a turn's item of a comprehension -/
def one (ow : List Nat) (r : ER) : ER := r.bind fun y ρ => .ok (.lst true [y.fz]) (unS ow ρ)

section
variable (C : Nat → List D → CR)
mutual
def evE : E → List D → ER
  | .p a, ρ => ofO (evP a ρ) ρ
  | .var i, ρ => onO (slot ρ i) fun d => .ok d.fz (ρ.set i d.fz)
  | .mv i, ρ => onO (slot ρ i) fun d => .ok d (ρ.set i .un)
  | .u op a, ρ => (evE a ρ).bind fun d ρ1 => ofO (uF op d) ρ1
  | .b op a b, ρ => (if b.isP then evE a ρ else own a (evE a ρ)).bind fun x ρ1 => (evE b ρ1).bind fun y ρ2 => ofO (bF op x y) ρ2
  | .ixs i b, ρ => onO (slot ρ i) fun _ => (own b (evE b ρ)).bind fun y ρ1 => onO (slot ρ1 i) fun x => ofO (bF .ix x y) ρ1
  | .slc a lo hi, ρ => (if lo.isP && hi.isP then evE a ρ else own a (evE a ρ)).bind fun x ρ1 => (own lo (evE lo ρ1)).bind fun l ρ2 => onO (bndO (isN lo) l) fun _ => (own hi (evE hi ρ2)).bind fun h ρ3 => sliceF (isN lo) (isN hi) x l h ρ3
  | .and a b, ρ => (evE a ρ).bind fun x ρ1 => onB x (own b (evE b ρ1)) (.ok (.bl false) ρ1)
  | .or a b, ρ => (evE a ρ).bind fun x ρ1 => onB x (.ok (.bl true) ρ1) (own b (evE b ρ1))
  | .not a, ρ => (evE a ρ).bind fun x ρ1 => onB x (.ok (.bl false) ρ1) (.ok (.bl true) ρ1)
  | .ite c a b, ρ => (evE c ρ).bind fun x ρ1 => onB x (own a (evE a ρ1)) (own b (evE b ρ1))
  | .chain a r, ρ => (own a (evE a ρ)).bind fun x ρ1 => evC r x ρ1
  | .ck _ _ _, _ => .bad
  | .lstE a, ρ => (evA a ρ).toE (mkL true)
  | .tupE a, ρ => (evA a ρ).toE (mkL false)
  | .call f a, ρ => (evA a ρ).toE fun as ρ1 => if (slotsOf as).Nodup then onR (fill ρ1 as) fun ds => backC as ρ1 (C f ds) else .bad
  | .io _, _ => .bad
  | .lc ow t it c e, ρ => (evI it ρ).toE fun ds ρ1 => lcL (fun d ρ => onR (bindT t d (unS ow ρ)) fun ρ2 =>
      (if c.isNil then ER.ok (.bl true) ρ2 else evE c ρ2).bind fun x ρ3 => onB x (one ow (own e (evE e ρ3))) (.ok (.lst true []) (unS ow ρ3))) ds [] (unS ow ρ1)
  | .rng _ _, _ => .bad
  | .enm _, _ => .bad
  | .zp _ _, _ => .bad
  | .nil, _ => .bad
  | .cons _ _, _ => .bad
/-- a chain of comparisons behind its first value -/
def evC : E → D → List D → ER
  | .ck op e r, x, ρ => (own e (evE e ρ)).bind fun y ρ1 => onO (bF op x y) fun z => if r.isNil then onB z (.ok (.bl true) ρ1) (.ok (.bl false) ρ1) else onB z (evC r y ρ1) (.ok (.bl false) ρ1)
  | _, _, _ => .bad
/-- arguments -/
def evA : E → List D → AR
  | .nil, ρ => .ok [] ρ
  | .cons a r, ρ => match a with
    | .io i => (onO (slot ρ i) fun d => .ok .un ρ).toA fun _ ρ1 => (evA r ρ1).bind fun ds ρ2 => .ok ((some i, .un) :: ds) ρ2
    | a => (own a (evE a ρ)).toA fun d ρ1 => (evA r ρ1).bind fun ds ρ2 => .ok ((none, d) :: ds) ρ2
  | _, _ => .bad
/-- what is walked -/
def evI : E → List D → LR
  | .rng a b, ρ => (own a (evE a ρ)).toL fun x ρ1 => (own b (evE b ρ1)).toL fun y ρ2 => rngR x y ρ2
  | .enm a, ρ => (own a (evE a ρ)).toL enmR
  | .zp a b, ρ => (own a (evE a ρ)).toL fun x ρ1 => (own b (evE b ρ1)).toL fun y ρ2 => zpR x y ρ2
  | e, ρ => (own e (evE e ρ)).toL itemsR
end

/-- a loop over items -/
def forL (body : D → List D → SR) : List D → List D → SR
  | [], ρ => .next ρ
  | d :: r, ρ => match body d ρ with
    | .next ρ1 => forL body r ρ1
    | .cnt ρ1 => forL body r ρ1
    | .brk ρ1 => .next ρ1
    | .ret v ρ1 => .ret v ρ1
    | .exc x ρ1 => .exc x ρ1
    | .bad => .bad
/-- behind a while's body -/
def SR.again (r : SR) (f : List D → SR) : SR := match r with
  | .next ρ => f ρ
  | .cnt ρ => f ρ
  | .brk ρ => .next ρ
  | .ret v ρ => .ret v ρ
  | .exc x ρ => .exc x ρ
  | .bad => .bad
def SR.bind (r : SR) (f : List D → SR) : SR := match r with
  | .next ρ => f ρ
  | .cnt ρ => .cnt ρ
  | .brk ρ => .brk ρ
  | .ret v ρ => .ret v ρ
  | .exc x ρ => .exc x ρ
  | .bad => .bad
def whlL (test : List D → ER) (body : List D → SR) : Nat → List D → SR
  | 0, _ => .bad
  | n + 1, ρ => (test ρ).toS fun x ρ1 => onBS x ((body ρ1).again (whlL test body n)) (.next ρ1)
/-- xs[j] = d, by the slot's list -/
def setF (x d : D) (j : D) : Option D := match x, j with
  | .lst true xs, .int j => (ixN xs.length j).map fun n => .lst true (xs.set n d)
  | _, _ => none
def appF (x d : D) : Option D := match x with
  | .lst true xs => if xs.length < sizeLine then some (.lst true (xs ++ [d])) else none
  | _ => none
/-- a whole number -/
def intF : D → Option D
  | .int i => some (.int i)
  | _ => none
def isL : D → Option D
  | .lst o xs => some (.lst o xs)
  | _ => none

variable (W : Nat)
def evS : S → List D → SR
  | .skip, ρ => .next ρ
  | .seq a b, ρ => (evS a ρ).bind (evS b)
  | .asg t e, ρ => (own e (evE C e ρ)).toS fun d ρ1 => onRS (bindT t d ρ1) .next
  | .setIx i k e, ρ => (own e (evE C e ρ)).toS fun d ρ1 => (onO (slot ρ1 i) fun _ => own k (evE C k ρ1)).toS fun j ρ2 => onOS (slot ρ2 i) fun x => onOS (setF x d.fz j) fun y => .next (ρ2.set i y)
  | .augIx i k op e, ρ => onOS (slot ρ i) fun x => onOS (evP k ρ) fun j => onOS (isL x) fun _ => onOS (bF .ix x j) fun y => onOS (intF y) fun _ => (own e (evE C e ρ)).toS fun d ρ1 => onOS (bF op y d) fun z => onOS (intF z) fun _ =>
      onOS (slot ρ1 i) fun x1 => onOS (setF x1 z j) fun w => .next (ρ1.set i w)
  | .aug i op e, ρ => onOS (slot ρ i) fun x => onOS (intF x) fun _ => (own e (evE C e ρ)).toS fun d ρ1 => onOS (bF op x d) fun z => onOS (intF z) fun _ => .next (ρ1.set i z)
  | .app i e, ρ => onOS (slot ρ i) fun x => onOS (isL x) fun _ => (own e (evE C e ρ)).toS fun d ρ1 => onOS (slot ρ1 i) fun x1 => onOS (appF x1 d.fz) fun w => .next (ρ1.set i w)
  | .ex e, ρ => (evE C e ρ).toS fun _ ρ1 => .next ρ1
  | .ret e, ρ => (own e (evE C e ρ)).toS .ret
  | .retN, ρ => .ret .non ρ
  | .ite c a b, ρ => (evE C c ρ).toS fun x ρ1 => onBS x (evS a ρ1) (evS b ρ1)
  | .for_ t it b, ρ => (evI C it ρ).toS fun ds ρ1 => forL (fun d ρ => onRS (bindT t d ρ) (evS b)) ds ρ1
  | .whl c b, ρ => whlL (evE C c) (evS b) W ρ
  | .brk, ρ => .brk ρ
  | .cnt, ρ => .cnt ρ
  | .never, _ => .bad
end

/-- a def: how many slots, which parameters may be changed, its body -/
structure Fn where
  n : Nat
  np : Nat
  io : List Nat
  body : S
/-- the calls, k deep -/
def calls (W : Nat) (tab : List Fn) : Nat → Nat → List D → CR
  | 0, _, _ => .bad
  | k + 1, f, as => match tab[f]? with
    | none => .bad
    | some fn => if as.length = fn.np then match evS (calls W tab k) W fn.body (as ++ List.replicate (fn.n - fn.np) .un) with
        | .ret d ρ => .ok d ((List.range fn.np).map fun i => if i ∈ fn.io then ρ.getD i .un else .un)
        | .next ρ => .ok .non ((List.range fn.np).map fun i => if i ∈ fn.io then ρ.getD i .un else .un)
        | .exc x ρ => .exc x ((List.range fn.np).map fun i => if i ∈ fn.io then ρ.getD i .un else .un)
        | _ => .bad
      else .bad
end MV

set_option Elab.async false
set_option linter.all false
set_option maxRecDepth 100000
set_option autoImplicit false
set_option maxHeartbeats 1000000
/-! MV, part B: what of the heap a datum is. -/
namespace MV
open PySem L2

abbrev AS := Addr → Prop
def dsj (φ ψ : AS) : Prop := ∀ a, φ a → ψ a → False
def em : AS := fun _ => False
def uni (φ ψ : AS) : AS := fun a => φ a ∨ ψ a

/-- v is the datum d: the frozen parts stand in F, the owned ones in H at addresses of φ, each once -/
inductive Ow (K : PySem.W.Frag) (F H : Hp) : V → D → AS → Prop
  | non {φ} : Ow K F H .non .non φ
  | bl {φ} (b : Bool) : Ow K F H (.bl b) (.bl b) φ
  | int {φ} (i : Int) : Ow K F H (.int i) (.int i) φ
  | str {φ} (s : Str) : Ow K F H (.str s) (.str s) φ
  | scr {φ} {a : Addr} (ns : List Int) : SqL K F a (ns.map V.int) → Ow K F H (.ref a) (.scr ns) φ
  | lst0 {φ} {a : Addr} {vs : List V} {ds : List D} : F a = some (.lst vs) → vs.length = ds.length →
      (∀ (i : Nat) (v : V) (d : D), vs[i]? = some v → ds[i]? = some d → Ow K F H v d em) → isFzs ds = true → Ow K F H (.ref a) (.lst false ds) φ
  | tup0 {φ} {a : Addr} {vs : List V} {ds : List D} : SqT K F a vs → vs.length = ds.length →
      (∀ (i : Nat) (v : V) (d : D), vs[i]? = some v → ds[i]? = some d → Ow K F H v d em) → isFzs ds = true → Ow K F H (.ref a) (.tup false ds) φ
  | lst1 {φ} {a : Addr} {vs : List V} {ds : List D} (ψ : Nat → AS) : H a = some (.lst vs) → F a = none → φ a → vs.length = ds.length →
      (∀ (i : Nat) (v : V) (d : D), vs[i]? = some v → ds[i]? = some d → Ow K F H v d (ψ i)) → (∀ i j, i ≠ j → dsj (ψ i) (ψ j)) → (∀ i b, ψ i b → φ b ∧ b ≠ a) → Ow K F H (.ref a) (.lst true ds) φ
  | tup1 {φ} {a : Addr} {vs : List V} {ds : List D} (ψ : Nat → AS) : H a = some (.tup vs) → F a = none → φ a → vs.length = ds.length →
      (∀ (i : Nat) (v : V) (d : D), vs[i]? = some v → ds[i]? = some d → Ow K F H v d (ψ i)) → (∀ i j, i ≠ j → dsj (ψ i) (ψ j)) → (∀ i b, ψ i b → φ b ∧ b ≠ a) → Ow K F H (.ref a) (.tup true ds) φ

variable {K : PySem.W.Frag} {F F' H H' : Hp} {φ φ' ψ : AS} {v : V} {d : D}

theorem isFzs_at : ∀ {ds : List D} {i : Nat} {d : D}, isFzs ds = true → ds[i]? = some d → d.isFz = true
  | [], i, d, _, h => by simp at h
  | e :: r, 0, d, h, q => by
    simp only [isFzs, Bool.and_eq_true] at h
    cases (Option.some.inj q); exact h.1
  | e :: r, i + 1, d, h, q => by
    simp only [isFzs, Bool.and_eq_true] at h
    exact isFzs_at (ds := r) (i := i) h.2 (by simpa using q)
theorem isFzs_of : ∀ {ds : List D}, (∀ (i : Nat) (d : D), ds[i]? = some d → d.isFz = true) → isFzs ds = true
  | [], _ => rfl
  | e :: r, h => by
    simp only [isFzs, Bool.and_eq_true]
    exact ⟨h 0 e rfl, isFzs_of fun i d q => h (i + 1) d (by simpa using q)⟩

theorem SqL.mono (e : Same F F') {a : Addr} {xs : List V} (h : SqL K F a xs) : SqL K F' a xs := e.seq h
theorem SqT.mono (e : Same F F') {a : Addr} {xs : List V} (h : SqT K F a xs) : SqT K F' a xs := by
  rcases h with (h | ⟨o, h⟩) | h
  · exact .inl (.inl (e _ _ h))
  · exact .inl (.inr ⟨o, e _ _ h⟩)
  · exact .inr h

/-- what a datum leans on is kept -/
theorem Ow.keep (h : Ow K F H v d φ) (e : Same F F') (k : ∀ a o, φ a → H a = some o → H' a = some o) (n : ∀ a o, φ a → H a = some o → F a = none → F' a = none)
    (s : ∀ a, φ a → φ' a) : Ow K F' H' v d φ' := by
  induction h generalizing φ' with
  | non => exact .non
  | bl b => exact .bl b
  | int i => exact .int i
  | str x => exact .str x
  | scr ns a => exact .scr ns (e.seq a)
  | lst0 a l c z ih => exact .lst0 (e _ _ a) l (fun i v d q r => ih i v d q r (fun _ _ z => z.elim) (fun _ _ z => z.elim) fun _ z => z) z
  | tup0 a l c z ih => exact .tup0 (SqT.mono e a) l (fun i v d q r => ih i v d q r (fun _ _ z => z.elim) (fun _ _ z => z.elim) fun _ z => z) z
  | lst1 ψ a f p l c dj sb ih =>
    exact .lst1 ψ (k _ _ p a) (n _ _ p a f) (s _ p) l (fun i v d q r => ih i v d q r (fun b o z => k b o (sb i b z).1) (fun b o z => n b o (sb i b z).1) fun _ z => z) dj
      fun i b z => ⟨s b (sb i b z).1, (sb i b z).2⟩
  | tup1 ψ a f p l c dj sb ih =>
    exact .tup1 ψ (k _ _ p a) (n _ _ p a f) (s _ p) l (fun i v d q r => ih i v d q r (fun b o z => k b o (sb i b z).1) (fun b o z => n b o (sb i b z).1) fun _ z => z) dj
      fun i b z => ⟨s b (sb i b z).1, (sb i b z).2⟩
theorem Ow.sub (h : Ow K F H v d φ) (s : ∀ a, φ a → φ' a) : Ow K F H v d φ' := h.keep (Same.refl F) (fun _ _ _ q => q) (fun _ _ _ _ q => q) s
/-- frozen data lean on F alone -/
theorem Ow.frozen (h : Ow K F H v d φ) (z : d.isFz = true) (e : Same F F') (H' : Hp) (φ' : AS) : Ow K F' H' v d φ' := by
  induction h generalizing φ' with
  | non => exact .non
  | bl b => exact .bl b
  | int i => exact .int i
  | str x => exact .str x
  | scr ns a => exact .scr ns (e.seq a)
  | lst0 a l c z' ih => exact .lst0 (e _ _ a) l (fun i v d q r => ih i v d q r (isFzs_at z' r) em) z'
  | tup0 a l c z' ih => exact .tup0 (SqT.mono e a) l (fun i v d q r => ih i v d q r (isFzs_at z' r) em) z'
  | lst1 => simp [D.isFz] at z
  | tup1 => simp [D.isFz] at z
theorem fzs_length : ∀ ds : List D, (fzs ds).length = ds.length
  | [] => rfl
  | d :: r => by simp [fzs, fzs_length r]
theorem fzs_at : ∀ {ds : List D} {i : Nat}, (fzs ds)[i]? = (ds[i]?).map D.fz
  | [], i => by simp [fzs]
  | d :: r, 0 => by simp [fzs]
  | d :: r, i + 1 => by simp [fzs, fzs_at (ds := r)]
mutual
theorem fz_isFz : ∀ d : D, d.fz.isFz = true
  | .lst o xs => by simp [D.fz, D.isFz, fzs_isFz xs]
  | .tup o xs => by simp [D.fz, D.isFz, fzs_isFz xs]
  | .ins o c ks xs => by simp [D.fz, D.isFz, fzs_isFz xs]
  | .un => rfl
  | .non => rfl
  | .bl _ => rfl
  | .int _ => rfl
  | .str _ => rfl
  | .scr _ => rfl
theorem fzs_isFz : ∀ ds : List D, isFzs (fzs ds) = true
  | [] => rfl
  | d :: r => by simp [fzs, isFzs, fz_isFz d, fzs_isFz r]
end
mutual
theorem fz_of : ∀ d : D, d.isFz = true → d.fz = d
  | .lst o xs, h => by
    simp only [D.isFz, Bool.and_eq_true, Bool.not_eq_true'] at h
    simp [D.fz, fzs_of xs h.2, h.1]
  | .tup o xs, h => by
    simp only [D.isFz, Bool.and_eq_true, Bool.not_eq_true'] at h
    simp [D.fz, fzs_of xs h.2, h.1]
  | .ins o c ks xs, h => by
    simp only [D.isFz, Bool.and_eq_true, Bool.not_eq_true'] at h
    simp [D.fz, fzs_of xs h.2, h.1]
  | .un, _ => rfl
  | .non, _ => rfl
  | .bl _, _ => rfl
  | .int _, _ => rfl
  | .str _, _ => rfl
  | .scr _, _ => rfl
theorem fzs_of : ∀ ds : List D, isFzs ds = true → fzs ds = ds
  | [], _ => rfl
  | d :: r, h => by
    simp only [isFzs, Bool.and_eq_true] at h
    simp [fzs, fz_of d h.1, fzs_of r h.2]
end
open Classical in
/-- F with what stands at φ -/
noncomputable def frz (F H : Hp) (φ : AS) : Hp := fun a => if φ a then H a else F a
theorem frz_in {a : Addr} (h : φ a) : frz F H φ a = H a := by unfold frz; rw [if_pos h]
theorem frz_out {a : Addr} (h : ¬ φ a) : frz F H φ a = F a := by unfold frz; rw [if_neg h]
theorem frz_ge (e : Same F H) : Same F (frz F H φ) := fun a o h => by
  by_cases p : φ a
  · rw [frz_in p]; exact e a o h
  · rw [frz_out p]; exact h
theorem frz_le (e : Same F H) : Same (frz F H φ) H := fun a o h => by
  by_cases p : φ a
  · rw [frz_in p] at h; exact h
  · rw [frz_out p] at h; exact e a o h
/-- frozen -/
theorem Ow.freeze (h : Ow K F H v d φ) (e : Same F H) {χ : AS} (s : ∀ a, φ a → χ a) (φ' : AS) (H' : Hp) : Ow K (frz F H χ) H' v d.fz φ' := by
  induction h generalizing φ' with
  | non => exact .non
  | bl b => exact .bl b
  | int i => exact .int i
  | str x => exact .str x
  | scr ns a => exact .scr ns ((frz_ge e).seq a)
  | lst0 a l c z ih => 
    refine .lst0 (frz_ge e _ _ a) (by rw [fzs_length]; exact l) (fun i v d q r => ?_) (fzs_isFz _)
    rw [fzs_at] at r
    obtain ⟨d', r1, r2⟩ := Option.map_eq_some_iff.mp r
    subst r2
    exact ih i v d' q r1 (fun _ z => z.elim) em
  | tup0 a l c z ih =>
    refine .tup0 (SqT.mono (frz_ge e) a) (by rw [fzs_length]; exact l) (fun i v d q r => ?_) (fzs_isFz _)
    rw [fzs_at] at r
    obtain ⟨d', r1, r2⟩ := Option.map_eq_some_iff.mp r
    subst r2
    exact ih i v d' q r1 (fun _ z => z.elim) em
  | lst1 ψ a f p l c dj sb ih =>
    refine .lst0 (by rw [frz_in (s _ p)]; exact a) (by rw [fzs_length]; exact l) (fun i v d q r => ?_) (fzs_isFz _)
    rw [fzs_at] at r
    obtain ⟨d', r1, r2⟩ := Option.map_eq_some_iff.mp r
    subst r2
    exact ih i v d' q r1 (fun b z => s b (sb i b z).1) em
  | tup1 ψ a f p l c dj sb ih =>
    refine .tup0 (.inl (.inl (by rw [frz_in (s _ p)]; exact a))) (by rw [fzs_length]; exact l) (fun i v d q r => ?_) (fzs_isFz _)
    rw [fzs_at] at r
    obtain ⟨d', r1, r2⟩ := Option.map_eq_some_iff.mp r
    subst r2
    exact ih i v d' q r1 (fun b z => s b (sb i b z).1) em

/-! ### the step from one state to another -/
structure Ext (F H : Hp) (φ : AS) (F' H' : Hp) (φ' : AS) : Prop where
  f : Same F F'
  le : Same F' H'
  k : ∀ a o, H a = some o → ¬ φ a → H' a = some o
  n : ∀ a o, H a = some o → ¬ φ a → F a = none → F' a = none
  s : ∀ a o, φ' a → H a = some o → φ a
theorem Ext.refl (e : Same F H) : Ext F H φ F H φ := ⟨Same.refl F, e, fun _ _ h _ => h, fun _ _ _ _ h => h, fun _ _ h _ => h⟩
theorem Ext.trans {F2 H2 : Hp} {φ2 : AS} (a : Ext F H φ F' H' φ') (b : Ext F' H' φ' F2 H2 φ2) : Ext F H φ F2 H2 φ2 where
  f := a.f.trans b.f
  le := b.le
  k := fun x o h n => b.k x o (a.k x o h n) fun z => n (a.s x o z h)
  n := fun x o h n f => b.n x o (a.k x o h n) (fun z => n (a.s x o z h)) (a.n x o h n f)
  s := fun x o z h => by
    by_cases n : φ x
    · exact n
    · exact a.s x o (b.s x o z (a.k x o h n)) h
theorem Ext.sub {ψ : AS} (a : Ext F H φ F' H' φ') (h : ∀ x, ψ x → φ' x) : Ext F H φ F' H' ψ := ⟨a.f, a.le, a.k, a.n, fun x o z q => a.s x o (h x z) q⟩
theorem Ext.sup {ψ : AS} (a : Ext F H φ F' H' φ') (h : ∀ x, φ x → ψ x) : Ext F H ψ F' H' φ' := ⟨a.f, a.le, fun x o q n => a.k x o q fun z => n (h x z), fun x o q n => a.n x o q fun z => n (h x z), fun x o z q => h x (a.s x o z q)⟩

/-- a value by itself -/
structure Tm (K : PySem.W.Frag) (F H : Hp) (v : V) (d : D) (φ : AS) : Prop where
  ow : Ow K F H v d φ
  tr : ∀ a, φ a → ∃ o, H a = some o
/-- a value apart from what changes is kept, and stays apart -/
theorem Tm.past {χ χ' : AS} (t : Tm K F H v d φ) (e : Ext F H χ F' H' χ') (z : dsj φ χ) : Tm K F' H' v d φ ∧ dsj φ χ' := by
  refine ⟨⟨t.ow.keep e.f (fun a o p h => e.k a o h (z a p)) (fun a o p h => e.n a o h (z a p)) fun _ h => h, fun a p => ?_⟩, fun a p q => ?_⟩
  · obtain ⟨o, h⟩ := t.tr a p
    exact ⟨o, e.k a o h (z a p)⟩
  · obtain ⟨o, h⟩ := t.tr a p
    exact z a p (e.s a o q h)

/-- the slots -/
structure Sep (K : PySem.W.Frag) (F H : Hp) (σ : St) (ρ : List D) (φ : AS) : Prop where
  le : Same F H
  len : σ.length = ρ.length
  tr : ∀ a, φ a → ∃ o, H a = some o
  env : ∃ ψ : Nat → AS, (∀ (i : Nat) (d : D), ρ[i]? = some d → d ≠ D.un → ∃ v, σ[i]? = some (some v) ∧ Ow K F H v d (ψ i)) ∧ (∀ i j, i ≠ j → dsj (ψ i) (ψ j)) ∧ (∀ i a, ψ i a → φ a)
variable {σ σ' : St} {ρ ρ' : List D}
theorem Sep.past {χ χ' : AS} (t : Sep K F H σ ρ φ) (e : Ext F H χ F' H' χ') (z : dsj φ χ) : Sep K F' H' σ ρ φ ∧ dsj φ χ' := by
  obtain ⟨ψ, h1, h2, h3⟩ := t.env
  refine ⟨⟨e.le, t.len, fun a p => ?_, ψ, fun i d q n => ?_, h2, h3⟩, fun a p q => ?_⟩
  · obtain ⟨o, h⟩ := t.tr a p
    exact ⟨o, e.k a o h (z a p)⟩
  · obtain ⟨v, s, w⟩ := h1 i d q n
    exact ⟨v, s, w.keep e.f (fun a o p h => e.k a o h (z a (h3 i a p))) (fun a o p h => e.n a o h (z a (h3 i a p))) fun _ h => h⟩
  · obtain ⟨o, h⟩ := t.tr a p
    exact z a p (e.s a o q h)
/-- a slot is looked at -/
theorem Sep.get (t : Sep K F H σ ρ φ) {i : Nat} (h : ρ[i]? = some d) (n : d ≠ .un) : ∃ v, σ[i]? = some (some v) ∧ Ow K F H v d φ := by
  obtain ⟨ψ, h1, h2, h3⟩ := t.env
  obtain ⟨v, s, w⟩ := h1 i d h n
  exact ⟨v, s, w.sub (h3 i)⟩
def upN (χ : Nat → AS) (i : Nat) (ψ : AS) : Nat → AS := fun j => if j = i then ψ else χ j
theorem upN_same {χ : Nat → AS} {i : Nat} {ψ : AS} : upN χ i ψ i = ψ := by unfold upN; rw [if_pos rfl]
theorem upN_ne {χ : Nat → AS} {i j : Nat} {ψ : AS} (h : j ≠ i) : upN χ i ψ j = χ j := by unfold upN; rw [if_neg h]
theorem upN_dsj {χ : Nat → AS} {i : Nat} {ψ : AS} (h2 : ∀ i j, i ≠ j → dsj (χ i) (χ j)) (z : ∀ j, j ≠ i → dsj ψ (χ j)) : ∀ j k, j ≠ k → dsj (upN χ i ψ j) (upN χ i ψ k) := fun j k jk => by
  by_cases hj : j = i
  · by_cases hk : k = i
    · exact absurd (hj.trans hk.symm) jk
    · subst hj
      rw [upN_same, upN_ne hk]
      exact z k hk
  · by_cases hk : k = i
    · subst hk
      rw [upN_same, upN_ne hj]
      exact fun a p q => z j hj a q p
    · rw [upN_ne hj, upN_ne hk]
      exact h2 j k jk
theorem set_at {α : Type} {xs : List α} {i j : Nat} {x e : α} (q : (xs.set i x)[j]? = some e) : (j = i ∧ i < xs.length ∧ e = x) ∨ (j ≠ i ∧ xs[j]? = some e) := by
  by_cases hj : j = i
  · subst hj
    rw [List.getElem?_set, if_pos rfl] at q
    by_cases l : j < xs.length
    · rw [if_pos l] at q
      cases q
      exact .inl ⟨rfl, l, rfl⟩
    · rw [if_neg l] at q; cases q
  · rw [List.getElem?_set_ne (Ne.symm hj)] at q
    exact .inr ⟨hj, q⟩
theorem set_here {α : Type} {xs : List α} {i : Nat} {x : α} (l : i < xs.length) : (xs.set i x)[i]? = some x := by
  rw [List.getElem?_set, if_pos rfl, if_pos l]
/-- a slot is given a value -/
theorem Sep.put (t : Sep K F H σ ρ φ) (m : Tm K F H v d ψ) (z : dsj ψ φ) (i : Nat) : Sep K F H (σ.set i (some v)) (ρ.set i d) (uni ψ φ) := by
  obtain ⟨χ, h1, h2, h3⟩ := t.env
  refine ⟨t.le, by simp [t.len], fun a p => p.elim (m.tr a) (t.tr a), upN χ i ψ, fun j e q n => ?_, upN_dsj h2 fun j _ a p q => z a p (h3 j a q), fun j a p => ?_⟩
  · rcases set_at q with ⟨rfl, l, rfl⟩ | ⟨hj, q⟩
    · rw [upN_same]
      exact ⟨v, set_here (by rw [t.len]; exact l), m.ow⟩
    · rw [upN_ne hj, List.getElem?_set_ne (Ne.symm hj)]
      exact h1 j e q n
  · by_cases hj : j = i
    · subst hj
      rw [upN_same] at p; exact .inl p
    · rw [upN_ne hj] at p; exact .inr (h3 j a p)
/-- a slot is taken out: its value by itself, the rest -/
theorem Sep.take (t : Sep K F H σ ρ φ) {i : Nat} (h : ρ[i]? = some d) (n : d ≠ .un) :
    ∃ v φ1 φ2, σ[i]? = some (some v) ∧ Tm K F H v d φ1 ∧ Sep K F H σ (ρ.set i .un) φ2 ∧ dsj φ1 φ2 ∧ (∀ a, φ1 a → φ a) ∧ (∀ a, φ2 a → φ a) := by
  obtain ⟨χ, h1, h2, h3⟩ := t.env
  obtain ⟨v, s, w⟩ := h1 i d h n
  refine ⟨v, χ i, fun a => ∃ j, j ≠ i ∧ χ j a, s, ⟨w, fun a p => t.tr a (h3 i a p)⟩, ⟨t.le, by simp [t.len], fun a ⟨j, _, p⟩ => t.tr a (h3 j a p), upN χ i em, fun j e q n => ?_, upN_dsj h2 fun j _ a p => p.elim, fun j a p => ?_⟩, fun a p ⟨j, q1, q2⟩ => h2 i j (Ne.symm q1) a p q2, h3 i, fun a ⟨j, _, p⟩ => h3 j a p⟩
  · rcases set_at q with ⟨rfl, l, rfl⟩ | ⟨hj, q⟩
    · exact absurd rfl n
    · rw [upN_ne hj]
      exact h1 j e q n
  · by_cases hj : j = i
    · subst hj
      rw [upN_same] at p; exact p.elim
    · rw [upN_ne hj] at p; exact ⟨j, hj, p⟩
theorem Sep.sub (t : Sep K F H σ ρ φ) (s : ∀ a, φ a → φ' a) (tr : ∀ a, φ' a → ∃ o, H a = some o) : Sep K F H σ ρ φ' := by
  obtain ⟨χ, h1, h2, h3⟩ := t.env
  exact ⟨t.le, t.len, tr, χ, h1, h2, fun i a p => s a (h3 i a p)⟩
/-- frozen: the step -/
theorem Ext.freeze (e : Same F H) (s : ∀ a, ψ a → φ a) (s' : ∀ a, φ' a → φ a) : Ext F H φ (frz F H ψ) H φ' :=
  ⟨frz_ge e, frz_le e, fun _ _ h _ => h, fun a o h n f => by rw [frz_out fun z => n (s a z)]; exact f, fun a o z _ => s' a z⟩
/-- a new object that is tracked -/
theorem Same.new {p : Addr} {o : HO} (h : H p = none) : Same H (upd H p o) := fun b u e => by
  rw [upd_ne (ne_of_none e h)]
  exact e
theorem Ext.new {p : Addr} {o : HO} (e : Same F H) (h : H p = none) : Ext F H φ F (upd H p o) (uni φ (fun a => a = p)) :=
  ⟨Same.refl F, e.trans (Same.new h), fun a u q _ => Same.new h a u q, fun _ _ _ _ q => q, fun a u z q => z.elim id fun z => by rw [z, h] at q; cases q⟩
end MV

set_option Elab.async false
set_option linter.all false
set_option maxRecDepth 100000
set_option autoImplicit false
set_option maxHeartbeats 1000000
/-! MV, part C: still expressions. -/
namespace MV
open PySem PySem.Spec PyProof.Rows L2

/-- what is known of a def's text: its names by slot, its scope's names, those that are stored, the defs, the built-in names, the slots that stay -/
structure Sc where
  N : List Str
  names : List (Str × NameKind)
  lk : List (Str × NameKind)
  fns : List Str
  bl : List Str
  keep : List Nat

def Sc.vis (S : Sc) (i : Nat) (x : Str) : Bool :=
  decide (S.N[i]? = some x) && (match S.names.lookup x with | some .local => true | some .cell => true | some .free => true | _ => false) && !(x == ("__debug__" : Str)) && !(x == ("__classdict__" : Str))
def Sc.loc (S : Sc) (i : Nat) (x : Str) : Bool := decide (S.N[i]? = some x) && (match S.lk.lookup x with | some .local => true | some .cell => true | _ => false) && !S.keep.contains i
def Sc.gl (S : Sc) (x : Str) : Bool := (match S.names.lookup x with | some .globalImplicit => true | _ => false) && !(x == ("__debug__" : Str))
def Sc.bi (S : Sc) (x : Str) : Bool := S.gl x && S.bl.contains x && decide (x ≠ ("__name__" : Str))

structure Good (X : Cx) (S : Sc) : Prop where
  N : X.N = S.N
  nd : S.N.Nodup
  sc : X.env.scope.names = S.names
  kind : X.env.scope.kind = .function
  calm : X.calm = true
  lk : ∀ x, (S.lk.lookup x = some .local → X.env.scope.names.lookup x = some .local) ∧ (S.lk.lookup x = some .cell → X.env.scope.names.lookup x = some .cell ∧ X.fn x = true)
  blt : ∀ x, S.bl.contains x = true → X.mg x = none
  grd : X.A.guards = some []
  uni : X.A.units + 65 < cLine

variable {X : Cx} {S : Sc} {K : PySem.W.Frag} {F F' H H' : Hp} {φ φ' ψ : AS} {v : V} {d : D} {σ : L2.St} {ρ : List D}

theorem PE.mono {e : Expr} {t t' : TE} (h : PE X e t) (w : ∀ σ H Q, t' σ H Q → t σ H Q) : PE X e t' := ⟨fun pins s σ H Q I q => h.run pins s σ H Q I (w σ H Q q)⟩
theorem PT.mono {e : Expr} {t t' : TT} (h : PT X e t) (w : ∀ σ H Q, t' σ H Q → t σ H Q) : PT X e t' := ⟨fun pins s σ H Q I q => h.run pins s σ H Q I (w σ H Q q)⟩
theorem PS.mono {e : Stmt} {t t' : TS} (h : PS X e t) (w : ∀ D σ H, t' D σ H → t D σ H) : PS X e t' := ⟨fun pins s σ H D I q => h.run pins s σ H D I (w D σ H q)⟩
theorem PSs.mono {e : List Stmt} {t t' : TS} (h : PSs X e t) (w : ∀ D σ H, t' D σ H → t D σ H) : PSs X e t' := ⟨fun pins s σ H D I q => h.run pins s σ H D I (w D σ H q)⟩

/-- a written datum -/
def chkL : D → Const → Bool
  | .non, .none => true
  | .bl a, .bool b => a == b
  | .int a, .int b => a == b
  | .str a, .str b => decide (a = b)
  | _, _ => false
def noSlice : Expr → Bool
  | .Slice _ _ _ _ => false
  | _ => true
def chkP (S : Sc) : P → Expr → Bool
  | .lit d, .Constant c _ _ => chkL d c
  | .sl i, .Name x _ => S.vis i x
  | .ix a b, .Subscript e f _ => chkP S a e && chkP S b f && noSlice f
  | .add a b, .BinOp e .Add f _ => chkP S a e && chkP S b f
  | .sub a b, .BinOp e .Sub f _ => chkP S a e && chkP S b f
  | _, _ => false

/-- the reading of a still expression -/
def tP (K : PySem.W.Frag) (a : P) : TE := fun σ H Q => ∃ F ρ φ, Sep K F H σ ρ φ ∧ ∃ d, evP a ρ = some d ∧ ∀ v, Ow K F H v d φ → Q v H

theorem vis_of (G : Good X S) {i : Nat} {x : Str} (h : S.vis i x = true) : X.N[i]? = some x ∧ Vis X.env.scope x ∧ (x == ("__debug__" : Str)) = false ∧ (x == ("__classdict__" : Str)) = false := by
  unfold Sc.vis at h
  simp only [Bool.and_eq_true, decide_eq_true_eq, Bool.not_eq_true'] at h
  obtain ⟨⟨⟨h1, h2⟩, h3⟩, h4⟩ := h
  refine ⟨by rw [G.N]; exact h1, ?_, h3, h4⟩
  unfold Vis
  rw [G.sc]
  split at h2 <;> simp_all
theorem loc_of (G : Good X S) {i : Nat} {x : Str} (h : S.loc i x = true) : X.N[i]? = some x ∧ L2.Loc X.env.scope x ∧ (X.fn x = true ∨ X.env.scope.names.lookup x = some .local) ∧ i ∉ S.keep := by
  unfold Sc.loc at h
  simp only [Bool.and_eq_true, decide_eq_true_eq, Bool.not_eq_true'] at h
  obtain ⟨⟨h1, h2⟩, h3⟩ := h
  have h4 := G.lk x
  refine ⟨by rw [G.N]; exact h1, ?_, ?_, fun z => by rw [List.contains_iff_mem.mpr z] at h3; cases h3⟩
  · split at h2
    · rename_i e; exact .inl (h4.1 e)
    · rename_i e; exact .inr (h4.2 e).1
    · cases h2
  · split at h2
    · rename_i e; exact .inr (h4.1 e)
    · rename_i e; exact .inl (h4.2 e).2
    · cases h2
theorem bi_of (G : Good X S) {x : Str} (h : S.bi x = true) : Gl X x ∧ X.mg x = none ∧ x ≠ ("__name__" : Str) ∧ (x == ("__debug__" : Str)) = false := by
  unfold Sc.bi at h
  simp only [Bool.and_eq_true, decide_eq_true_eq] at h
  obtain ⟨⟨h1, h2⟩, h3⟩ := h
  have h4 : Gl X x ∧ (x == ("__debug__" : Str)) = false := by
    unfold Sc.gl at h1
    simp only [Bool.and_eq_true, Bool.not_eq_true'] at h1
    refine ⟨?_, h1.2⟩
    unfold Gl Env.kindOf
    rw [G.sc]
    have h1 := h1.1
    split at h1 <;> simp_all
  exact ⟨h4.1, G.blt x h2, h3, h4.2⟩
theorem gl_of (G : Good X S) {x : Str} (h : S.gl x = true) : Gl X x ∧ (x == ("__debug__" : Str)) = false := by
  unfold Sc.gl at h
  simp only [Bool.and_eq_true, Bool.not_eq_true'] at h
  refine ⟨?_, h.2⟩
  unfold Gl Env.kindOf
  rw [G.sc]
  have h1 := h.1
  split at h1 <;> simp_all

theorem plainIx_of {b : Expr} (h : noSlice b = true) : PlainIx b := fun o i => by
  cases b <;> first
    | rfl
    | exact absurd h Bool.false_ne_true

/-- a list or tuple: where it stands -/
theorem Ow.lst {o : Bool} {ds : List D} (h : Ow K F H v (.lst o ds) φ) (e : Same F H) : ∃ a vs, v = .ref a ∧ H a = some (.lst vs) ∧ vs.length = ds.length ∧ ∀ (i : Nat) (v : V) (d : D), vs[i]? = some v → ds[i]? = some d → Ow K F H v d φ := by
  cases h with
  | lst0 a l c z => exact ⟨_, _, rfl, e _ _ a, l, fun i v d q r => (c i v d q r).sub fun _ z => z.elim⟩
  | lst1 ψ a f p l c dj sb => exact ⟨_, _, rfl, a, l, fun i v d q r => (c i v d q r).sub fun x z => (sb i x z).1⟩
theorem Ow.tup {o : Bool} {ds : List D} (h : Ow K F H v (.tup o ds) φ) (e : Same F H) : ∃ a vs, v = .ref a ∧ SqT K H a vs ∧ vs.length = ds.length ∧ ∀ (i : Nat) (v : V) (d : D), vs[i]? = some v → ds[i]? = some d → Ow K F H v d φ := by
  cases h with
  | tup0 a l c z => exact ⟨_, _, rfl, SqT.mono e a, l, fun i v d q r => (c i v d q r).sub fun _ z => z.elim⟩
  | tup1 ψ a f p l c dj sb => exact ⟨_, _, rfl, .inl (.inl a), l, fun i v d q r => (c i v d q r).sub fun x z => (sb i x z).1⟩
theorem atI_len {α β : Type} {xs : List α} {ys : List β} (l : xs.length = ys.length) {i : Int} {y : β} (h : atI ys i = some y) : ∃ (j : Nat) (x : α), xs[j]? = some x ∧ ys[j]? = some y ∧ atI xs i = some x := by
  unfold atI at h ⊢
  rw [l]
  cases e : ixN ys.length i with
  | none => rw [e] at h; cases h
  | some j =>
    rw [e] at h
    have h' : ys[j]? = some y := h
    have hj : j < xs.length := by rw [l]; exact (List.getElem?_eq_some_iff.mp h').1
    exact ⟨j, xs[j], by simp [hj], h', by simp [hj]⟩
/-- a subscript, by values -/
theorem ix_val {x y : V} {dx dy r : D} {φ1 φ2 : AS} {Q : VK} (e : Same F H) (hx : Ow K F H x dx φ1) (hy : Ow K F H y dy φ2) (h : ixF dx dy = some r) (q : ∀ v, Ow K F H v r φ1 → Q v H) : rIx K x y H Q := by
  cases dx with
  | lst o ds =>
    cases dy with
    | int i =>
      obtain ⟨a, vs, rfl, s, l, c⟩ := hx.lst e
      cases hy
      obtain ⟨j, u, h1, h2, h3⟩ := atI_len l (show atI ds i = some r from h)
      exact .inl ⟨a, vs, i, u, rfl, rfl, .of s, h3, q u (c j u r h1 h2)⟩
    | _ => exact absurd h (by intro z; cases z)
  | tup o ds =>
    cases dy with
    | int i =>
      obtain ⟨a, vs, rfl, s, l, c⟩ := hx.tup e
      cases hy
      obtain ⟨j, u, h1, h2, h3⟩ := atI_len l (show atI ds i = some r from h)
      exact .inr (.inl ⟨a, vs, i, u, rfl, rfl, s, h3, q u (c j u r h1 h2)⟩)
    | _ => exact absurd h (by intro z; cases z)
  | str z =>
    cases dy with
    | int i =>
      cases hx
      cases hy
      have h' : (if z.length ≤ sizeLine then (atI z.cps.toList i).map fun c => D.str ⟨#[c]⟩ else none) = some r := h
      by_cases hz : z.length ≤ sizeLine
      · rw [if_pos hz] at h'
        obtain ⟨c, h1, h2⟩ := Option.map_eq_some_iff.mp h'
        subst h2
        exact .inr (.inr ⟨z, i, c, rfl, rfl, hz, h1, q _ (.str _)⟩)
      · rw [if_neg hz] at h'; cases h'
    | _ => exact absurd h (by intro z; cases z)
  | _ => exact absurd h (by intro z; cases z)

theorem sound_P (G : Good X S) : ∀ (a : P) (e : Expr), chkP S a e = true → PE X e (tP X.K a) := by
  intro a
  induction a with
  | lit d =>
    intro e h
    cases e with
    | Constant c k pos =>
      have h' : chkL d c = true := h
      cases d <;> cases c <;> first
        | exact absurd h' Bool.false_ne_true
        | skip
      · exact PE.mono pe_non fun σ H Q ⟨F, ρ, φ, _, d, q, w⟩ => by cases q; exact w _ .non
      · simp only [chkL, beq_iff_eq] at h'
        subst h'
        exact PE.mono pe_bl fun σ H Q ⟨F, ρ, φ, _, d, q, w⟩ => by cases q; exact w _ (.bl _)
      · simp only [chkL, beq_iff_eq] at h'
        subst h'
        exact PE.mono pe_int fun σ H Q ⟨F, ρ, φ, _, d, q, w⟩ => by cases q; exact w _ (.int _)
      · simp only [chkL, decide_eq_true_eq] at h'
        subst h'
        exact PE.mono pe_str fun σ H Q ⟨F, ρ, φ, _, d, q, w⟩ => by cases q; exact w _ (.str _)
    | _ => exact absurd h Bool.false_ne_true
  | sl i =>
    intro e h
    cases e with
    | Name x pos =>
      obtain ⟨h1, h2, h3, h4⟩ := vis_of G (show S.vis i x = true from h)
      refine PE.mono (pe_var h1 h2 h3 h4) fun σ H Q ⟨F, ρ, φ, z, d, q, w⟩ => ?_
      have q1 : ρ[i]? = some d ∧ d ≠ .un := by
        unfold evP at q
        split at q
        · cases q
        · rename_i hn
          refine ⟨q, fun z => hn ?_⟩
          rw [q, z]
      obtain ⟨v, s, o⟩ := z.get q1.1 q1.2
      exact ⟨v, s, w v o⟩
    | _ => exact absurd h Bool.false_ne_true
  | ix a b iha ihb =>
    intro e h
    cases e with
    | Subscript l r pos =>
      simp only [chkP, Bool.and_eq_true] at h
      refine PE.mono (pe_ix ix_seq (iha l h.1.1) (ihb r h.1.2) (plainIx_of h.2)) fun σ H Q ⟨F, ρ, φ, z, d, q, w⟩ => ?_
      unfold evP at q
      cases ha : evP a ρ with
      | none => rw [ha] at q; cases q
      | some x =>
        cases hb : evP b ρ with
        | none => rw [ha, hb] at q; cases q
        | some y =>
          rw [ha, hb] at q
          exact ⟨F, ρ, φ, z, x, ha, fun vx ox => ⟨F, ρ, φ, z, y, hb, fun vy oy => ix_val z.le ox oy q w⟩⟩
    | _ => exact absurd h Bool.false_ne_true
  | add a b iha ihb =>
    intro e h
    cases e with
    | BinOp l op r pos =>
      cases op with
      | Add =>
        simp only [chkP, Bool.and_eq_true] at h
        refine PE.mono (pe_op op_add (iha l h.1) (ihb r h.2)) fun σ H Q ⟨F, ρ, φ, z, d, q, w⟩ => ?_
        unfold evP at q
        split at q
        · rename_i x y ha hb
          cases q
          exact ⟨F, ρ, φ, z, _, ha, fun vx ox => ⟨F, ρ, φ, z, _, hb, fun vy oy => by cases ox; cases oy; exact ⟨x, y, rfl, rfl, w _ (.int _)⟩⟩⟩
        · cases q
      | _ => exact absurd h Bool.false_ne_true
    | _ => exact absurd h Bool.false_ne_true
  | sub a b iha ihb =>
    intro e h
    cases e with
    | BinOp l op r pos =>
      cases op with
      | Sub =>
        simp only [chkP, Bool.and_eq_true] at h
        refine PE.mono (pe_op op_sub (iha l h.1) (ihb r h.2)) fun σ H Q ⟨F, ρ, φ, z, d, q, w⟩ => ?_
        unfold evP at q
        split at q
        · rename_i x y ha hb
          cases q
          exact ⟨F, ρ, φ, z, _, ha, fun vx ox => ⟨F, ρ, φ, z, _, hb, fun vy oy => by cases ox; cases oy; exact ⟨x, y, rfl, rfl, w _ (.int _)⟩⟩⟩
        · cases q
      | _ => exact absurd h Bool.false_ne_true
    | _ => exact absurd h Bool.false_ne_true
end MV

set_option Elab.async false
set_option linter.all false
set_option maxRecDepth 100000
set_option autoImplicit false
set_option maxHeartbeats 1000000
/-! MV, part D: the operations, by values. -/
namespace MV
open PySem PySem.Spec PyProof.Rows L2
variable {X : Cx} {S : Sc} {K : PySem.W.Frag} {F F' H H' : Hp} {φ φ' ψ : AS} {v : V} {d : D} {σ : L2.St} {ρ : List D}

/-- what an operation gives: a flat or frozen datum, or one new object -/
def NewOk (K : PySem.W.Frag) (F H H' : Hp) (v : V) (r : D) : Prop := (H' = H ∧ Ow K F H v r em) ∨ ∃ p o, H p = none ∧ H' = upd H p o ∧ v = .ref p ∧ Ow K F H' v r (fun a => a = p)

/-! ### as plain data -/
theorem pys_len : ∀ {ds : List D} {ps : List PyData}, pys ds = some ps → ps.length = ds.length
  | [], ps, h => by cases h; rfl
  | d :: r, ps, h => by
    simp only [pys] at h
    split at h
    · rename_i x y h1 h2
      cases h
      simp [pys_len h2]
    · cases h
theorem pys_at : ∀ {ds : List D} {ps : List PyData} {i : Nat} {d : D}, pys ds = some ps → ds[i]? = some d → ∃ p, d.py = some p ∧ ps[i]? = some p
  | [], ps, i, d, h, q => by simp at q
  | e :: r, ps, i, d, h, q => by
    simp only [pys] at h
    split at h
    · rename_i x y h1 h2
      cases h
      cases i with
      | zero => cases (Option.some.inj q); exact ⟨x, h1, rfl⟩
      | succ i => exact pys_at (ds := r) (i := i) h2 q
    · cases h
theorem dpAll_of {K : PySem.W.Frag} {H : Hp} : ∀ {vs : List V} {ps : List PyData}, vs.length = ps.length → (∀ (i : Nat) (v : V) (p : PyData), vs[i]? = some v → ps[i]? = some p → Dp K H v p) → DpAll K H vs ps
  | [], [], _, _ => .nil
  | [], _ :: _, l, _ => by cases l
  | _ :: _, [], l, _ => by cases l
  | v :: vs, p :: ps, l, h => .cons (h 0 v p rfl rfl) (dpAll_of (Nat.succ.inj l) fun i v p a b => h (i + 1) v p a b)
theorem Ow.dp (h : Ow K F H v d φ) (e : Same F H) : ∀ {p : PyData}, d.py = some p → Dp K H v p := by
  induction h with
  | non => intro p q; cases q; exact .non
  | bl b => intro p q; cases q; exact .bl b
  | int i => intro p q; cases q; exact .int i
  | str x => intro p q; cases q; exact .str x
  | scr ns a => intro p q; cases q
  | lst0 a l c z ih =>
    intro p q
    obtain ⟨ps, h1, rfl⟩ := Option.map_eq_some_iff.mp q
    refine .lst (.of (e _ _ a)) (dpAll_of (l.trans (pys_len h1).symm) fun i v p hv hp => ?_)
    obtain ⟨d, hd⟩ : ∃ d, _ = some d := ⟨_, List.getElem?_eq_getElem (by rw [← l]; exact (List.getElem?_eq_some_iff.mp hv).1)⟩
    obtain ⟨p', h2, h3⟩ := pys_at h1 hd
    rw [hp] at h3
    cases h3
    exact ih i v d hv hd h2
  | lst1 ψ a f p l c dj sb ih =>
    intro p q
    obtain ⟨ps, h1, rfl⟩ := Option.map_eq_some_iff.mp q
    refine .lst (.of a) (dpAll_of (l.trans (pys_len h1).symm) fun i v p hv hp => ?_)
    obtain ⟨d, hd⟩ : ∃ d, _ = some d := ⟨_, List.getElem?_eq_getElem (by rw [← l]; exact (List.getElem?_eq_some_iff.mp hv).1)⟩
    obtain ⟨p', h2, h3⟩ := pys_at h1 hd
    rw [hp] at h3
    cases h3
    exact ih i v d hv hd h2
  | tup0 a l c z ih =>
    intro p q
    obtain ⟨ps, h1, rfl⟩ := Option.map_eq_some_iff.mp q
    refine .tup (SqT.mono e a) (dpAll_of (l.trans (pys_len h1).symm) fun i v p hv hp => ?_)
    obtain ⟨d, hd⟩ : ∃ d, _ = some d := ⟨_, List.getElem?_eq_getElem (by rw [← l]; exact (List.getElem?_eq_some_iff.mp hv).1)⟩
    obtain ⟨p', h2, h3⟩ := pys_at h1 hd
    rw [hp] at h3
    cases h3
    exact ih i v d hv hd h2
  | tup1 ψ a f p l c dj sb ih =>
    intro p q
    obtain ⟨ps, h1, rfl⟩ := Option.map_eq_some_iff.mp q
    refine .tup (.of a) (dpAll_of (l.trans (pys_len h1).symm) fun i v p hv hp => ?_)
    obtain ⟨d, hd⟩ : ∃ d, _ = some d := ⟨_, List.getElem?_eq_getElem (by rw [← l]; exact (List.getElem?_eq_some_iff.mp hv).1)⟩
    obtain ⟨p', h2, h3⟩ := pys_at h1 hd
    rw [hp] at h3
    cases h3
    exact ih i v d hv hd h2
mutual
theorem py_noDict : ∀ {d : D} {p : PyData}, d.py = some p → p.hasDict = false
  | .non, p, h => by cases h; rfl
  | .bl _, p, h => by cases h; rfl
  | .int _, p, h => by cases h; rfl
  | .str _, p, h => by cases h; rfl
  | .lst _ xs, p, h => by
    obtain ⟨ps, h1, rfl⟩ := Option.map_eq_some_iff.mp h
    exact pys_noDict h1
  | .tup _ xs, p, h => by
    obtain ⟨ps, h1, rfl⟩ := Option.map_eq_some_iff.mp h
    exact pys_noDict h1
  | .un, p, h => by cases h
  | .ins _ _ _ _, p, h => by cases h
  | .scr _, p, h => by cases h
theorem pys_noDict : ∀ {ds : List D} {ps : List PyData}, pys ds = some ps → PyData.hasDictAll ps = false
  | [], ps, h => by cases h; rfl
  | d :: r, ps, h => by
    simp only [pys] at h
    split at h
    · rename_i x y h1 h2
      cases h
      simp only [PyData.hasDictAll, py_noDict h1, pys_noDict h2, Bool.or_self]
    · cases h
end

/-! ### lists of whole numbers -/
theorem intsD_eq : ∀ {ds : List D} {ns : List Int}, intsD ds = some ns → ds = ns.map .int
  | [], ns, h => by cases h; rfl
  | d :: r, ns, h => by
    cases d with
    | int i =>
      obtain ⟨ms, h1, rfl⟩ := Option.map_eq_some_iff.mp (show (intsD r).map (i :: ·) = some ns from h)
      rw [intsD_eq h1]; rfl
    | _ => cases h
theorem intsD_map : ∀ ns : List Int, intsD (ns.map .int) = some ns
  | [] => rfl
  | n :: r => by
    show (intsD (r.map .int)).map (n :: ·) = _
    rw [intsD_map r]; rfl
theorem ints_vs {vs : List V} {ns : List Int} (l : vs.length = (ns.map D.int).length) (c : ∀ (i : Nat) (v : V) (d : D), vs[i]? = some v → (ns.map D.int)[i]? = some d → Ow K F H v d φ) : vs = ns.map V.int := by
  apply List.ext_getElem?
  intro i
  by_cases hi : i < vs.length
  · have hn : i < ns.length := by simpa [l] using hi
    have h1 : vs[i]? = some vs[i] := List.getElem?_eq_getElem hi
    have h2 : (ns.map D.int)[i]? = some (.int ns[i]) := by simp [hn]
    have := c i _ _ h1 h2
    rw [h1]
    generalize vs[i] = u at this
    cases this
    simp [hn]
  · rw [List.getElem?_eq_none (by omega), List.getElem?_eq_none (by simp at l ⊢; omega)]
theorem leastI_mem : ∀ (n : Int) (r : List Int), leastI (n :: r) ∈ n :: r
  | n, [] => by simp [leastI]
  | n, m :: r => by
    have ih := leastI_mem m r
    unfold leastI
    split
    · exact List.mem_cons_self
    · exact List.mem_cons_of_mem _ ih
theorem leastI_le : ∀ (n : Int) (r : List Int) (y : Int), y ∈ n :: r → leastI (n :: r) ≤ y
  | n, [], y, h => by simp at h; subst h; simp [leastI]
  | n, m :: r, y, h => by
    have ih := leastI_le m r
    unfold leastI
    rcases List.mem_cons.mp h with rfl | h
    · split <;> omega
    · have := ih y h
      split <;> omega
theorem mostI_mem : ∀ (n : Int) (r : List Int), mostI (n :: r) ∈ n :: r
  | n, [] => by simp [mostI]
  | n, m :: r => by
    have ih := mostI_mem m r
    unfold mostI
    split
    · exact List.mem_cons_self
    · exact List.mem_cons_of_mem _ ih
theorem mostI_ge : ∀ (n : Int) (r : List Int) (y : Int), y ∈ n :: r → y ≤ mostI (n :: r)
  | n, [], y, h => by simp at h; subst h; simp [mostI]
  | n, m :: r, y, h => by
    have ih := mostI_ge m r
    unfold mostI
    rcases List.mem_cons.mp h with rfl | h
    · split <;> omega
    · have := ih y h
      split <;> omega
theorem insI_perm (x : Int) : ∀ l : List Int, (insI x l).Perm (x :: l)
  | [] => .refl _
  | y :: r => by
    unfold insI
    split
    · exact .refl _
    · exact ((insI_perm x r).cons y).trans (.swap x y r)
theorem sortI_perm : ∀ l : List Int, (sortI l).Perm l
  | [] => .refl _
  | x :: r => (insI_perm x (sortI r)).trans ((sortI_perm r).cons x)
theorem insI_sorted (x : Int) : ∀ l : List Int, l.Pairwise (· ≤ ·) → (insI x l).Pairwise (· ≤ ·)
  | [], _ => by simp [insI]
  | y :: r, h => by
    unfold insI
    split
    · rename_i hx
      refine List.pairwise_cons.mpr ⟨fun z hz => ?_, h⟩
      rcases List.mem_cons.mp hz with rfl | hz
      · exact hx
      · exact Int.le_trans hx ((List.pairwise_cons.mp h).1 z hz)
    · rename_i hx
      refine List.pairwise_cons.mpr ⟨fun z hz => ?_, insI_sorted x r (List.pairwise_cons.mp h).2⟩
      rcases List.mem_cons.mp ((insI_perm x r).mem_iff.mp hz) with rfl | hz
      · omega
      · exact (List.pairwise_cons.mp h).1 z hz
theorem sortI_sorted : ∀ l : List Int, (sortI l).Pairwise (· ≤ ·)
  | [] => .nil
  | x :: r => insI_sorted x _ (sortI_sorted r)

/-! ### a new list or tuple of frozen items -/
theorem isFzs_ow (c : ∀ (i : Nat) (v : V) (d : D), ρ[i]? = some d → σ[i]? = some (some v) → True) : True := trivial
theorem newL {vs : List V} {ds : List D} (l : vs.length = ds.length) (e : Same F H) (z : isFzs ds = true)
    (c : ∀ (i : Nat) (v : V) (d : D), vs[i]? = some v → ds[i]? = some d → Ow K F H v d φ) {p : Addr} (np : H p = none) : NewOk K F H (upd H p (.lst vs)) (.ref p) (.lst true ds) := by
  refine .inr ⟨p, _, np, rfl, rfl, .lst1 (fun _ => em) upd_same (Same.free e np) rfl l (fun i v d hv hd => (c i v d hv hd).frozen (isFzs_at z hd) (Same.refl F) _ _) (fun _ _ _ _ q => q.elim) fun _ _ q => q.elim⟩
theorem newT {vs : List V} {ds : List D} (l : vs.length = ds.length) (e : Same F H) (z : isFzs ds = true)
    (c : ∀ (i : Nat) (v : V) (d : D), vs[i]? = some v → ds[i]? = some d → Ow K F H v d φ) {p : Addr} (np : H p = none) : NewOk K F H (upd H p (.tup vs)) (.ref p) (.tup true ds) := by
  refine .inr ⟨p, _, np, rfl, rfl, .tup1 (fun _ => em) upd_same (Same.free e np) rfl l (fun i v d hv hd => (c i v d hv hd).frozen (isFzs_at z hd) (Same.refl F) _ _) (fun _ _ _ _ q => q.elim) fun _ _ q => q.elim⟩
theorem NewOk.flat (h : Ow K F H v d em) : NewOk K F H H v d := .inl ⟨rfl, h⟩

/-! ### one-place operations -/
def rUn (K : PySem.W.Frag) (op : U) : V → Hp → VK → Prop := fun x H Q => ∃ F d φ r, Same F H ∧ Ow K F H x d φ ∧ uF op d = some r ∧ ∀ v H', NewOk K F H H' v r → Q v H'
abbrev rU1 (K : PySem.W.Frag) (op : U) : List V → Hp → VK → Prop := fun xs H Q => ∃ x, xs = [x] ∧ rUn K op x H Q
theorem CallR.mono {f : Value} {r r' : List V → Hp → VK → Prop} (h : CallR X f r) (w : ∀ xs H Q, r' xs H Q → r xs H Q) : CallR X f r' := fun pins s σ H xs us Q I r q => h pins s σ H xs us Q I r (w xs H Q q)
theorem UnR.mono {f : Value → Sem Value} {r r' : V → Hp → VK → Prop} (h : UnR X f r) (w : ∀ x H Q, r' x H Q → r x H Q) : UnR X f r' := fun pins s σ H x v Q I r q => h pins s σ H x v Q I r (w x H Q q)
theorem OpR.mono {f : Value → Value → Sem Value} {r r' : R2} (h : OpR X f r) (w : ∀ x y H Q, r' x y H Q → r x y H Q) : OpR X f r' := fun pins s σ H x y v u Q I rx ry q => h pins s σ H x y v u Q I rx ry (w x y H Q q)

theorem u_neg : UnR X (unaryOp .USub) (rUn X.K .neg) := UnR.mono un_neg fun x H Q ⟨F, d, φ, r, e, o, h, q⟩ => by
  cases d <;> first | cases h | skip
  cases o
  exact ⟨_, rfl, q _ _ (.flat (.int _))⟩
theorem u_len : CallR X (.builtin "len") (rU1 X.K .len) := CallR.mono call_len fun xs H Q ⟨x, ex, F, d, φ, r, e, o, h, q⟩ => by
  subst ex
  cases d with
  | lst ow ds =>
    cases h
    obtain ⟨a, vs, rfl, s, l, c⟩ := o.lst e
    exact ⟨_, ds.length, rfl, .inl ⟨vs, .of s, l.symm⟩, q _ _ (.flat (.int _))⟩
  | tup ow ds =>
    cases h
    obtain ⟨a, vs, rfl, s, l, c⟩ := o.tup e
    exact ⟨_, ds.length, rfl, .inr ⟨vs, s, l.symm⟩, q _ _ (.flat (.int _))⟩
  | str z =>
    simp only [uF] at h
    split at h
    · rename_i hz
      cases h
      cases o
      exact ⟨_, z.length, rfl, ⟨hz, rfl⟩, q _ _ (.flat (.int _))⟩
    · cases h
  | _ => cases h
theorem u_int : CallR X (.type "int") (rU1 X.K .int) := CallR.mono call_int1 fun xs H Q ⟨x, ex, F, d, φ, r, e, o, h, q⟩ => by
  subst ex
  cases d <;> first | cases h | skip
  · cases o
    exact .inr ⟨_, rfl, q _ _ (.flat (.int _))⟩
  · cases o
    exact .inl ⟨_, rfl, q _ _ (.flat (.int _))⟩
theorem u_abs : CallR X (.builtin "abs") (rU1 X.K .abs) := CallR.mono call_abs fun xs H Q ⟨x, ex, F, d, φ, r, e, o, h, q⟩ => by
  subst ex
  cases d <;> first | cases h | skip
  cases o
  exact ⟨_, rfl, q _ _ (.flat (.int _))⟩
theorem u_str : CallR X (.type "str") (rU1 X.K .str) := CallR.mono call_str_int fun xs H Q ⟨x, ex, F, d, φ, r, e, o, h, q⟩ => by
  subst ex
  cases d <;> first | (cases h; done) | skip
  simp only [uF] at h
  split at h
  · rename_i hz
    cases h
    cases o
    exact ⟨_, rfl, hz, q _ _ (.flat (.str _))⟩
  · cases h
theorem u_list : CallR X (.type "list") (rU1 X.K .list) := CallR.mono call_list_of fun xs H Q ⟨x, ex, F, d, φ, r, e, o, h, q⟩ => by
  subst ex
  cases d with
  | lst ow ds =>
    simp only [uF] at h
    split at h
    · rename_i z
      cases h
      obtain ⟨a, vs, rfl, s, l, c⟩ := o.lst e
      exact ⟨a, vs, rfl, .inl (.of s), fun p np => q _ _ (newL l e z c np)⟩
    · cases h
  | tup ow ds =>
    simp only [uF] at h
    split at h
    · rename_i z
      cases h
      obtain ⟨a, vs, rfl, s, l, c⟩ := o.tup e
      exact ⟨a, vs, rfl, .inr s, fun p np => q _ _ (newL l e z c np)⟩
    · cases h
  | scr ns =>
    cases h
    cases o with
    | scr ns a =>
      refine ⟨_, _, rfl, .inl (e.seq a), fun p np => q _ _ (newL (φ := em) (by simp) e ?_ (fun i v d hv hd => ?_) np)⟩
      · exact isFzs_of fun i d hd => by
          simp only [List.getElem?_map, Option.map_eq_some_iff] at hd
          obtain ⟨n, _, rfl⟩ := hd
          rfl
      · simp only [List.getElem?_map, Option.map_eq_some_iff] at hv hd
        obtain ⟨n, h1, rfl⟩ := hv
        obtain ⟨m, h2, rfl⟩ := hd
        rw [h1] at h2
        cases h2
        exact .int _
  | _ => cases h
theorem u_tuple : CallR X (.type "tuple") (rU1 X.K .tuple) := CallR.mono call_tuple_of fun xs H Q ⟨x, ex, F, d, φ, r, e, o, h, q⟩ => by
  subst ex
  cases d with
  | lst ow ds =>
    simp only [uF] at h
    split at h
    · rename_i z
      cases h
      obtain ⟨a, vs, rfl, s, l, c⟩ := o.lst e
      exact ⟨a, vs, rfl, .inl ⟨.of s, fun p np => q _ _ (newT l e z c np)⟩⟩
    · cases h
  | _ => cases h
theorem ints_ow {ow : Bool} {ds : List D} {x : V} {ns : List Int} (o : Ow K F H x (.lst ow ds) φ) (e : Same F H) (h : intsD ds = some ns) : ∃ a, x = .ref a ∧ H a = some (.lst (ns.map V.int)) := by
  obtain ⟨a, vs, rfl, s, l, c⟩ := o.lst e
  have := intsD_eq h
  subst this
  have := ints_vs l c
  subst this
  exact ⟨a, rfl, s⟩
theorem u_sum (hc : X.calm = true) : CallR X (.builtin "sum") (rU1 X.K .sum) := CallR.mono (cr_sum hc) fun xs H Q ⟨x, ex, F, d, φ, r, e, o, h, q⟩ => by
  subst ex
  cases d with
  | lst ow ds =>
    obtain ⟨ns, h1, rfl⟩ := Option.map_eq_some_iff.mp (show (intsD ds).map (fun ns => D.int ns.sum) = some r from h)
    obtain ⟨a, rfl, s⟩ := ints_ow o e h1
    exact ⟨a, ns, rfl, .of s, q _ _ (.flat (.int _))⟩
  | _ => cases h
theorem u_min (hc : X.calm = true) : CallR X (.builtin "min") (rU1 X.K .min) := CallR.mono (cr_min hc) fun xs H Q ⟨x, ex, F, d, φ, r, e, o, h, q⟩ => by
  subst ex
  cases d with
  | lst ow ds =>
    simp only [uF] at h
    split at h
    · rename_i n ms h1
      cases h
      obtain ⟨a, rfl, s⟩ := ints_ow o e h1
      refine ⟨a, n :: ms, rfl, .of s, Nat.succ_pos _, fun m h2 h3 => ?_⟩
      have : m = leastI (n :: ms) := Int.le_antisymm (h3 _ (leastI_mem n ms)) (leastI_le n ms m h2)
      subst this
      exact q _ _ (.flat (.int _))
    · cases h
  | _ => cases h
theorem u_max (hc : X.calm = true) : CallR X (.builtin "max") (rU1 X.K .max) := CallR.mono (cr_max hc) fun xs H Q ⟨x, ex, F, d, φ, r, e, o, h, q⟩ => by
  subst ex
  cases d with
  | lst ow ds =>
    simp only [uF] at h
    split at h
    · rename_i n ms h1
      cases h
      obtain ⟨a, rfl, s⟩ := ints_ow o e h1
      refine ⟨a, n :: ms, rfl, .of s, Nat.succ_pos _, fun m h2 h3 => ?_⟩
      have : m = mostI (n :: ms) := Int.le_antisymm (mostI_ge n ms m h2) (h3 _ (mostI_mem n ms))
      subst this
      exact q _ _ (.flat (.int _))
    · cases h
  | _ => cases h
theorem u_sorted : CallR X (.builtin "sorted") (rU1 X.K .sorted) := CallR.mono cr_sorted fun xs H Q ⟨x, ex, F, d, φ, r, e, o, h, q⟩ => by
  subst ex
  cases d with
  | lst ow ds =>
    simp only [uF] at h
    split at h
    · rename_i ns h1
      split at h
      · rename_i hl
        cases h
        obtain ⟨a, rfl, s⟩ := ints_ow o e h1
        refine ⟨a, ns, rfl, .of s, hl, fun ns' p hp hs np => ?_⟩
        have : ns' = sortI ns := PySem.W.ksm_same (hp.trans (sortI_perm ns).symm) hs (sortI_sorted ns)
        subst this
        refine q _ _ (newL (φ := em) (by simp) e ?_ (fun i v d hv hd => ?_) np)
        · exact isFzs_of fun i d hd => by
            simp only [List.getElem?_map, Option.map_eq_some_iff] at hd
            obtain ⟨n, _, rfl⟩ := hd
            rfl
        · simp only [List.getElem?_map, Option.map_eq_some_iff] at hv hd
          obtain ⟨n, h1, rfl⟩ := hv
          obtain ⟨m, h2, rfl⟩ := hd
          rw [h1] at h2
          cases h2
          exact .int _
      · cases h
    · cases h
  | _ => cases h
theorem u_repr (hg : X.A.guards = some []) (hu : X.A.units + 64 < cLine) : CallR X (.builtin "repr") (rU1 X.K .repr) := by
  intro pins s σ H xs us Q I rr h
  obtain ⟨x, rfl, F, d, φ, r, e, o, h, q⟩ := h
  obtain ⟨u, rfl, rx⟩ := vals1 rr
  cases hp : d.py with
  | none => simp only [uF, hp] at h; cases h
  | some p =>
    simp only [uF, hp] at h
    split at h
    · rename_i hc
      cases h
      simp only [Bool.and_eq_true, decide_eq_true_eq] at hc
      obtain ⟨⟨h1, h2⟩, h3⟩ := hc
      have dp := o.dp e hp
      obtain ⟨as, rd⟩ := Dp.reads I p x u dp rx
      have fin : ∀ (t : Tok) (s' : Shared), Inv X pins σ H s' → EP X pins σ Q (.str p.shown t) s' := fun t s' I' => ⟨.str _, H, I', ⟨_, rfl⟩, q _ _ (.flat (.str _))⟩
      cases rd with
      | none => exact PySem.P.repr_of_none (fin _ _ (I.tok _))
      | bool b => exact PySem.P.repr_of_bool (fin _ _ (I.tok _))
      | int i t => exact PySem.P.repr_of_int (by simpa [PyData.showable] using h1) (fin _ _ (I.tok _))
      | str x t => exact PySem.P.repr_of_str (fin _ _ (I.tok _)) h2
      | list a1 a2 a3 a4 => exact repr_of_reads' (.list a1 a2 a3 a4) h1 (fun z => by rw [py_noDict hp] at z; cases z) hg (by omega) (fun b o q => q) (fun h' u tk k => fin _ _ (I.kept (t' := tk) k)) h2
      | tuple a1 a2 a3 a4 => exact repr_of_reads' (.tuple a1 a2 a3 a4) h1 (fun z => by rw [py_noDict hp] at z; cases z) hg (by omega) (fun b o q => q) (fun h' u tk k => fin _ _ (I.kept (t' := tk) k)) h2
      | dict a1 a2 a3 a4 a5 => have := py_noDict hp; simp [PyData.hasDict] at this
    · cases h
end MV

set_option Elab.async false
set_option linter.all false
set_option maxRecDepth 100000
set_option autoImplicit false
set_option maxHeartbeats 1000000
/-! MV, part E: two-place operations, kinds. -/
namespace MV
open PySem PySem.Spec PyProof.Rows L2
variable {X : Cx} {S : Sc} {K : PySem.W.Frag} {F F' H H' : Hp} {φ φ' ψ : AS} {v : V} {d : D} {σ : L2.St} {ρ : List D}

def rBn (K : PySem.W.Frag) (op : B) : R2 := fun x y H Q => ∃ F d1 d2 φ1 φ2 r, Same F H ∧ Ow K F H x d1 φ1 ∧ Ow K F H y d2 φ2 ∧ bF op d1 d2 = some r ∧ ∀ v H', NewOk K F H H' v r → Q v H'

theorem cat_at {α : Type} {xs ys : List α} {i : Nat} {x : α} (h : (xs ++ ys)[i]? = some x) : (i < xs.length ∧ xs[i]? = some x) ∨ (xs.length ≤ i ∧ ys[i - xs.length]? = some x) := by
  by_cases l : i < xs.length
  · rw [List.getElem?_append_left l] at h
    exact .inl ⟨l, h⟩
  · rw [List.getElem?_append_right (by omega)] at h
    exact .inr ⟨by omega, h⟩
theorem isFzs_app : ∀ {xs ys : List D}, isFzs (xs ++ ys) = (isFzs xs && isFzs ys)
  | [], ys => rfl
  | x :: r, ys => by simp [isFzs, isFzs_app (xs := r), Bool.and_assoc]
theorem isFzs_rep {xs : List D} (z : isFzs xs = true) : ∀ n : Nat, isFzs (List.replicate n xs).flatten = true
  | 0 => rfl
  | n + 1 => by simp [List.replicate_succ, isFzs_app, z, isFzs_rep z n]
theorem cat_ow {vs ws : List V} {ds es : List D} {φ1 φ2 : AS} (l : vs.length = ds.length) (c : ∀ (i : Nat) (v : V) (d : D), vs[i]? = some v → ds[i]? = some d → Ow K F H v d φ1)
    (c' : ∀ (i : Nat) (v : V) (d : D), ws[i]? = some v → es[i]? = some d → Ow K F H v d φ2) : ∀ (i : Nat) (v : V) (d : D), (vs ++ ws)[i]? = some v → (ds ++ es)[i]? = some d → Ow K F H v d (uni φ1 φ2) := fun i v d hv hd => by
  rcases cat_at hv with ⟨h1, h2⟩ | ⟨h1, h2⟩
  · rcases cat_at hd with ⟨h3, h4⟩ | ⟨h3, h4⟩
    · exact (c i v d h2 h4).sub fun a p => .inl p
    · omega
  · rcases cat_at hd with ⟨h3, h4⟩ | ⟨h3, h4⟩
    · omega
    · rw [l] at h2
      exact (c' _ v d h2 h4).sub fun a p => .inr p
theorem rep_ow {vs : List V} {ds : List D} (l : vs.length = ds.length) (c : ∀ (i : Nat) (v : V) (d : D), vs[i]? = some v → ds[i]? = some d → Ow K F H v d φ) :
    ∀ n : Nat, (List.replicate n vs).flatten.length = (List.replicate n ds).flatten.length ∧ ∀ (i : Nat) (v : V) (d : D), (List.replicate n vs).flatten[i]? = some v → (List.replicate n ds).flatten[i]? = some d → Ow K F H v d φ
  | 0 => ⟨rfl, fun i v d h => by simp at h⟩
  | n + 1 => by
    obtain ⟨h1, h2⟩ := rep_ow l c n
    simp only [List.replicate_succ, List.flatten_cons]
    refine ⟨by simp [l, h1], fun i v d hv hd => (cat_ow l c h2 i v d hv hd).sub fun a p => p.elim id id⟩

theorem b_add : OpR X (binaryOp .Add) (rBn X.K .add) := OpR.mono ((op_add.or op_add_str).or op_cat) fun x y H Q ⟨F, d1, d2, φ1, φ2, r, e, o1, o2, h, q⟩ => by
  cases d1 with
  | int i =>
    cases d2 <;> first | (cases h; done) | skip
    cases h
    cases o1
    cases o2
    exact .inl (.inl ⟨_, _, rfl, rfl, q _ _ (.flat (.int _))⟩)
  | str z =>
    cases d2 <;> first | (cases h; done) | skip
    simp only [bF] at h
    split at h
    · rename_i hl
      cases h
      cases o1
      cases o2
      exact .inl (.inr ⟨_, _, rfl, rfl, hl, q _ _ (.flat (.str _))⟩)
    · cases h
  | lst o xs =>
    cases d2 <;> first | (cases h; done) | skip
    simp only [bF] at h
    split at h
    · rename_i hl
      cases h
      simp only [Bool.and_eq_true, decide_eq_true_eq] at hl
      obtain ⟨a, vs, rfl, s, l, c⟩ := o1.lst e
      obtain ⟨a', ws, rfl, s', l', c'⟩ := o2.lst e
      exact .inr ⟨a, a', vs, ws, rfl, rfl, s, s', by omega, fun p np => q _ _ (newL (by simp [l, l']) e (by rw [isFzs_app, hl.1.1, hl.1.2]; rfl) (cat_ow l c c') np)⟩
    · cases h
  | _ => cases h
theorem b_sub : OpR X (binaryOp .Sub) (rBn X.K .sub) := OpR.mono op_sub fun x y H Q ⟨F, d1, d2, φ1, φ2, r, e, o1, o2, h, q⟩ => by
  cases d1 <;> cases d2 <;> first | (cases h; done) | skip
  cases h
  cases o1
  cases o2
  exact ⟨_, _, rfl, rfl, q _ _ (.flat (.int _))⟩
theorem b_mul : OpR X (binaryOp .Mult) (rBn X.K .mul) := OpR.mono (op_mulW.or op_rep) fun x y H Q ⟨F, d1, d2, φ1, φ2, r, e, o1, o2, h, q⟩ => by
  cases d1 with
  | int i =>
    cases d2 <;> first | (cases h; done) | skip
    simp only [bF] at h
    split at h
    · rename_i hl
      cases h
      cases o1
      cases o2
      exact .inl ⟨_, _, rfl, rfl, hl, q _ _ (.flat (.int _))⟩
    · cases h
  | lst o xs =>
    cases d2 <;> first | (cases h; done) | skip
    simp only [bF] at h
    split at h
    · rename_i hl
      cases h
      simp only [Bool.and_eq_true, decide_eq_true_eq] at hl
      obtain ⟨a, vs, rfl, s, l, c⟩ := o1.lst e
      cases o2
      obtain ⟨r1, r2⟩ := rep_ow l c (Int.toNat _)
      exact .inr ⟨a, _, vs, rfl, rfl, s, hl.1.1.2, hl.1.2, by rw [l]; exact hl.2, fun p np => q _ _ (newL r1 e (isFzs_rep hl.1.1.1 _) r2 np)⟩
    · cases h
  | _ => cases h
theorem b_fdiv : OpR X (binaryOp .FloorDiv) (rBn X.K .fdiv) := OpR.mono op_fdivW fun x y H Q ⟨F, d1, d2, φ1, φ2, r, e, o1, o2, h, q⟩ => by
  cases d1 <;> cases d2 <;> first | (cases h; done) | skip
  simp only [bF] at h
  split at h
  · rename_i hl
    cases h
    cases o1
    cases o2
    exact ⟨_, _, rfl, rfl, hl, q _ _ (.flat (.int _))⟩
  · cases h
theorem b_mod : OpR X (binaryOp .Mod) (rBn X.K .mod) := OpR.mono op_mod fun x y H Q ⟨F, d1, d2, φ1, φ2, r, e, o1, o2, h, q⟩ => by
  cases d1 <;> cases d2 <;> first | (cases h; done) | skip
  simp only [bF] at h
  split at h
  · rename_i hl
    cases h
    cases o1
    cases o2
    exact ⟨_, _, rfl, rfl, hl, q _ _ (.flat (.int _))⟩
  · cases h
theorem b_pow : OpR X (binaryOp .Pow) (rBn X.K .pow) := OpR.mono op_pow fun x y H Q ⟨F, d1, d2, φ1, φ2, r, e, o1, o2, h, q⟩ => by
  cases d1 <;> cases d2 <;> first | (cases h; done) | skip
  simp only [bF] at h
  split at h
  · rename_i hl
    cases h
    cases o1
    cases o2
    exact ⟨_, _, rfl, rfl, hl, q _ _ (.flat (.int _))⟩
  · cases h
theorem eqF_dp {d1 d2 : D} {x y : V} {φ1 φ2 : AS} {k : Bool} (e : Same F H) (o1 : Ow K F H x d1 φ1) (o2 : Ow K F H y d2 φ2) (h : eqF d1 d2 = some k) :
    ∃ p q, Dp K H x p ∧ Dp K H y q ∧ SeqAt.shaped p = true ∧ SeqAt.shaped q = true ∧ k = PyData.eqv p q := by
  unfold eqF at h
  split at h
  · rename_i p q h1 h2
    split at h
    · rename_i hs
      simp only [Bool.and_eq_true] at hs
      exact ⟨p, q, o1.dp e h1, o2.dp e h2, hs.1, hs.2, (Option.some.inj h).symm⟩
    · cases h
  · cases h
theorem b_eq (hu : X.A.units + 64 < cLine) : OpR X (compareOp .Eq) (rBn X.K .eq) := OpR.mono (op_eqD hu) fun x y H Q ⟨F, d1, d2, φ1, φ2, r, e, o1, o2, h, q⟩ => by
  have h' : (eqF d1 d2).map .bl = some r := by cases d1 <;> exact h
  obtain ⟨k, h1, rfl⟩ := Option.map_eq_some_iff.mp h'
  obtain ⟨p, p', c1, c2, c3, c4, rfl⟩ := eqF_dp e o1 o2 h1
  exact ⟨p, p', c1, c2, c3, c4, q _ _ (.flat (.bl _))⟩
theorem b_ne (hu : X.A.units + 64 < cLine) : OpR X (compareOp .NotEq) (rBn X.K .ne) := OpR.mono (op_neD hu) fun x y H Q ⟨F, d1, d2, φ1, φ2, r, e, o1, o2, h, q⟩ => by
  have h' : (eqF d1 d2).map (fun k => .bl !k) = some r := by cases d1 <;> exact h
  obtain ⟨k, h1, rfl⟩ := Option.map_eq_some_iff.mp h'
  obtain ⟨p, p', c1, c2, c3, c4, rfl⟩ := eqF_dp e o1 o2 h1
  exact ⟨p, p', c1, c2, c3, c4, q _ _ (.flat (.bl _))⟩
theorem b_lt : OpR X (compareOp .Lt) (rBn X.K .lt) := OpR.mono op_lt fun x y H Q ⟨F, d1, d2, φ1, φ2, r, e, o1, o2, h, q⟩ => by
  cases d1 <;> cases d2 <;> first | (cases h; done) | skip
  cases h
  cases o1
  cases o2
  exact ⟨_, _, rfl, rfl, q _ _ (.flat (.bl _))⟩
theorem b_le : OpR X (compareOp .LtE) (rBn X.K .le) := OpR.mono op_le fun x y H Q ⟨F, d1, d2, φ1, φ2, r, e, o1, o2, h, q⟩ => by
  cases d1 <;> cases d2 <;> first | (cases h; done) | skip
  cases h
  cases o1
  cases o2
  exact ⟨_, _, rfl, rfl, q _ _ (.flat (.bl _))⟩
theorem b_gt : OpR X (compareOp .Gt) (rBn X.K .gt) := OpR.mono op_gt fun x y H Q ⟨F, d1, d2, φ1, φ2, r, e, o1, o2, h, q⟩ => by
  cases d1 <;> cases d2 <;> first | (cases h; done) | skip
  cases h
  cases o1
  cases o2
  exact ⟨_, _, rfl, rfl, q _ _ (.flat (.bl _))⟩
theorem b_ge : OpR X (compareOp .GtE) (rBn X.K .ge) := OpR.mono op_ge fun x y H Q ⟨F, d1, d2, φ1, φ2, r, e, o1, o2, h, q⟩ => by
  cases d1 <;> cases d2 <;> first | (cases h; done) | skip
  cases h
  cases o1
  cases o2
  exact ⟨_, _, rfl, rfl, q _ _ (.flat (.bl _))⟩

/-! ### in -/
def rInD (K : PySem.W.Frag) (neg : Bool) : R2 := fun x y H Q => ∃ d xs, Dp K H x d ∧ (Dp K H y (.list xs) ∨ Dp K H y (.tuple xs)) ∧ PyData.canLayAll0 xs = true ∧ SeqAt.shaped d = true ∧ Q (.bl (if neg then !(xs.any fun y => PyData.eqv y d) else xs.any fun y => PyData.eqv y d)) H
theorem in_room {A : Around} {xs : List PyData} {d : PyData} (hd : SeqAt.shaped d = true) (hu : A.units + 65 < cLine) : A.units + 1 + min (PyData.depthAll xs) d.depth < cLine := by
  have h := SeqAt.depth_of_shaped hd
  omega
theorem op_inD (hu : X.A.units + 65 < cLine) : OpR X (compareOp .In) (rInD X.K false) := by
  intro pins s σ H x y v u Q I rx ry h
  obtain ⟨d, xs, h1, h2, h3, h4, q⟩ := h
  obtain ⟨as, r1⟩ := Dp.reads I d x v h1 rx
  rcases h2 with h2 | h2
  · obtain ⟨bs, r2⟩ := Dp.reads I _ y u h2 ry
    exact SeqAt.in_list_reads r2 r1 h3 (SeqAt.canLay_of_shaped h4) (in_room h4 hu) ⟨.bl _, H, I, rfl, q⟩
  · obtain ⟨bs, r2⟩ := Dp.reads I _ y u h2 ry
    exact SeqAt.in_tuple_reads r2 r1 h3 (SeqAt.canLay_of_shaped h4) (in_room h4 hu) ⟨.bl _, H, I, rfl, q⟩
theorem op_notInD (hu : X.A.units + 65 < cLine) : OpR X (compareOp .NotIn) (rInD X.K true) := by
  intro pins s σ H x y v u Q I rx ry h
  obtain ⟨d, xs, h1, h2, h3, h4, q⟩ := h
  obtain ⟨as, r1⟩ := Dp.reads I d x v h1 rx
  rcases h2 with h2 | h2
  · obtain ⟨bs, r2⟩ := Dp.reads I _ y u h2 ry
    exact SeqAt.notIn_list_reads r2 r1 h3 (SeqAt.canLay_of_shaped h4) (in_room h4 hu) ⟨.bl _, H, I, rfl, q⟩
  · obtain ⟨bs, r2⟩ := Dp.reads I _ y u h2 ry
    exact SeqAt.notIn_tuple_reads r2 r1 h3 (SeqAt.canLay_of_shaped h4) (in_room h4 hu) ⟨.bl _, H, I, rfl, q⟩
theorem inF_dp {d1 d2 : D} {x y : V} {φ1 φ2 : AS} {k : Bool} (e : Same F H) (o1 : Ow K F H x d1 φ1) (o2 : Ow K F H y d2 φ2) (h : inF d1 d2 = some k) :
    (∃ i j, x = .str i ∧ y = .str j ∧ k = !(Builtin.Str.occurrences j i 0 j.length 1).isEmpty) ∨
    ∃ d xs, Dp K H x d ∧ (Dp K H y (.list xs) ∨ Dp K H y (.tuple xs)) ∧ PyData.canLayAll0 xs = true ∧ SeqAt.shaped d = true ∧ k = xs.any fun y => PyData.eqv y d := by
  cases d2 with
  | str j =>
    cases d1 <;> first | (cases h; done) | skip
    cases h
    cases o1
    cases o2
    exact .inl ⟨_, _, rfl, rfl, rfl⟩
  | lst ow ds =>
    have h' : (match d1.py, pys ds with
      | some d, some xs => if SeqAt.shaped d && PyData.canLayAll0 xs then some (xs.any fun y => PyData.eqv y d) else none
      | _, _ => none) = some k := by cases d1 <;> exact h
    split at h'
    · rename_i p q h1 h2
      split at h'
      · rename_i hs
        simp only [Bool.and_eq_true] at hs
        exact .inr ⟨p, q, o1.dp e h1, .inl (o2.dp e (by simp only [D.py, h2, Option.map_some])), hs.2, hs.1, (Option.some.inj h').symm⟩
      · cases h'
    · cases h'
  | tup ow ds =>
    have h' : (match d1.py, pys ds with
      | some d, some xs => if SeqAt.shaped d && PyData.canLayAll0 xs then some (xs.any fun y => PyData.eqv y d) else none
      | _, _ => none) = some k := by cases d1 <;> exact h
    split at h'
    · rename_i p q h1 h2
      split at h'
      · rename_i hs
        simp only [Bool.and_eq_true] at hs
        exact .inr ⟨p, q, o1.dp e h1, .inr (o2.dp e (by simp only [D.py, h2, Option.map_some])), hs.2, hs.1, (Option.some.inj h').symm⟩
      · cases h'
    · cases h'
  | _ => cases d1 <;> cases h
theorem b_in (hu : X.A.units + 65 < cLine) : OpR X (compareOp .In) (rBn X.K .isin) := OpR.mono (op_in_str.or (op_inD hu)) fun x y H Q ⟨F, d1, d2, φ1, φ2, r, e, o1, o2, h, q⟩ => by
  have h' : (inF d1 d2).map .bl = some r := by cases d1 <;> exact h
  obtain ⟨k, h1, rfl⟩ := Option.map_eq_some_iff.mp h'
  rcases inF_dp e o1 o2 h1 with ⟨i, j, rfl, rfl, rfl⟩ | ⟨p, xs, c1, c2, c3, c4, rfl⟩
  · exact .inl ⟨i, j, rfl, rfl, q _ _ (.flat (.bl _))⟩
  · exact .inr ⟨p, xs, c1, c2, c3, c4, q _ _ (.flat (.bl _))⟩
theorem b_notin (hu : X.A.units + 65 < cLine) : OpR X (compareOp .NotIn) (rBn X.K .notin) := OpR.mono (OpR.or (X := X) L2.op_notin_str (op_notInD hu)) fun x y H Q ⟨F, d1, d2, φ1, φ2, r, e, o1, o2, h, q⟩ => by
  have h' : (inF d1 d2).map (fun k => .bl !k) = some r := by cases d1 <;> exact h
  obtain ⟨k, h1, rfl⟩ := Option.map_eq_some_iff.mp h'
  rcases inF_dp e o1 o2 h1 with ⟨i, j, rfl, rfl, rfl⟩ | ⟨p, xs, c1, c2, c3, c4, rfl⟩
  · exact .inl ⟨i, j, rfl, rfl, q _ _ (.flat (.bl _))⟩
  · exact .inr ⟨p, xs, c1, c2, c3, c4, q _ _ (.flat (.bl _))⟩
theorem IxR.mono {r r' : R2} (h : IxR X r) (w : ∀ x y H Q, r' x y H Q → r x y H Q) : IxR X r' := fun a b pins s σ H x y v u Q I rx ry q e => h a b pins s σ H x y v u Q I rx ry (w x y H Q q) e
theorem b_ix : IxR X (rBn X.K .ix) := IxR.mono ix_seq fun x y H Q ⟨F, d1, d2, φ1, φ2, r, e, o1, o2, h, q⟩ => by
  have h' : (match ixF d1 d2 with
    | some d => if d.isFz then some d else none
    | none => none) = some r := by cases d1 <;> exact h
  split at h'
  · rename_i d hd
    split at h'
    · rename_i z
      cases h'
      exact ix_val e o1 o2 hd fun v o => q _ _ (.flat (o.frozen z (Same.refl F) _ _))
    · cases h'
  · cases h'
abbrev rB2 (K : PySem.W.Frag) (op : B) : List V → Hp → VK → Prop := fun xs H Q => ∃ x y, xs = [x, y] ∧ rBn K op x y H Q
theorem b_min2 (hc : X.calm = true) : CallR X (.builtin "min") (rB2 X.K .min2) := CallR.mono (call_min2 hc) fun xs H Q ⟨x, y, ex, F, d1, d2, φ1, φ2, r, e, o1, o2, h, q⟩ => by
  subst ex
  cases d1 <;> cases d2 <;> first | (cases h; done) | skip
  cases h
  cases o1
  cases o2
  exact ⟨_, _, rfl, q _ _ (.flat (.int _))⟩
theorem b_max2 (hc : X.calm = true) : CallR X (.builtin "max") (rB2 X.K .max2) := CallR.mono (call_max2 hc) fun xs H Q ⟨x, y, ex, F, d1, d2, φ1, φ2, r, e, o1, o2, h, q⟩ => by
  subst ex
  cases d1 <;> cases d2 <;> first | (cases h; done) | skip
  cases h
  cases o1
  cases o2
  exact ⟨_, _, rfl, q _ _ (.flat (.int _))⟩

/-! ### slices -/
theorem SlR.mono {r r' : V → Option Int → Option Int → Hp → VK → Prop} (h : SlR X r) (w : ∀ x lo hi H Q, r' x lo hi H Q → r x lo hi H Q) : SlR X r' := fun pins s σ H x v vl vu lo hi sl Q I rx hs pl pu q => h pins s σ H x v vl vu lo hi sl Q I rx hs pl pu (w x lo hi H Q q)
def rCt (K : PySem.W.Frag) : V → Option Int → Option Int → Hp → VK → Prop := fun x lo hi H Q => ∃ F d φ r, Same F H ∧ Ow K F H x d φ ∧ cutF d lo hi = some r ∧ ∀ v H', NewOk K F H H' v r → Q v H'
theorem isFzs_drop : ∀ {ds : List D} (n : Nat), isFzs ds = true → isFzs (ds.drop n) = true
  | ds, 0, h => h
  | [], n + 1, h => rfl
  | d :: r, n + 1, h => by
    simp only [isFzs, Bool.and_eq_true] at h
    exact isFzs_drop (ds := r) n h.2
theorem isFzs_take : ∀ {ds : List D} (n : Nat), isFzs ds = true → isFzs (ds.take n) = true
  | ds, 0, h => by simp [isFzs]
  | [], n + 1, h => rfl
  | d :: r, n + 1, h => by
    simp only [isFzs, Bool.and_eq_true] at h
    simp [isFzs, h.1, isFzs_take (ds := r) n h.2]
theorem b_cut : SlR X (rCt X.K) := SlR.mono sl_list fun x lo hi H Q ⟨F, d, φ, r, e, o, h, q⟩ => by
  cases d with
  | lst ow ds =>
    simp only [cutF] at h
    split at h
    · rename_i z
      cases h
      obtain ⟨a, vs, rfl, s, l, c⟩ := o.lst e
      refine ⟨a, vs, rfl, .of s, fun p np => q _ _ ?_⟩
      unfold cutV
      rw [l]
      refine newL (φ := φ) (by simp [l]) e (isFzs_take _ (isFzs_drop _ z)) (fun i v d hv hd => ?_) np
      rw [List.getElem?_take] at hv hd
      split at hv
      · rename_i hl
        rw [if_pos hl] at hd
        rw [List.getElem?_drop] at hv hd
        exact c _ v d hv hd
      · cases hv
    · cases h
  | _ => cases h

/-! ### kinds -/
theorem Ow.ty (e : Same F H) (o : Ow K F H v d φ) : match d with
    | .non => TyX K H v (.type "NoneType")
    | .bl _ => TyX K H v (.type "bool")
    | .int _ => TyX K H v (.type "int")
    | .str _ => TyX K H v (.type "str")
    | .lst _ _ => TyX K H v (.type "list")
    | .tup _ _ => TyX K H v (.type "tuple")
    | _ => True := by
  cases d with
  | non => cases o; exact .base .non
  | bl b => cases o; exact .base (.bl b)
  | int i => cases o; exact .base (.int i)
  | str x => cases o; exact .base (.str x)
  | lst ow ds => obtain ⟨a, vs, rfl, s, l, c⟩ := o.lst e; exact .base (.lst s)
  | tup ow ds =>
    obtain ⟨a, vs, rfl, s, l, c⟩ := o.tup e
    rcases s with (s | ⟨ob, s⟩) | ⟨ob, its, n, h1, h2, _⟩
    · exact .base (.tup s)
    · exact .fTuple s
    · exact .kTuple h1 h2
  | _ => trivial
def isiT : U → Option String
  | .isInt => some "int"
  | .isBool => some "bool"
  | .isList => some "list"
  | .isTuple => some "tuple"
  | .isStr => some "str"
  | _ => none
theorem isi_val {op : U} {T : String} {r : D} (ht : isiT op = some T) (e : Same F H) (o : Ow K F H v d φ) (h : uF op d = some r) : ∃ t b, TyX K H v t ∧ PySem.W.kitOne K t (.type T) = some b ∧ r = .bl b := by
  have y := o.ty e
  cases op <;> first | (cases ht; done) | skip
  all_goals
    cases ht
    cases d <;> first | (cases h; done) | skip
    all_goals
      cases h
      exact ⟨_, _, y, kit_ty (by decide +kernel), rfl⟩
end MV

set_option Elab.async false
set_option linter.all false
set_option maxRecDepth 100000
set_option autoImplicit false
set_option maxHeartbeats 1000000
/-! MV, part F: the readings of expressions. -/
namespace MV
open PySem PySem.Spec PyProof.Rows L2

/-- what is wanted of an exception: of the frozen part, the heap, the slots, what is owned, the exception, the slots' data -/
abbrev ZW := Hp → Hp → L2.St → AS → D → List D → Prop
def Zok (Z : ZW) : Prop := ∀ F H φ F' H' φ' σ x ρ, Ext F H φ F' H' φ' → Z F H σ φ x ρ → Z F' H' σ φ' x ρ

variable {X : Cx} {S : Sc} {C : Nat → List D → CR} {Z : ZW} {K : PySem.W.Frag} {F F' F2 H H' H2 : Hp} {φ φ' φ2 ψ χ : AS} {v : V} {d r : D} {σ : L2.St} {ρ ρ' ρ2 : List D}

/-- behind an expression that is looked at -/
def EPost (K : PySem.W.Frag) (Z : ZW) (p : Bool) (F H : Hp) (σ : L2.St) (φ : AS) (r : ER) (Q : VK) : Prop := match r with
  | .ok d ρ' => ∀ v F' H' φd φ', Ext F H φ F' H' (uni φd φ') → Tm K F' H' v d φd → Sep K F' H' σ ρ' φ' → (p = false → dsj φd φ') → (p = true → F' = F ∧ H' = H) → Q v H'
  | .exc x ρ' => Z F H σ φ x ρ'
  | .bad => False
/-- behind an expression whose value is kept -/
def OPost (K : PySem.W.Frag) (Z : ZW) (F H : Hp) (σ : L2.St) (φ : AS) (r : ER) (Q : VK) : Prop := match r with
  | .ok d ρ' => ∀ v F' H' φd φ', Ext F H φ F' H' (uni φd φ') → Tm K F' H' v d φd → Sep K F' H' σ ρ' φ' → dsj φd φ' → Q v H'
  | .exc x ρ' => Z F H σ φ x ρ'
  | .bad => False
/-- behind a test -/
def TPost (K : PySem.W.Frag) (Z : ZW) (F H : Hp) (σ : L2.St) (φ : AS) (r : ER) (Q : Bool → Hp → Prop) : Prop := match r with
  | .ok d ρ' => ∃ k, d = .bl k ∧ ∀ F' H' φ', Ext F H φ F' H' φ' → Sep K F' H' σ ρ' φ' → Q k H'
  | .exc x ρ' => Z F H σ φ x ρ'
  | .bad => False
def tV (K : PySem.W.Frag) (C : Nat → List D → CR) (Z : ZW) (e : E) : TE := fun σ H Q => ∃ F ρ φ, Sep K F H σ ρ φ ∧ EPost K Z e.isP F H σ φ (evE C e ρ) Q
def tO (K : PySem.W.Frag) (C : Nat → List D → CR) (Z : ZW) (e : E) : TE := fun σ H Q => ∃ F ρ φ, Sep K F H σ ρ φ ∧ OPost K Z F H σ φ (own e (evE C e ρ)) Q
def tT (K : PySem.W.Frag) (C : Nat → List D → CR) (Z : ZW) (e : E) : TT := fun σ H Q => ∃ F ρ φ, Sep K F H σ ρ φ ∧ TPost K Z F H σ φ (evE C e ρ) Q

theorem Ext.mine (x : Ext F H φ F' H' (uni ψ φ')) : Ext F H φ F' H' φ' := x.sub fun _ z => .inr z
theorem Tm.em (h : d.isFz = true) (t : Tm K F H v d φ) : Tm K F H v d em := ⟨t.ow.frozen h (Same.refl F) _ _, fun _ z => z.elim⟩
theorem em_dsj : dsj em φ := fun _ z => z.elim
theorem dsj_em : dsj φ em := fun _ _ z => z.elim
theorem dsj.symm (h : dsj φ ψ) : dsj ψ φ := fun a p q => h a q p

/-! ### steps within a post -/
theorem bind_post {P : ER → Prop} {r : ER} {f : D → List D → ER} (h : P (r.bind f)) (hb : ¬ P .bad) : (∃ d ρ, r = .ok d ρ ∧ P (f d ρ)) ∨ (∃ x ρ, r = .exc x ρ ∧ P (.exc x ρ)) := by
  cases r with
  | ok d ρ => exact .inl ⟨d, ρ, rfl, h⟩
  | exc x ρ => exact .inr ⟨x, ρ, rfl, h⟩
  | bad => exact absurd h hb
theorem EPost.bind {p : Bool} {Q : VK} {r : ER} {f : D → List D → ER} (h : EPost K Z p F H σ φ (r.bind f) Q) : (∃ d ρ, r = .ok d ρ ∧ EPost K Z p F H σ φ (f d ρ) Q) ∨ (∃ x ρ, r = .exc x ρ ∧ Z F H σ φ x ρ) :=
  bind_post (P := fun r => EPost K Z p F H σ φ r Q) h fun z => z
theorem OPost.bind {Q : VK} {r : ER} {f : D → List D → ER} (h : OPost K Z F H σ φ (r.bind f) Q) : (∃ d ρ, r = .ok d ρ ∧ OPost K Z F H σ φ (f d ρ) Q) ∨ (∃ x ρ, r = .exc x ρ ∧ Z F H σ φ x ρ) :=
  bind_post (P := fun r => OPost K Z F H σ φ r Q) h fun z => z
theorem TPost.bind {Q : Bool → Hp → Prop} {r : ER} {f : D → List D → ER} (h : TPost K Z F H σ φ (r.bind f) Q) : (∃ d ρ, r = .ok d ρ ∧ TPost K Z F H σ φ (f d ρ) Q) ∨ (∃ x ρ, r = .exc x ρ ∧ Z F H σ φ x ρ) :=
  bind_post (P := fun r => TPost K Z F H σ φ r Q) h fun z => z
theorem onO_post {P : ER → Prop} {o : Option D} {f : D → ER} (h : P (onO o f)) (hb : ¬ P .bad) : ∃ x, o = some x ∧ P (f x) := by
  cases o with
  | some x => exact ⟨x, rfl, h⟩
  | none => exact absurd h hb
theorem EPost.onO {p : Bool} {Q : VK} {o : Option D} {f : D → ER} (h : EPost K Z p F H σ φ (MV.onO o f) Q) : ∃ x, o = some x ∧ EPost K Z p F H σ φ (f x) Q :=
  onO_post (P := fun r => EPost K Z p F H σ φ r Q) h fun z => z
theorem OPost.onO {Q : VK} {o : Option D} {f : D → ER} (h : OPost K Z F H σ φ (MV.onO o f) Q) : ∃ x, o = some x ∧ OPost K Z F H σ φ (f x) Q :=
  onO_post (P := fun r => OPost K Z F H σ φ r Q) h fun z => z
theorem TPost.onO {Q : Bool → Hp → Prop} {o : Option D} {f : D → ER} (h : TPost K Z F H σ φ (MV.onO o f) Q) : ∃ x, o = some x ∧ TPost K Z F H σ φ (f x) Q :=
  onO_post (P := fun r => TPost K Z F H σ φ r Q) h fun z => z
theorem EPost.ofO {p : Bool} {Q : VK} {o : Option D} (h : EPost K Z p F H σ φ (MV.ofO o ρ) Q) : ∃ x, o = some x ∧ EPost K Z p F H σ φ (.ok x ρ) Q := by
  cases o with
  | some x => exact ⟨x, rfl, h⟩
  | none => exact False.elim h
theorem onB_post {P : ER → Prop} {d : D} {t f : ER} (h : P (onB d t f)) (hb : ¬ P .bad) : ∃ k, d = .bl k ∧ P (if k then t else f) := by
  cases d with
  | bl k => cases k <;> exact ⟨_, rfl, h⟩
  | _ => exact absurd h hb
theorem EPost.onB {p : Bool} {Q : VK} {d : D} {t f : ER} (h : EPost K Z p F H σ φ (MV.onB d t f) Q) : ∃ k, d = .bl k ∧ EPost K Z p F H σ φ (if k then t else f) Q :=
  onB_post (P := fun r => EPost K Z p F H σ φ r Q) h fun z => z
theorem OPost.onB {Q : VK} {d : D} {t f : ER} (h : OPost K Z F H σ φ (MV.onB d t f) Q) : ∃ k, d = .bl k ∧ OPost K Z F H σ φ (if k then t else f) Q :=
  onB_post (P := fun r => OPost K Z F H σ φ r Q) h fun z => z
theorem TPost.onB {Q : Bool → Hp → Prop} {d : D} {t f : ER} (h : TPost K Z F H σ φ (MV.onB d t f) Q) : ∃ k, d = .bl k ∧ TPost K Z F H σ φ (if k then t else f) Q :=
  onB_post (P := fun r => TPost K Z F H σ φ r Q) h fun z => z
/-- the rest behind a step -/
theorem EPost.step {Q : VK} {r : ER} (hZ : Zok Z) (h : EPost K Z false F H σ φ r Q) (x : Ext F H φ F' H' φ') : OPost K Z F' H' σ φ' r Q := by
  cases r with
  | ok d ρ' => exact fun v F2 H2 φd φ2 y t s n => h v F2 H2 φd φ2 (x.trans y) t s (fun _ => n) fun w => by cases w
  | exc e ρ' => exact hZ _ _ _ _ _ _ _ _ _ x h
  | bad => exact h
theorem OPost.step {Q : VK} {r : ER} (hZ : Zok Z) (h : OPost K Z F H σ φ r Q) (x : Ext F H φ F' H' φ') : OPost K Z F' H' σ φ' r Q := by
  cases r with
  | ok d ρ' => exact fun v F2 H2 φd φ2 y t s n => h v F2 H2 φd φ2 (x.trans y) t s n
  | exc e ρ' => exact hZ _ _ _ _ _ _ _ _ _ x h
  | bad => exact h
theorem TPost.step {Q : Bool → Hp → Prop} {r : ER} (hZ : Zok Z) (h : TPost K Z F H σ φ r Q) (x : Ext F H φ F' H' φ') : TPost K Z F' H' σ φ' r Q := by
  cases r with
  | ok d ρ' => obtain ⟨k, e, h⟩ := h; exact ⟨k, e, fun F2 H2 φ2 y s => h F2 H2 φ2 (x.trans y) s⟩
  | exc e ρ' => exact hZ _ _ _ _ _ _ _ _ _ x h
  | bad => exact h
/-- a flat end -/
theorem EPost.flat {Q : VK} (h : EPost K Z false F H σ φ (.ok d ρ') Q) (x : Ext F H φ F' H' φ') (s : Sep K F' H' σ ρ' φ') (o : Ow K F' H' v d MV.em) : Q v H' :=
  h v F' H' MV.em φ' (x.sub fun a q => q.elim (fun z => z.elim) id) ⟨o, fun _ z => z.elim⟩ s (fun _ => em_dsj) fun w => by cases w
theorem OPost.flat {Q : VK} (h : OPost K Z F H σ φ (.ok d ρ') Q) (x : Ext F H φ F' H' φ') (s : Sep K F' H' σ ρ' φ') (o : Ow K F' H' v d MV.em) : Q v H' :=
  h v F' H' MV.em φ' (x.sub fun a q => q.elim (fun z => z.elim) id) ⟨o, fun _ z => z.elim⟩ s em_dsj
theorem EPost.o {Q : VK} {r : ER} (h : EPost K Z false F H σ φ r Q) : OPost K Z F H σ φ r Q := by
  cases r with
  | ok d ρ' => exact fun v F2 H2 φd φ2 y t s n => h v F2 H2 φd φ2 y t s (fun _ => n) fun w => by cases w
  | exc e ρ' => exact h
  | bad => exact h

/-- kept from looked at -/
theorem tV_of_tO {e : E} {Q : VK} (h : tO K C Z e σ H Q) : tV K C Z e σ H Q := by
  obtain ⟨F, ρ, φ, z, h⟩ := h
  refine ⟨F, ρ, φ, z, ?_⟩
  cases he : evE C e ρ with
  | ok d ρ' =>
    rw [he] at h
    intro v F' H' φd φ' x t s n p
    cases hp : e.isP with
    | false =>
      simp only [own, hp, Bool.false_and] at h
      exact h v F' H' φd φ' x t s (n hp)
    | true =>
      cases hz : d.isFz with
      | false => simp only [own, hp, hz] at h; exact False.elim h
      | true =>
        simp only [own, hp, hz] at h
        exact h v F' H' MV.em φ' (x.sub fun a q => q.elim (fun z => z.elim) .inr) (t.em hz) s em_dsj
  | exc x ρ' => rw [he] at h; exact h
  | bad => rw [he] at h; exact False.elim h
theorem pe_own {e : Expr} {ie : E} (h : PE X e (tV X.K C Z ie)) : PE X e (tO X.K C Z ie) := PE.mono h fun _ _ _ q => tV_of_tO q

/-- behind an operation -/
theorem NewOk.fin (n : NewOk K F2 H2 H' v r) (z : Sep K F2 H2 σ ρ2 φ2) (x : Ext F H φ F2 H2 (uni ψ φ2)) : ∃ φr, Ext F H φ F2 H' (uni φr φ2) ∧ Tm K F2 H' v r φr ∧ Sep K F2 H' σ ρ2 φ2 ∧ dsj φr φ2 := by
  rcases n with ⟨rfl, o⟩ | ⟨p, o, np, rfl, rfl, w⟩
  · exact ⟨em, x.sub fun a q => q.elim (fun z => z.elim) .inr, ⟨o, fun _ z => z.elim⟩, z, em_dsj⟩
  · have y : Ext F2 H2 em F2 (upd H2 p o) (uni em (fun a => a = p)) := Ext.new z.le np
    obtain ⟨z1, z2⟩ := z.past y dsj_em
    refine ⟨fun a => a = p, (x.trans (Ext.new z.le np)).sub fun a q => ?_, ⟨w, fun a q => ⟨o, by rw [q]; exact upd_same⟩⟩, z1, fun a q w => z2 a w (.inr q)⟩
    exact q.elim .inr fun q => .inl (.inr q)
theorem EPost.newok {Q : VK} (h : EPost K Z false F H σ φ (.ok r ρ2) Q) (n : NewOk K F2 H2 H' v r) (z : Sep K F2 H2 σ ρ2 φ2) (x : Ext F H φ F2 H2 (uni ψ φ2)) : Q v H' := by
  obtain ⟨φr, x1, t1, s1, d1⟩ := n.fin z x
  exact h v F2 H' φr φ2 x1 t1 s1 (fun _ => d1) fun w => by cases w

/-! ### still -/
theorem s_p (G : Good X S) {a : P} {e : Expr} (h : chkP S a e = true) : PE X e (tV X.K C Z (.p a)) := PE.mono (sound_P G a e h) fun σ H Q ⟨F, ρ, φ, z, q⟩ => by
  simp only [evE] at q
  obtain ⟨d, ha, q⟩ := q.ofO
  refine ⟨F, ρ, φ, z, d, ha, fun v o => q v F H φ φ ?_ ⟨o, z.tr⟩ z (fun w => by cases w) fun _ => ⟨rfl, rfl⟩⟩
  exact (Ext.refl z.le).sub fun a q => q.elim id id

/-! ### operations -/
theorem uV {op : U} {a : E} {Q : VK} (h : tV K C Z (.u op a) σ H Q) : tV K C Z a σ H fun x H1 => rUn K op x H1 Q := by
  obtain ⟨F, ρ, φ, z, h⟩ := h
  refine ⟨F, ρ, φ, z, ?_⟩
  simp only [evE] at h
  rcases h.bind with ⟨d, ρ', he, h⟩ | ⟨x, ρ', he, h⟩
  · rw [he]
    obtain ⟨r, ho, h⟩ := h.ofO
    intro v F' H' φd φ' x t s n p
    exact ⟨F', d, φd, r, s.le, t.ow, ho, fun v' H2 n => h.newok n s x⟩
  · rw [he]; exact h

/-- the left side of a two-place operation -/
def tL (K : PySem.W.Frag) (C : Nat → List D → CR) (Z : ZW) (a b : E) : TE := if b.isP then tV K C Z a else tO K C Z a
theorem pe_left {e : Expr} {a b : E} (h : PE X e (tV X.K C Z a)) : PE X e (tL X.K C Z a b) := by
  unfold tL
  split
  · exact h
  · exact pe_own h
theorem bV (hZ : Zok Z) {op : B} {a b : E} {Q : VK} (h : tV K C Z (.b op a b) σ H Q) : tL K C Z a b σ H fun x H1 => tV K C Z b σ H1 fun y H2 => rBn K op x y H2 Q := by
  obtain ⟨F, ρ, φ, z, h⟩ := h
  simp only [evE] at h
  unfold tL
  cases hb : b.isP with
  | true =>
    rw [hb] at h
    simp only [if_true] at h ⊢
    refine ⟨F, ρ, φ, z, ?_⟩
    rcases h.bind with ⟨d, ρ1, he, h⟩ | ⟨x, ρ', he, h⟩
    · rw [he]
      intro v F1 H1 φ1 φ1' x t s n p
      refine ⟨F1, ρ1, φ1', s, ?_⟩
      rcases h.bind with ⟨d2, ρ2, hf, h⟩ | ⟨e, ρ', hf, h⟩
      · rw [hf]
        obtain ⟨r, ho, h⟩ := h.ofO
        intro v2 F2 H2 φ2 φ2' x2 t2 s2 n2 p2
        obtain ⟨rfl, rfl⟩ := p2 hb
        exact ⟨F2, d, d2, φ1, φ2, r, s.le, t.ow, t2.ow, ho, fun v' H3 n => h.newok n s2 ((x.mine).trans x2)⟩
      · rw [hf]; exact hZ _ _ _ _ _ _ _ _ _ x.mine h
    · rw [he]; exact h
  | false =>
    rw [hb] at h
    simp only [Bool.false_eq_true, if_false] at h ⊢
    refine ⟨F, ρ, φ, z, ?_⟩
    rcases h.bind with ⟨d, ρ1, he, h⟩ | ⟨x, ρ', he, h⟩
    · rw [he]
      intro v F1 H1 φ1 φ1' x t s n
      refine ⟨F1, ρ1, φ1', s, ?_⟩
      rcases h.bind with ⟨d2, ρ2, hf, h⟩ | ⟨e, ρ', hf, h⟩
      · rw [hf]
        obtain ⟨r, ho, h⟩ := h.ofO
        intro v2 F2 H2 φ2 φ2' x2 t2 s2 n2 p2
        obtain ⟨t', _⟩ := t.past x2 n
        exact ⟨F2, d, d2, φ1, φ2, r, s2.le, t'.ow, t2.ow, ho, fun v' H3 n => h.newok n s2 ((x.mine).trans x2)⟩
      · rw [hf]; exact hZ _ _ _ _ _ _ _ _ _ x.mine h
    · rw [he]; exact h

/-! ### names -/
theorem slot_some {i : Nat} (h : slot ρ i = some d) : ρ[i]? = some d ∧ d ≠ .un := by
  unfold slot at h
  split at h
  · cases h
  · rename_i hn
    exact ⟨h, fun z => hn (by rw [h, z])⟩
theorem set_self {α : Type} {xs : List α} {i : Nat} {x : α} (h : xs[i]? = some x) : xs.set i x = xs := by
  apply List.ext_getElem?
  intro j
  by_cases hj : j = i
  · subst hj; rw [set_here (List.getElem?_eq_some_iff.mp h).1, h]
  · rw [List.getElem?_set_ne (Ne.symm hj)]
theorem set_set {α : Type} {xs : List α} {i : Nat} {x y : α} : (xs.set i x).set i y = xs.set i y := by simp
theorem s_var (G : Good X S) {i : Nat} {x : Str} {pos : Pos} (h : S.vis i x = true) : PE X (.Name x pos) (tV X.K C Z (.var i)) := by
  obtain ⟨h1, h2, h3, h4⟩ := vis_of G h
  refine PE.mono (pe_var h1 h2 h3 h4) fun σ H Q ⟨F, ρ, φ, z, q⟩ => ?_
  simp only [evE] at q
  obtain ⟨d, hd, q⟩ := q.onO
  obtain ⟨hd, nu⟩ := slot_some hd
  obtain ⟨v, φ1, φ2, hs, t, s2, dj, k1, k2⟩ := z.take hd nu
  refine ⟨v, hs, ?_⟩
  have x1 : Ext F H φ (frz F H φ1) H φ := Ext.freeze z.le k1 fun a w => w
  have tf : Tm X.K (frz F H φ1) H v d.fz em := ⟨t.ow.freeze z.le (fun _ w => w) em H, fun _ w => w.elim⟩
  obtain ⟨s3, d3⟩ := s2.past (F' := frz F H φ1) (H' := H) (χ := φ1) (χ' := em) (Ext.freeze z.le (fun _ w => w) fun _ w => w.elim) dj.symm
  have s4 := s3.put tf em_dsj i
  rw [set_self hs, set_set] at s4
  exact q v (frz F H φ1) H em φ2 (x1.sub fun a w => w.elim (fun w => w.elim) (k2 a)) tf (s4.sub (fun a w => w.elim (fun w => w.elim) id) s2.tr) (fun _ => em_dsj) fun w => by cases w
theorem s_mv (G : Good X S) {i : Nat} {x : Str} {pos : Pos} (h : S.vis i x = true) : PE X (.Name x pos) (tV X.K C Z (.mv i)) := by
  obtain ⟨h1, h2, h3, h4⟩ := vis_of G h
  refine PE.mono (pe_var h1 h2 h3 h4) fun σ H Q ⟨F, ρ, φ, z, q⟩ => ?_
  simp only [evE] at q
  obtain ⟨d, hd, q⟩ := q.onO
  obtain ⟨hd, nu⟩ := slot_some hd
  obtain ⟨v, φ1, φ2, hs, t, s2, dj, k1, k2⟩ := z.take hd nu
  exact ⟨v, hs, q v F H φ1 φ2 ((Ext.refl z.le).sub fun a w => w.elim (k1 a) (k2 a)) t s2 (fun _ => dj) fun w => by cases w⟩

/-! ### a slot's item behind an index that changes things -/
theorem s_ixs (G : Good X S) {i : Nat} {x : Str} {pos pos' : Pos} {b : E} {f : Expr} (h : S.vis i x = true) (hb : PE X f (tV X.K C Z b)) (hs : noSlice f = true) : PE X (.Subscript (.Name x pos) f pos') (tV X.K C Z (.ixs i b)) := by
  obtain ⟨h1, h2, h3, h4⟩ := vis_of G h
  refine PE.mono (pe_ix b_ix (pe_var h1 h2 h3 h4) (pe_own hb) (plainIx_of hs)) fun σ H Q ⟨F, ρ, φ, z, q⟩ => ?_
  simp only [evE] at q
  obtain ⟨d, hd, q⟩ := q.onO
  obtain ⟨hd, nu⟩ := slot_some hd
  obtain ⟨v, hv, _⟩ := z.get hd nu
  refine ⟨v, hv, F, ρ, φ, z, ?_⟩
  rcases q.bind with ⟨y, ρ1, ho, q⟩ | ⟨e, ρ1, ho, q⟩
  · rw [ho]
    obtain ⟨d1, hd1, q⟩ := q.onO
    obtain ⟨r, hx, q⟩ := q.ofO
    obtain ⟨hd1, nu1⟩ := slot_some hd1
    intro vy F1 H1 φ1 φ1' x t s n
    obtain ⟨v', hv', o1⟩ := s.get hd1 nu1
    rw [hv] at hv'
    cases hv'
    exact ⟨F1, d1, y, φ1', φ1, r, s.le, o1, t.ow, hx, fun v' H3 n => q.newok n s x⟩
  · rw [ho]; exact q
end MV

set_option Elab.async false
set_option linter.all false
set_option maxRecDepth 100000
set_option autoImplicit false
set_option maxHeartbeats 1000000
/-! MV, part G: truth values, chains. -/
namespace MV
open PySem PySem.Spec PyProof.Rows L2
variable {X : Cx} {S : Sc} {C : Nat → List D → CR} {Z : ZW} {K : PySem.W.Frag} {F F' F2 H H' H2 : Hp} {φ φ' φ2 ψ χ : AS} {v : V} {d r : D} {σ : L2.St} {ρ ρ' ρ2 : List D}

/-- a truth value that is asked for -/
theorem tV_T {e : E} {Q : VK} (h : ∃ F ρ φ, Sep K F H σ ρ φ ∧ TPost K Z F H σ φ (evE C e ρ) fun k H' => Q (.bl k) H') : tV K C Z e σ H Q := by
  obtain ⟨F, ρ, φ, z, h⟩ := h
  refine ⟨F, ρ, φ, z, ?_⟩
  cases he : evE C e ρ with
  | ok d ρ' =>
    rw [he] at h
    obtain ⟨k, rfl, h⟩ := h
    intro v F' H' φd φ' x t s n p
    cases t.ow
    exact h F' H' φ' x.mine s
  | exc x ρ' => rw [he] at h; exact h
  | bad => rw [he] at h; exact h
theorem tT_of {e : E} {Q : Bool → Hp → Prop} (h : tT K C Z e σ H Q) : tV K C Z e σ H fun x H1 => ∃ k, x = .bl k ∧ Q k H1 := by
  obtain ⟨F, ρ, φ, z, h⟩ := h
  refine tV_T ⟨F, ρ, φ, z, ?_⟩
  cases he : evE C e ρ with
  | ok d ρ' =>
    rw [he] at h
    obtain ⟨k, rfl, h⟩ := h
    exact ⟨k, rfl, fun F' H' φ' x s => ⟨k, rfl, h F' H' φ' x s⟩⟩
  | exc x ρ' => rw [he] at h; exact h
  | bad => rw [he] at h; exact h
/-- from a post to the test's part -/
theorem EPost.andT {a : ER} {f : D → List D → ER} {Q : VK} (h : EPost K Z false F H σ φ (a.bind f) Q) {R : Bool → Hp → Prop}
    (k : ∀ (c : Bool) ρ1, a = .ok (.bl c) ρ1 → ∀ F1 H1 φ1, Ext F H φ F1 H1 φ1 → Sep K F1 H1 σ ρ1 φ1 → R c H1) (nb : ∀ d ρ1, a = .ok d ρ1 → ∃ c, d = .bl c) : TPost K Z F H σ φ a R := by
  cases ha : a with
  | ok d ρ1 =>
    obtain ⟨c, rfl⟩ := nb d ρ1 ha
    exact ⟨c, rfl, fun F1 H1 φ1 x s => k c ρ1 ha F1 H1 φ1 x s⟩
  | exc x ρ' => rw [ha] at h; exact h
  | bad => rw [ha] at h; exact h
theorem andV (hZ : Zok Z) {a b : E} {Q : VK} (h : tV K C Z (.and a b) σ H Q) : tAndV (tV K C Z a) (tO K C Z b) σ H Q := by
  obtain ⟨F, ρ, φ, z, h⟩ := h
  simp only [evE] at h
  rcases h.bind with ⟨d, ρ1, he, h⟩ | ⟨x, ρ', he, h⟩
  · obtain ⟨k, rfl, h⟩ := h.onB
    refine tV_T ⟨F, ρ, φ, z, ?_⟩
    rw [he]
    refine ⟨k, rfl, fun F1 H1 φ1 x s => ⟨k, rfl, ?_⟩⟩
    cases k with
    | true => exact ⟨F1, ρ1, φ1, s, EPost.step hZ h x⟩
    | false => exact EPost.flat h x s (.bl _)
  · exact tV_T ⟨F, ρ, φ, z, by rw [he]; exact h⟩
theorem orV (hZ : Zok Z) {a b : E} {Q : VK} (h : tV K C Z (.or a b) σ H Q) : tOrV (tV K C Z a) (tO K C Z b) σ H Q := by
  obtain ⟨F, ρ, φ, z, h⟩ := h
  simp only [evE] at h
  rcases h.bind with ⟨d, ρ1, he, h⟩ | ⟨x, ρ', he, h⟩
  · obtain ⟨k, rfl, h⟩ := h.onB
    refine tV_T ⟨F, ρ, φ, z, ?_⟩
    rw [he]
    refine ⟨k, rfl, fun F1 H1 φ1 x s => ⟨k, rfl, ?_⟩⟩
    cases k with
    | false => exact ⟨F1, ρ1, φ1, s, EPost.step hZ h x⟩
    | true => exact EPost.flat h x s (.bl _)
  · exact tV_T ⟨F, ρ, φ, z, by rw [he]; exact h⟩
theorem notV {a : E} {Q : VK} (h : tV K C Z (.not a) σ H Q) : tNotV (tV K C Z a) σ H Q := by
  obtain ⟨F, ρ, φ, z, h⟩ := h
  simp only [evE] at h
  rcases h.bind with ⟨d, ρ1, he, h⟩ | ⟨x, ρ', he, h⟩
  · obtain ⟨k, rfl, h⟩ := h.onB
    refine tV_T ⟨F, ρ, φ, z, ?_⟩
    rw [he]
    refine ⟨k, rfl, fun F1 H1 φ1 x s => ⟨k, rfl, ?_⟩⟩
    cases k <;> exact EPost.flat h x s (.bl _)
  · exact tV_T ⟨F, ρ, φ, z, by rw [he]; exact h⟩

/-! ### tests -/
/-- an expression whose test is its value's truth -/
def plainT : Expr → Bool
  | .BoolOp _ _ _ => false
  | .Compare _ _ _ _ => false
  | .UnaryOp .Not _ _ => false
  | .IfExp _ _ _ _ => false
  | _ => true
theorem plainT_of {e : Expr} (h : plainT e = true) (env : Env) : ∀ whole, isTrue e env whole = (do let v ← whole; standAt e.pos; holding [v] (truthy v)) := fun whole => by
  cases e with
  | BoolOp => exact absurd h Bool.false_ne_true
  | Compare => exact absurd h Bool.false_ne_true
  | IfExp => exact absurd h Bool.false_ne_true
  | UnaryOp op => cases op <;> first | rfl | exact absurd h Bool.false_ne_true
  | _ => rfl
theorem pt_plain {e : Expr} {ie : E} (h : PE X e (tV X.K C Z ie)) (hp : plainT e = true) : PT X e (tT X.K C Z ie) := PT.mono (pt_val h (plainT_of hp X.env)) fun _ _ _ q => tT_of q
theorem TPost.own {e : E} {Q : Bool → Hp → Prop} {r : ER} (h : TPost K Z F H σ φ (own e r) Q) : TPost K Z F H σ φ r Q := by
  cases r with
  | ok d ρ1 =>
    simp only [MV.own] at h
    split at h
    · exact False.elim h
    · exact h
  | exc x ρ1 => exact h
  | bad => exact h
theorem andT (hZ : Zok Z) {a b : E} {Q : Bool → Hp → Prop} (h : tT K C Z (.and a b) σ H Q) : tAnd (tT K C Z a) (tT K C Z b) σ H Q := by
  obtain ⟨F, ρ, φ, z, h⟩ := h
  simp only [evE] at h
  refine ⟨F, ρ, φ, z, ?_⟩
  rcases h.bind with ⟨d, ρ1, he, h⟩ | ⟨x, ρ', he, h⟩
  · rw [he]
    obtain ⟨k, rfl, h⟩ := h.onB
    refine ⟨k, rfl, fun F1 H1 φ1 x s => ?_⟩
    cases k with
    | true => exact ⟨F1, ρ1, φ1, s, (TPost.step hZ h x).own⟩
    | false => obtain ⟨_, e, h⟩ := h; cases e; exact h F1 H1 φ1 x s
  · rw [he]; exact h
theorem orT (hZ : Zok Z) {a b : E} {Q : Bool → Hp → Prop} (h : tT K C Z (.or a b) σ H Q) : tOr (tT K C Z a) (tT K C Z b) σ H Q := by
  obtain ⟨F, ρ, φ, z, h⟩ := h
  simp only [evE] at h
  refine ⟨F, ρ, φ, z, ?_⟩
  rcases h.bind with ⟨d, ρ1, he, h⟩ | ⟨x, ρ', he, h⟩
  · rw [he]
    obtain ⟨k, rfl, h⟩ := h.onB
    refine ⟨k, rfl, fun F1 H1 φ1 x s => ?_⟩
    cases k with
    | false => exact ⟨F1, ρ1, φ1, s, (TPost.step hZ h x).own⟩
    | true => obtain ⟨_, e, h⟩ := h; cases e; exact h F1 H1 φ1 x s
  · rw [he]; exact h
theorem notT {a : E} {Q : Bool → Hp → Prop} (h : tT K C Z (.not a) σ H Q) : tNot (tT K C Z a) σ H Q := by
  obtain ⟨F, ρ, φ, z, h⟩ := h
  simp only [evE] at h
  refine ⟨F, ρ, φ, z, ?_⟩
  rcases h.bind with ⟨d, ρ1, he, h⟩ | ⟨x, ρ', he, h⟩
  · rw [he]
    obtain ⟨k, rfl, h⟩ := h.onB
    refine ⟨k, rfl, fun F1 H1 φ1 x s => ?_⟩
    cases k <;> (obtain ⟨_, e, h⟩ := h; cases e; exact h F1 H1 φ1 x s)
  · rw [he]; exact h
theorem iteV (hZ : Zok Z) {c a b : E} {Q : VK} (h : tV K C Z (.ite c a b) σ H Q) : tIf (tT K C Z c) (tO K C Z a) (tO K C Z b) σ H Q := by
  obtain ⟨F, ρ, φ, z, h⟩ := h
  simp only [evE] at h
  refine ⟨F, ρ, φ, z, ?_⟩
  rcases h.bind with ⟨d, ρ1, he, h⟩ | ⟨x, ρ', he, h⟩
  · rw [he]
    obtain ⟨k, rfl, h⟩ := h.onB
    refine ⟨k, rfl, fun F1 H1 φ1 x s => ?_⟩
    cases k with
    | true => exact ⟨F1, ρ1, φ1, s, EPost.step hZ h x⟩
    | false => exact ⟨F1, ρ1, φ1, s, EPost.step hZ h x⟩
  · rw [he]; exact h

/-! ### chains of comparisons -/
structure PCh (X : Cx) (ops : List CmpOp) (es : List Expr) (t : V → TE) : Prop where
  run : ∀ (pos : Pos) (pins : List (Addr × Obj)) (s : Shared) (σ : L2.St) (H : Hp) (x : V) (u : Value) (Q : VK), Inv X pins σ H s → RelV x u → t x σ H Q →
    wpAny (model X.prog X.w) X.A (compareChain pos u ops (evalEach es X.env)) (EP X pins σ Q) X.xe s
structure PCt (X : Cx) (ops : List CmpOp) (es : List Expr) (t : V → TT) : Prop where
  run : ∀ (pos : Pos) (pins : List (Addr × Obj)) (s : Shared) (σ : L2.St) (H : Hp) (x : V) (u : Value) (Q : Bool → Hp → Prop), Inv X pins σ H s → RelV x u → t x σ H Q →
    wpAny (model X.prog X.w) X.A (testChain pos u ops (evalEach es X.env)) (TP X pins σ Q) X.xe s
theorem PCh.mono {ops : List CmpOp} {es : List Expr} {t t' : V → TE} (h : PCh X ops es t) (w : ∀ x σ H Q, t' x σ H Q → t x σ H Q) : PCh X ops es t' := ⟨fun pos pins s σ H x u Q I r q => h.run pos pins s σ H x u Q I r (w x σ H Q q)⟩
theorem PCt.mono {ops : List CmpOp} {es : List Expr} {t t' : V → TT} (h : PCt X ops es t) (w : ∀ x σ H Q, t' x σ H Q → t x σ H Q) : PCt X ops es t' := ⟨fun pos pins s σ H x u Q I r q => h.run pos pins s σ H x u Q I r (w x σ H Q q)⟩
theorem pch_last {op : CmpOp} {e : Expr} {ro : R2} {te : TE} (ho : OpR X (compareOp op) ro) (he : PE X e te) : PCh X [op] [e] (fun x σ H Q => te σ H fun y H1 => ro x y H1 Q) :=
  ⟨fun pos pins s σ H x u Q I rx h => PyProof.Rows.chain_last (thn (he.run pins s σ H _ I h) fun w s1 ⟨y, H1, I1, r1, q1⟩ => ho pins s1 σ H1 x y u w Q I1 rx r1 q1)⟩
theorem pct_last {op : CmpOp} {e : Expr} {ro : R2} {te : TE} (ho : OpR X (compareOp op) ro) (he : PE X e te) : PCt X [op] [e] (fun x σ H Q => te σ H fun y H1 => ro x y H1 fun z H2 => ∃ k, z = .bl k ∧ Q k H2) :=
  ⟨fun pos pins s σ H x u Q I rx h => PyProof.Rows.test_last (thn (he.run pins s σ H _ I h) fun w s1 ⟨y, H1, I1, r1, q1⟩ => thn (ho pins s1 σ H1 x y u w _ I1 rx r1 q1) fun c s2 ⟨z, H2, I2, r2, k, e2, q2⟩ => by
    subst e2
    cases r2
    exact wpAny_truthy_bool ⟨H2, I2, q2⟩)⟩
theorem pch_link {op op' : CmpOp} {ops : List CmpOp} {e e' : Expr} {es : List Expr} {ro : R2} {te : TE} {tr : V → TE} (ho : OpR X (compareOp op) ro) (he : PE X e te) (hr : PCh X (op' :: ops) (e' :: es) tr) :
    PCh X (op :: op' :: ops) (e :: e' :: es) (fun x σ H Q => te σ H fun y H1 => ro x y H1 fun z H2 => ∃ k, z = .bl k ∧ if k = true then tr y σ H2 Q else Q (.bl false) H2) :=
  ⟨fun pos pins s σ H x u Q I rx h => PyProof.Rows.chain_link (thn (he.run pins s σ H _ I h) fun w s1 ⟨y, H1, I1, r1, q1⟩ => thn (ho pins s1 σ H1 x y u w _ I1 rx r1 q1) fun c s2 ⟨z, H2, I2, r2, k, e2, q2⟩ => by
    subst e2
    cases r2
    refine wpAny_truthy_bool ?_
    cases k with
    | true => exact hr.run pos pins s2 σ H2 y w Q I2 r1 q2
    | false => exact ⟨.bl false, H2, I2, rfl, q2⟩)⟩
theorem pct_link {op op' : CmpOp} {ops : List CmpOp} {e e' : Expr} {es : List Expr} {ro : R2} {te : TE} {tr : V → TT} (ho : OpR X (compareOp op) ro) (he : PE X e te) (hr : PCt X (op' :: ops) (e' :: es) tr) :
    PCt X (op :: op' :: ops) (e :: e' :: es) (fun x σ H Q => te σ H fun y H1 => ro x y H1 fun z H2 => ∃ k, z = .bl k ∧ if k = true then tr y σ H2 Q else Q false H2) :=
  ⟨fun pos pins s σ H x u Q I rx h => PyProof.Rows.test_link (thn (he.run pins s σ H _ I h) fun w s1 ⟨y, H1, I1, r1, q1⟩ => thn (ho pins s1 σ H1 x y u w _ I1 rx r1 q1) fun c s2 ⟨z, H2, I2, r2, k, e2, q2⟩ => by
    subst e2
    cases r2
    refine wpAny_truthy_bool ?_
    cases k with
    | true => exact hr.run pos pins s2 σ H2 y w Q I2 r1 q2
    | false => exact ⟨H2, I2, q2⟩)⟩
theorem pe_ch {op op' : CmpOp} {ops : List CmpOp} {a e e' : Expr} {es : List Expr} {pos : Pos} {ta : TE} {tr : V → TE} (ha : PE X a ta) (hr : PCh X (op :: op' :: ops) (e :: e' :: es) tr) (hm : lastMarks (op :: op' :: ops) (e :: e' :: es) = false) :
    PE X (.Compare a (op :: op' :: ops) (e :: e' :: es) pos) (fun σ H Q => ta σ H fun x H1 => tr x σ H1 Q) :=
  ⟨fun pins s σ H Q I h => PyProof.Rows.Compare_chain (thn (ha.run pins s σ H _ I h) fun u s1 ⟨x, H1, I1, r1, q1⟩ => hr.run pos pins s1 σ H1 x u Q I1 r1 q1) hm⟩
theorem pt_ch {op op' : CmpOp} {ops : List CmpOp} {a e e' : Expr} {es : List Expr} {pos : Pos} {ta : TE} {tr : V → TT} (ha : PE X a ta) (hr : PCt X (op :: op' :: ops) (e :: e' :: es) tr) (hm : lastMarks (op :: op' :: ops) (e :: e' :: es) = false) :
    PT X (.Compare a (op :: op' :: ops) (e :: e' :: es) pos) (fun σ H Q => ta σ H fun x H1 => tr x σ H1 Q) :=
  ⟨fun pins s σ H Q I h => PyProof.Rows.isTrue_chain (thn (ha.run pins s σ H _ I h) fun u s1 ⟨x, H1, I1, r1, q1⟩ => hr.run pos pins s1 σ H1 x u Q I1 r1 q1) hm⟩
/-- the readings of a chain behind its first value -/
def tC' (K : PySem.W.Frag) (C : Nat → List D → CR) (Z : ZW) (r : E) (x : V) : TE := fun σ H Q => ∃ F ρ φ d φx, Sep K F H σ ρ φ ∧ Tm K F H x d φx ∧ dsj φx φ ∧ OPost K Z F H σ φ (evC C r d ρ) Q
def tCt (K : PySem.W.Frag) (C : Nat → List D → CR) (Z : ZW) (r : E) (x : V) : TT := fun σ H Q => ∃ F ρ φ d φx, Sep K F H σ ρ φ ∧ Tm K F H x d φx ∧ dsj φx φ ∧ TPost K Z F H σ φ (evC C r d ρ) Q
theorem NewOk.still {k : Bool} (n : NewOk K F H H' v (.bl k)) : H' = H := by
  rcases n with ⟨e, _⟩ | ⟨p, o, _, e, e2, w⟩
  · exact e
  · cases w; cases e2
theorem NewOk.bl {k : Bool} (n : NewOk K F H H' v (.bl k)) : v = .bl k := by
  rcases n with ⟨_, w⟩ | ⟨p, o, _, e, e2, w⟩
  · cases w; rfl
  · cases w; rfl
/-- one comparison of a chain -/
theorem ckV (hZ : Zok Z) {op : B} {e r : E} {x : V} {Q : VK} (h : tC' K C Z (.ck op e r) x σ H Q) : tO K C Z e σ H fun y H1 => rBn K op x y H1 fun z H2 => ∃ k, z = .bl k ∧
    (if r.isNil = true then Q (.bl k) H2 else if k = true then tC' K C Z r y σ H2 Q else Q (.bl false) H2) := by
  obtain ⟨F, ρ, φ, d, φx, z, tx, nx, h⟩ := h
  simp only [evC] at h
  refine ⟨F, ρ, φ, z, ?_⟩
  rcases h.bind with ⟨dy, ρ1, he, h⟩ | ⟨x, ρ', he, h⟩
  · rw [he]
    intro y F1 H1 φy φ1 x1 t s n
    obtain ⟨tx', _⟩ := tx.past x1 nx
    obtain ⟨zz, hb, h⟩ := h.onO
    have hz : ∃ k, zz = .bl k := by
      split at h <;> (obtain ⟨k, e, _⟩ := h.onB; exact ⟨k, e⟩)
    obtain ⟨k, rfl⟩ := hz
    refine ⟨F1, d, dy, φx, φy, _, s.le, tx'.ow, t.ow, hb, fun v' H2 nk => ?_⟩
    have e1 := nk.still
    have e2 := nk.bl
    subst e1 e2
    refine ⟨k, rfl, ?_⟩
    split
    · rename_i hn
      rw [if_pos hn] at h
      obtain ⟨_, e, h⟩ := h.onB
      cases e
      cases k <;> exact h.flat x1.mine s (.bl _)
    · rename_i hn
      rw [if_neg hn] at h
      obtain ⟨_, e, h⟩ := h.onB
      cases e
      cases k with
      | true => exact ⟨F1, ρ1, φ1, dy, φy, s, t, n, OPost.step hZ h x1.mine⟩
      | false => exact h.flat x1.mine s (.bl _)
  · rw [he]; exact h
theorem TPost.bl {k : Bool} {Q : Bool → Hp → Prop} (h : TPost K Z F H σ φ (.ok (.bl k) ρ') Q) (x : Ext F H φ F' H' φ') (s : Sep K F' H' σ ρ' φ') : Q k H' := by
  obtain ⟨_, e, h⟩ := h
  cases e
  exact h F' H' φ' x s
theorem ckT (hZ : Zok Z) {op : B} {e r : E} {x : V} {Q : Bool → Hp → Prop} (h : tCt K C Z (.ck op e r) x σ H Q) : tO K C Z e σ H fun y H1 => rBn K op x y H1 fun z H2 => ∃ k, z = .bl k ∧
    (if r.isNil = true then Q k H2 else if k = true then tCt K C Z r y σ H2 Q else Q false H2) := by
  obtain ⟨F, ρ, φ, d, φx, z, tx, nx, h⟩ := h
  simp only [evC] at h
  refine ⟨F, ρ, φ, z, ?_⟩
  rcases h.bind with ⟨dy, ρ1, he, h⟩ | ⟨x, ρ', he, h⟩
  · rw [he]
    intro y F1 H1 φy φ1 x1 t s n
    obtain ⟨tx', _⟩ := tx.past x1 nx
    obtain ⟨zz, hb, h⟩ := h.onO
    have hz : ∃ k, zz = .bl k := by
      split at h <;> (obtain ⟨k, e, _⟩ := h.onB; exact ⟨k, e⟩)
    obtain ⟨k, rfl⟩ := hz
    refine ⟨F1, d, dy, φx, φy, _, s.le, tx'.ow, t.ow, hb, fun v' H2 nk => ?_⟩
    have e1 := nk.still
    have e2 := nk.bl
    subst e1 e2
    refine ⟨k, rfl, ?_⟩
    split
    · rename_i hn
      rw [if_pos hn] at h
      obtain ⟨_, e, h⟩ := h.onB
      cases e
      cases k <;> exact h.bl x1.mine s
    · rename_i hn
      rw [if_neg hn] at h
      obtain ⟨_, e, h⟩ := h.onB
      cases e
      cases k with
      | true => exact ⟨F1, ρ1, φ1, dy, φy, s, t, n, TPost.step hZ h x1.mine⟩
      | false => exact h.bl x1.mine s
  · rw [he]; exact h
theorem chV (hZ : Zok Z) {a r : E} {Q : VK} (h : tV K C Z (.chain a r) σ H Q) : tO K C Z a σ H fun x H1 => tC' K C Z r x σ H1 Q := by
  obtain ⟨F, ρ, φ, z, h⟩ := h
  simp only [evE] at h
  refine ⟨F, ρ, φ, z, ?_⟩
  rcases h.bind with ⟨d, ρ1, he, h⟩ | ⟨x, ρ', he, h⟩
  · rw [he]
    intro x F1 H1 φx φ1 x1 t s n
    exact ⟨F1, ρ1, φ1, d, φx, s, t, n, EPost.step hZ h x1.mine⟩
  · rw [he]; exact h
theorem chT (hZ : Zok Z) {a r : E} {Q : Bool → Hp → Prop} (h : tT K C Z (.chain a r) σ H Q) : tO K C Z a σ H fun x H1 => tCt K C Z r x σ H1 Q := by
  obtain ⟨F, ρ, φ, z, h⟩ := h
  simp only [evE] at h
  refine ⟨F, ρ, φ, z, ?_⟩
  rcases h.bind with ⟨d, ρ1, he, h⟩ | ⟨x, ρ', he, h⟩
  · rw [he]
    intro x F1 H1 φx φ1 x1 t s n
    exact ⟨F1, ρ1, φ1, d, φx, s, t, n, TPost.step hZ h x1.mine⟩
  · rw [he]; exact h
/-- one comparison as a test -/
theorem bT (hZ : Zok Z) {op : B} {a b : E} {Q : Bool → Hp → Prop} (h : tT K C Z (.b op a b) σ H Q) : tL K C Z a b σ H fun x H1 => tV K C Z b σ H1 fun y H2 => rBn K op x y H2 fun z H3 => ∃ k, z = .bl k ∧ Q k H3 := bV hZ (tT_of h)
end MV

set_option Elab.async false
set_option linter.all false
set_option maxRecDepth 100000
set_option autoImplicit false
set_option maxHeartbeats 1000000
/-! MV, part H: items, displays, calls. -/
namespace MV
open PySem PySem.Spec PyProof.Rows L2
variable {X : Cx} {S : Sc} {C : Nat → List D → CR} {Z : ZW} {K : PySem.W.Frag} {F F' F2 H H' H2 : Hp} {φ φ' φ2 ψ χ χ' : AS} {v : V} {d r : D} {σ : L2.St} {ρ ρ' ρ2 : List D}

/-! ### slots in a row -/
theorem Sep.cons {φ1 : AS} (t : Tm K F H v d φ1) (z : Sep K F H σ ρ φ2) (n : dsj φ1 φ2) : Sep K F H (some v :: σ) (d :: ρ) (uni φ1 φ2) := by
  obtain ⟨ψ, h1, h2, h3⟩ := z.env
  refine ⟨z.le, by simp [z.len], fun a p => p.elim (t.tr a) (z.tr a), fun j => match j with | 0 => φ1 | j + 1 => ψ j, fun i e q m => ?_, fun i j ij => ?_, fun i a p => ?_⟩
  · cases i with
    | zero => cases (Option.some.inj q); exact ⟨v, rfl, t.ow⟩
    | succ i => exact h1 i e q m
  · cases i with
    | zero =>
      cases j with
      | zero => exact absurd rfl ij
      | succ j => exact fun a p q => n a p (h3 j a q)
    | succ i =>
      cases j with
      | zero => exact fun a p q => n a q (h3 i a p)
      | succ j => exact h2 i j fun e => ij (by rw [e])
  · cases i with
    | zero => exact .inl p
    | succ i => exact .inr (h3 i a p)
theorem Sep.consU {x : Option V} (z : Sep K F H σ ρ φ) : Sep K F H (x :: σ) (.un :: ρ) φ := by
  obtain ⟨ψ, h1, h2, h3⟩ := z.env
  refine ⟨z.le, by simp [z.len], z.tr, fun j => match j with | 0 => em | j + 1 => ψ j, fun i e q m => ?_, fun i j ij => ?_, fun i a p => ?_⟩
  · cases i with
    | zero => cases (Option.some.inj q); exact absurd rfl m
    | succ i => exact h1 i e q m
  · cases i with
    | zero => exact fun a p => p.elim
    | succ i =>
      cases j with
      | zero => exact fun a _ p => p.elim
      | succ j => exact h2 i j fun e => ij (by rw [e])
  · cases i with
    | zero => exact p.elim
    | succ i => exact h3 i a p
theorem Sep.nil (e : Same F H) : Sep K F H [] [] em := ⟨e, rfl, fun _ z => z.elim, fun _ => em, fun i d q _ => by simp at q, fun _ _ _ _ z => z.elim, fun _ _ z => z.elim⟩
theorem Sep.uncons {x : Option V} (z : Sep K F H (x :: σ) (d :: ρ) φ) : ∃ φ1 φ2, Sep K F H σ ρ φ2 ∧ (d ≠ .un → ∃ v, x = some v ∧ Tm K F H v d φ1) ∧ dsj φ1 φ2 ∧ (∀ a, φ1 a → φ a) ∧ (∀ a, φ2 a → φ a) := by
  obtain ⟨ψ, h1, h2, h3⟩ := z.env
  refine ⟨ψ 0, fun a => ∃ j, ψ (j + 1) a, ⟨z.le, by simpa using z.len, fun a ⟨j, p⟩ => z.tr a (h3 _ a p), fun j => ψ (j + 1), fun i e q m => h1 (i + 1) e q m, fun i j ij => h2 _ _ fun e => ij (by omega), fun i a p => ⟨i, p⟩⟩, fun m => ?_, fun a p ⟨j, q⟩ => h2 0 (j + 1) (by omega) a p q, h3 0, fun a ⟨j, p⟩ => h3 _ a p⟩
  obtain ⟨v, e, o⟩ := h1 0 d rfl m
  exact ⟨v, Option.some.inj e, o, fun a p => z.tr a (h3 0 a p)⟩

/-! ### items -/
inductive Items (K : PySem.W.Frag) (F H : Hp) (σ : L2.St) : List V → List (Option Nat × D) → AS → Prop
  | nil {φ : AS} : Items K F H σ [] [] φ
  | tmp {v : V} {d : D} {vs : List V} {as : List (Option Nat × D)} {φ1 φ2 φ : AS} : Tm K F H v d φ1 → Items K F H σ vs as φ2 → dsj φ1 φ2 → (∀ a, φ1 a → φ a) → (∀ a, φ2 a → φ a) → Items K F H σ (v :: vs) ((none, d) :: as) φ
  | slot {i : Nat} {v : V} {d : D} {vs : List V} {as : List (Option Nat × D)} {φ : AS} : σ[i]? = some (some v) → Items K F H σ vs as φ → Items K F H σ (v :: vs) ((some i, d) :: as) φ
theorem Items.past {vs : List V} {as : List (Option Nat × D)} (t : Items K F H σ vs as φ) (e : Ext F H χ F' H' χ') (z : dsj φ χ) : Items K F' H' σ vs as φ := by
  induction t with
  | nil => exact .nil
  | tmp t _ n s1 s2 ih => exact .tmp (t.past e fun a p => z a (s1 a p)).1 (ih fun a p => z a (s2 a p)) n s1 s2
  | slot h _ ih => exact .slot h (ih z)
theorem past_dsj (tr : ∀ a, φ a → ∃ o, H a = some o) (e : Ext F H χ F' H' χ') (z : dsj φ χ) : dsj φ χ' ∧ ∀ a, φ a → ∃ o, H' a = some o :=
  ⟨fun a p q => by obtain ⟨o, h⟩ := tr a p; exact z a p (e.s a o q h), fun a p => by obtain ⟨o, h⟩ := tr a p; exact ⟨o, e.k a o h (z a p)⟩⟩
theorem Items.len {vs : List V} {as : List (Option Nat × D)} (t : Items K F H σ vs as φ) : vs.length = as.length := by
  induction t with
  | nil => rfl
  | tmp _ _ _ _ _ ih => simp [ih]
  | slot _ _ ih => simp [ih]
/-- plain items, frozen -/
theorem Items.frozen {vs : List V} {as : List (Option Nat × D)} (t : Items K F H σ vs as φ) (e : Same F H) (s : ∀ a, φ a → χ a) : ∀ {ds : List D}, plainA as = some ds →
    vs.length = (fzs ds).length ∧ ∀ (H' : Hp) (i : Nat) (v : V) (d : D), vs[i]? = some v → (fzs ds)[i]? = some d → Ow K (frz F H χ) H' v d em := by
  induction t with
  | nil => intro ds q; cases q; exact ⟨rfl, fun H' i v d h => by simp at h⟩
  | tmp t _ n s1 s2 ih =>
    intro ds q
    obtain ⟨es, h1, rfl⟩ := Option.map_eq_some_iff.mp q
    obtain ⟨l, c⟩ := ih (fun a p => s a (s2 a p)) h1
    refine ⟨by simp [fzs, l], fun H' i v d hv hd => ?_⟩
    cases i with
    | zero =>
      cases (Option.some.inj hv)
      cases (Option.some.inj hd)
      exact t.ow.freeze e (fun a p => s a (s1 a p)) _ _
    | succ i => exact c H' i v d hv hd
  | slot => intro ds q; cases q

/-- arguments -/
def APost (K : PySem.W.Frag) (Z : ZW) (F H : Hp) (σ : L2.St) (φ : AS) (r : AR) (Q : List V → Hp → Prop) : Prop := match r with
  | .ok as ρ' => ∀ vs F' H' φt φ', Ext F H φ F' H' (uni φt φ') → Items K F' H' σ vs as φt → (∀ a, φt a → ∃ o, H' a = some o) → Sep K F' H' σ ρ' φ' → dsj φt φ' → Q vs H'
  | .exc x ρ' => Z F H σ φ x ρ'
  | .bad => False
def tA (K : PySem.W.Frag) (C : Nat → List D → CR) (Z : ZW) (e : E) : TA := fun σ H Q => ∃ F ρ φ, Sep K F H σ ρ φ ∧ APost K Z F H σ φ (evA C e ρ) Q
theorem APost.bind {Q : List V → Hp → Prop} {r : AR} {f : List (Option Nat × D) → List D → AR} (h : APost K Z F H σ φ (r.bind f) Q) : (∃ d ρ, r = .ok d ρ ∧ APost K Z F H σ φ (f d ρ) Q) ∨ (∃ x ρ, r = .exc x ρ ∧ Z F H σ φ x ρ) := by
  cases r with
  | ok d ρ => exact .inl ⟨d, ρ, rfl, h⟩
  | exc x ρ => exact .inr ⟨x, ρ, rfl, h⟩
  | bad => exact False.elim h
theorem APost.toA {Q : List V → Hp → Prop} {r : ER} {f : D → List D → AR} (h : APost K Z F H σ φ (r.toA f) Q) : (∃ d ρ, r = .ok d ρ ∧ APost K Z F H σ φ (f d ρ) Q) ∨ (∃ x ρ, r = .exc x ρ ∧ Z F H σ φ x ρ) := by
  cases r with
  | ok d ρ => exact .inl ⟨d, ρ, rfl, h⟩
  | exc x ρ => exact .inr ⟨x, ρ, rfl, h⟩
  | bad => exact False.elim h
theorem EPost.toE {p : Bool} {Q : VK} {r : AR} {f : List (Option Nat × D) → List D → ER} (h : EPost K Z p F H σ φ (r.toE f) Q) : (∃ d ρ, r = .ok d ρ ∧ EPost K Z p F H σ φ (f d ρ) Q) ∨ (∃ x ρ, r = .exc x ρ ∧ Z F H σ φ x ρ) := by
  cases r with
  | ok d ρ => exact .inl ⟨d, ρ, rfl, h⟩
  | exc x ρ => exact .inr ⟨x, ρ, rfl, h⟩
  | bad => exact False.elim h
def noStar : Expr → Bool
  | .Starred _ _ => false
  | _ => true
theorem star_of {e : Expr} {es : List Expr} (h : noStar e = true) (env : Env) : starEach (e :: es) env = (false, eval e env) :: starEach es env := by
  cases e <;> first
    | rfl
    | exact absurd h Bool.false_ne_true
theorem stars_of (env : Env) (pos : Pos) : ∀ {es : List Expr}, es.all noStar = true → (backTo pos (starEach es env)).any (·.1) = false
  | [], _ => rfl
  | e :: es, h => by
    simp only [List.all_cons, Bool.and_eq_true] at h
    rw [star_of h.1]
    have ih := stars_of env pos h.2
    unfold backTo at ih ⊢
    rw [List.map_cons, List.any_cons, ih]
    rfl
theorem tA_nil : PA X [] (tA X.K C Z .nil) := ⟨fun pos pins s σ H Q I ⟨F, ρ, φ, z, h⟩ => pa_nil.run pos pins s σ H Q I (by
  simp only [evA] at h
  exact h [] F H em φ ((Ext.refl z.le).sub fun a q => q.elim (fun z => z.elim) id) .nil (fun _ z => z.elim) z em_dsj)⟩
theorem PA.mono {es : List Expr} {t t' : TA} (h : PA X es t) (w : ∀ σ H Q, t' σ H Q → t σ H Q) : PA X es t' := ⟨fun pos pins s σ H Q I q => h.run pos pins s σ H Q I (w σ H Q q)⟩
def isIo : E → Bool
  | .io _ => true
  | _ => false
theorem evA_cons {a r : E} (h : isIo a = false) (ρ : List D) : evA C (.cons a r) ρ = (own a (evE C a ρ)).toA fun d ρ1 => (evA C r ρ1).bind fun ds ρ2 => .ok ((none, d) :: ds) ρ2 := by
  cases a <;> first
    | exact absurd h.symm Bool.false_ne_true
    | simp only [evA]
theorem tA_cons (hZ : Zok Z) {a r : E} {e : Expr} {es : List Expr} (hi : isIo a = false) (he : PE X e (tV X.K C Z a)) (hr : PA X es (tA X.K C Z r)) (hs : noStar e = true) : PA X (e :: es) (tA X.K C Z (.cons a r)) := by
  refine PA.mono (pa_cons (pe_own he) hr (star_of hs X.env)) fun σ H Q ⟨F, ρ, φ, z, h⟩ => ?_
  rw [evA_cons hi] at h
  refine ⟨F, ρ, φ, z, ?_⟩
  rcases h.toA with ⟨d, ρ1, h1, h⟩ | ⟨x, ρ', h1, h⟩
  · rw [h1]
    intro v F1 H1 φ1 φ1' x1 t1 s1 n1
    refine ⟨F1, ρ1, φ1', s1, ?_⟩
    rcases h.bind with ⟨as, ρ2, h2, h⟩ | ⟨x, ρ', h2, h⟩
    · rw [h2]
      intro vs F2 H2 φ2 φ2' x2 t2 tr s2 n2
      obtain ⟨t1', n1'⟩ := t1.past x2 n1
      have y := x1.trans (x2.sup (ψ := uni φ1 φ1') fun a p => .inr p)
      refine h (v :: vs) F2 H2 (uni φ1 φ2) φ2' ⟨y.f, y.le, y.k, y.n, fun a o q w => ?_⟩ (.tmp t1' t2 (fun a p q => n1' a p (.inl q)) (fun a p => .inl p) fun a p => .inr p) (fun a p => p.elim (t1'.tr a) (tr a)) s2 fun a p q => p.elim (fun p => n1' a p (.inr q)) fun p => n2 a p q
      rcases q with (q | q) | q
      · refine x1.s a o (.inl q) w
      · exact y.s a o (.inl q) w
      · exact y.s a o (.inr q) w
    · rw [h2]; exact hZ _ _ _ _ _ _ _ _ _ x1.mine h
  · rw [h1]; exact h
theorem tA_io (hZ : Zok Z) (G : Good X S) {i : Nat} {r : E} {x : Str} {pos : Pos} {es : List Expr} (hv : S.vis i x = true) (hr : PA X es (tA X.K C Z r)) : PA X (.Name x pos :: es) (tA X.K C Z (.cons (.io i) r)) := by
  obtain ⟨h1, h2, h3, h4⟩ := vis_of G hv
  refine PA.mono (pa_cons (pe_var h1 h2 h3 h4) hr (star_of rfl X.env)) fun σ H Q ⟨F, ρ, φ, z, h⟩ => ?_
  simp only [evA] at h
  rcases h.toA with ⟨d, ρ1, h1, h⟩ | ⟨x, ρ', h1, h⟩
  · cases hd : slot ρ i with
    | none => rw [hd] at h1; cases h1
    | some d =>
      rw [hd] at h1
      cases h1
      obtain ⟨hd, nu⟩ := slot_some hd
      obtain ⟨v, hs, _⟩ := z.get hd nu
      refine ⟨v, hs, F, ρ, φ, z, ?_⟩
      rcases h.bind with ⟨as, ρ2, h2, h⟩ | ⟨x, ρ', h2, h⟩
      · rw [h2]
        exact fun vs F2 H2 φ2 φ2' x2 t2 tr s2 n2 => h (v :: vs) F2 H2 φ2 φ2' x2 (.slot hs t2) tr s2 n2
      · rw [h2]; exact h
  · cases hd : slot ρ i <;> (rw [hd] at h1; cases h1)

theorem new_tr {p : Addr} {o : HO} : ∀ a, a = p → ∃ o', upd H p o a = some o' := fun a q => by
  subst q
  exact ⟨o, upd_same⟩
/-! ### displays -/
theorem mkL_post {p : Bool} {Q : VK} {o : Bool} {as : List (Option Nat × D)} (h : EPost K Z p F H σ φ (mkL o as ρ) Q) : ∃ ds, plainA as = some ds ∧ ds.length ≤ sizeLine ∧ EPost K Z p F H σ φ (.ok (if o then .lst true (fzs ds) else .tup false (fzs ds)) ρ) Q := by
  unfold mkL at h
  split at h
  · rename_i ds h2
    split at h
    · exact ⟨ds, h2, by assumption, h⟩
    · exact False.elim h
  · exact False.elim h
theorem s_lstE {a : E} {es : List Expr} {pos : Pos} (ha : PA X es (tA X.K C Z a)) : PE X (.List es pos) (tV X.K C Z (.lstE a)) := by
  refine PE.mono (pe_lst ha) fun σ H Q ⟨F, ρ, φ, z, h⟩ => ?_
  refine ⟨F, ρ, φ, z, ?_⟩
  simp only [evE] at h
  rcases h.toE with ⟨as, ρ1, h1, h⟩ | ⟨x, ρ', h1, h⟩
  · rw [h1]
    intro vs F1 H1 φt φ1 x1 t tr s n
    obtain ⟨ds, h2, hl, h⟩ := mkL_post h
    obtain ⟨l, c⟩ := t.frozen s.le (fun _ q => q) h2
    refine ⟨by rw [l, fzs_length]; exact hl, fun p np => ?_⟩
    have x2 : Ext F1 H1 (uni φt φ1) (frz F1 H1 φt) H1 φ1 := Ext.freeze s.le (fun a q => .inl q) fun a q => .inr q
    obtain ⟨s2, n2⟩ := s.past (χ' := em) (Ext.freeze (ψ := φt) (φ' := em) s.le (fun a q => q) fun a q => q.elim) n.symm
    have x3 : Ext (frz F1 H1 φt) H1 φ1 (frz F1 H1 φt) (upd H1 p (.lst vs)) (uni φ1 fun a => a = p) := Ext.new (frz_le s.le) np
    obtain ⟨s3, n3⟩ := s2.past (Ext.new (φ := em) (o := .lst vs) (frz_le s.le) np) dsj_em
    refine h (.ref p) _ _ (fun a => a = p) φ1 (((x1.trans x2).trans x3).sub fun a q => q.elim .inr .inl) ⟨?_, new_tr⟩ s3 (fun _ a q w => n3 a w (.inr q)) fun w => by cases w
    exact .lst1 (fun _ => em) upd_same (Same.free (frz_le s.le) np) rfl l (fun i v d hv hd => c _ i v d hv hd) (fun _ _ _ _ q => q.elim) fun _ _ q => q.elim
  · rw [h1]; exact h
/-- a new frozen tuple -/
theorem Ext.newF {p : Addr} {o : HO} (e : Same F H) (h : H p = none) : Ext F H φ (upd F p o) (upd H p o) φ := by
  have hf : F p = none := Same.free e h
  refine ⟨Same.new hf, fun a u q => ?_, fun a u q _ => Same.new h a u q, fun a u q _ f => ?_, fun a u z q => z⟩
  · by_cases ha : a = p
    · subst ha; rw [upd_same] at q ⊢; exact q
    · rw [upd_ne ha] at q ⊢; exact e a u q
  · rw [upd_ne (ne_of_none q h)]; exact f
theorem s_tupE {a : E} {es : List Expr} {k : Nat} {pos : Pos} (ha : PA X es (tA X.K C Z a)) : PE X (.Tuple es k pos) (tV X.K C Z (.tupE a)) := by
  refine PE.mono (pe_tup ha) fun σ H Q ⟨F, ρ, φ, z, h⟩ => ?_
  refine ⟨F, ρ, φ, z, ?_⟩
  simp only [evE] at h
  rcases h.toE with ⟨as, ρ1, h1, h⟩ | ⟨x, ρ', h1, h⟩
  · rw [h1]
    intro vs F1 H1 φt φ1 x1 t tr s n
    obtain ⟨ds, h2, hl, h⟩ := mkL_post h
    obtain ⟨l, c⟩ := t.frozen s.le (fun _ q => q) h2
    refine ⟨by rw [l, fzs_length]; exact hl, fun p np => ?_⟩
    have x2 : Ext F1 H1 (uni φt φ1) (frz F1 H1 φt) H1 φ1 := Ext.freeze s.le (fun a q => .inl q) fun a q => .inr q
    obtain ⟨s2, n2⟩ := s.past (χ' := em) (Ext.freeze (ψ := φt) (φ' := em) s.le (fun a q => q) fun a q => q.elim) n.symm
    have x3 : Ext (frz F1 H1 φt) H1 φ1 (upd (frz F1 H1 φt) p (.tup vs)) (upd H1 p (.tup vs)) φ1 := Ext.newF (frz_le s.le) np
    obtain ⟨s3, n3⟩ := s2.past (Ext.newF (φ := em) (o := .tup vs) (frz_le s.le) np) dsj_em
    refine h (.ref p) _ _ em φ1 (((x1.trans x2).trans x3).sub fun a q => q.elim (fun q => q.elim) id) ⟨?_, fun a q => q.elim⟩ s3 (fun _ a q w => q.elim) fun w => by cases w
    exact .tup0 (.inl (.inl upd_same)) l (fun i v d hv hd => (c H1 i v d hv hd).frozen (isFzs_at (fzs_isFz _) hd) (Same.new (Same.free (frz_le s.le) np)) _ _) (fzs_isFz _)
  · rw [h1]; exact h
end MV

set_option Elab.async false
set_option linter.all false
set_option maxRecDepth 100000
set_option autoImplicit false
set_option maxHeartbeats 1000000
/-! MV, part I: calls. -/
namespace MV
open PySem PySem.Spec PyProof.Rows L2
variable {X : Cx} {S : Sc} {C : Nat → List D → CR} {Z : ZW} {K : PySem.W.Frag} {F F' F2 H H' H2 : Hp} {φ φ' φ2 ψ χ χ' : AS} {v : V} {d r : D} {σ : L2.St} {ρ ρ' ρ2 : List D}

theorem back_len : ∀ (as : List (Option Nat × D)) (os ρ : List D), (back as os ρ).length = ρ.length
  | [], _, _ => by simp [back]
  | (none, _) :: r, [], ρ => by simp [back]
  | (some _, _) :: r, [], ρ => by simp [back]
  | (none, _) :: r, o :: os, ρ => by simp [back, back_len r os ρ]
  | (some i, _) :: r, o :: os, ρ => by simp [back, back_len r os (ρ.set i o)]
theorem back_set {i : Nat} {x : D} : ∀ {as : List (Option Nat × D)} {os ρ : List D}, i ∉ slotsOf as → back as os (ρ.set i x) = (back as os ρ).set i x
  | [], _, _, _ => by simp [back]
  | (none, _) :: r, [], ρ, _ => by simp [back]
  | (some _, _) :: r, [], ρ, _ => by simp [back]
  | (none, _) :: r, o :: os, ρ, h => by
    simp only [back]
    exact back_set (as := r) h
  | (some j, _) :: r, o :: os, ρ, h => by
    simp only [slotsOf, List.mem_cons, not_or] at h
    simp only [back]
    rw [List.set_comm _ _ h.1]
    exact back_set (as := r) h.2
theorem slot_set {i j : Nat} {x : D} (h : j ≠ i) : slot (ρ.set i x) j = slot ρ j := by
  unfold slot
  rw [List.getElem?_set_ne (Ne.symm h)]
theorem fill_set {i : Nat} {x : D} : ∀ {as : List (Option Nat × D)} {ρ : List D}, i ∉ slotsOf as → fill (ρ.set i x) as = fill ρ as
  | [], _, _ => rfl
  | (none, _) :: r, ρ, h => by
    simp only [fill]
    rw [fill_set (as := r) h]
  | (some j, _) :: r, ρ, h => by
    simp only [slotsOf, List.mem_cons, not_or] at h
    simp only [fill]
    rw [fill_set (as := r) h.2, slot_set (Ne.symm h.1)]
/-- the arguments are parted from the slots; how they come back -/
theorem Items.split {vs : List V} {as : List (Option Nat × D)} {φt : AS} (t : Items K F H σ vs as φt) : ∀ {ρ : List D} {φ : AS} {ds : List D}, Sep K F H σ ρ φ → dsj φt φ → (∀ a, φt a → ∃ o, H a = some o) → (slotsOf as).Nodup → fill ρ as = some ds →
    ∃ ρ0 φ0 φa, Sep K F H (vs.map some) ds φa ∧ Sep K F H σ ρ0 φ0 ∧ dsj φa φ0 ∧ (∀ a, φa a → φt a ∨ φ a) ∧ (∀ a, φ0 a → φ a) ∧
      ∀ F' H' os φ', Sep K F' H' (vs.map some) os φ' → Sep K F' H' σ ρ0 φ0 → dsj φ' φ0 → ∃ φ'', Sep K F' H' σ (back as os ρ) φ'' ∧ ∀ a, φ'' a → φ' a ∨ φ0 a := by
  induction t with
  | nil =>
    intro ρ φ ds z _ _ _ hf
    cases hf
    exact ⟨ρ, φ, em, Sep.nil z.le, z, em_dsj, fun _ q => q.elim, fun _ q => q, fun F' H' os φ' _ w _ => ⟨φ, by simpa [back] using w, fun _ q => .inr q⟩⟩
  | tmp t _ n s1 s2 ih =>
    rename_i v d vs as φ1 φ2 φt' _
    intro ρ φ ds z nd tr nod hf
    obtain ⟨es, hf', rfl⟩ := Option.map_eq_some_iff.mp hf
    obtain ⟨ρ0, φ0, φa, a1, a2, a3, a4, a5, a6⟩ := ih z (fun a p => nd a (s2 a p)) (fun a p => tr a (s2 a p)) nod hf'
    have n1 : dsj φ1 φa := fun a p q => (a4 a q).elim (n a p) (nd a (s1 a p))
    refine ⟨ρ0, φ0, uni φ1 φa, Sep.cons t a1 n1, a2, fun a p q => p.elim (fun p => nd a (s1 a p) (a5 a q)) fun p => a3 a p q, fun a p => p.elim (fun p => .inl (s1 a p)) fun p => (a4 a p).elim (fun p => .inl (s2 a p)) .inr, a5, fun F' H' os φ' w1 w2 w3 => ?_⟩
    cases os with
    | nil => have := w1.len; simp at this
    | cons o os =>
      obtain ⟨φ3, φ4, b1, b2, b3, b4, b5⟩ := Sep.uncons w1
      obtain ⟨φ'', c1, c2⟩ := a6 F' H' os φ4 b1 w2 fun a p q => w3 a (b5 a p) q
      exact ⟨φ'', by simpa [back] using c1, fun a p => (c2 a p).elim (fun p => .inl (b5 a p)) .inr⟩
  | slot h _ ih =>
    rename_i i v d0 vs as φt' _
    intro ρ φ ds z nd tr nod hf
    simp only [slotsOf, List.nodup_cons] at nod
    simp only [fill] at hf
    split at hf
    · rename_i d hd
      obtain ⟨es, hf', rfl⟩ := Option.map_eq_some_iff.mp hf
      obtain ⟨hd, nu⟩ := slot_some hd
      obtain ⟨v', φ1, φ2, e1, e2, e3, e4, e5, e6⟩ := z.take hd nu
      rw [h] at e1
      cases e1
      obtain ⟨ρ0, φ0, φa, a1, a2, a3, a4, a5, a6⟩ := ih e3 (fun a p q => nd a p (e6 a q)) tr nod.2 ((fill_set nod.1).trans hf')
      have n1 : dsj φ1 φa := fun a p q => (a4 a q).elim (fun q => nd a q (e5 a p)) (e4 a p)
      refine ⟨ρ0, φ0, uni φ1 φa, Sep.cons e2 a1 n1, a2, fun a p q => p.elim (fun p => e4 a p (a5 a q)) fun p => a3 a p q, fun a p => p.elim (fun p => .inr (e5 a p)) fun p => (a4 a p).elim .inl fun p => .inr (e6 a p), fun a p => e6 a (a5 a p), fun F' H' os φ' w1 w2 w3 => ?_⟩
      cases os with
      | nil => have := w1.len; simp at this
      | cons o os =>
        obtain ⟨φ3, φ4, b1, b2, b3, b4, b5⟩ := Sep.uncons w1
        obtain ⟨φ'', c1, c2⟩ := a6 F' H' os φ4 b1 w2 fun a p q => w3 a (b5 a p) q
        simp only [back]
        rw [back_set nod.1] at c1 ⊢
        by_cases ou : o = .un
        · subst ou
          exact ⟨φ'', c1, fun a p => (c2 a p).elim (fun p => .inl (b5 a p)) .inr⟩
        · obtain ⟨v', e, t⟩ := b2 ou
          cases e
          have c3 := c1.put t (fun a p q => (c2 a q).elim (b3 a p) (w3 a (b4 a p))) i
          rw [set_self h, set_set] at c3
          exact ⟨uni φ3 φ'', c3, fun a p => p.elim (fun p => .inl (b4 a p)) fun p => (c2 a p).elim (fun p => .inl (b5 a p)) .inr⟩
    · cases hf

/-- what a call of the def f promises -/
def spC (K : PySem.W.Frag) (C : Nat → List D → CR) (ZC : Hp → Hp → List V → AS → D → List D → Prop) (f : Nat) (vs : List V) (H : Hp) (Q : VK) : Prop := ∃ F ds φ, Sep K F H (vs.map some) ds φ ∧ match C f ds with
  | .ok d os => ∀ v F' H' φd φ', Ext F H φ F' H' (uni φd φ') → Tm K F' H' v d φd → Sep K F' H' (vs.map some) os φ' → dsj φd φ' → Q v H'
  | .exc x os => ZC F H vs φ x os
  | .bad => False
/-- an exception of a callee is one of the caller's -/
def Zcall (K : PySem.W.Frag) (Z : ZW) (ZC : Hp → Hp → List V → AS → D → List D → Prop) : Prop :=
  ∀ F H σ ρ φ vs as φt ds x os, Sep K F H σ ρ φ → Items K F H σ vs as φt → dsj φt φ → (∀ a, φt a → ∃ o, H a = some o) → (slotsOf as).Nodup → fill ρ as = some ds → ∀ φa, Sep K F H (vs.map some) ds φa → (∀ a, φa a → φt a ∨ φ a) → Z F H σ φ x (back as os ρ) → ZC F H vs φa x os
structure CallOk (X : Cx) (C : Nat → List D → CR) (Z : ZW) (f : Nat) (x : Str) : Prop where
  ex : ∃ a, X.mg x = some (.ref a) ∧ PySem.W.keepIn X.K (.ref a) = true ∧ ∃ ZC, Zcall X.K Z ZC ∧ ∀ (pins : List (Addr × Obj)) (s : Shared) (σ : L2.St) (H : Hp) (us : List Value) (vs : List V) (Q : VK), Inv X pins σ H s → Vals vs us → spC X.K C ZC f vs H Q →
    wpAny (model X.prog X.w) X.A (call (.ref a) us) (EP X pins σ Q) X.xe s
theorem callV (hZ : Zok Z) {ZC : Hp → Hp → List V → AS → D → List D → Prop} (hc : Zcall K Z ZC) {f : Nat} {a : E} {Q : VK} (h : tV K C Z (.call f a) σ H Q) : tA K C Z a σ H fun vs H1 => spC K C ZC f vs H1 Q := by
  obtain ⟨F, ρ, φ, z, h⟩ := h
  refine ⟨F, ρ, φ, z, ?_⟩
  simp only [evE] at h
  rcases h.toE with ⟨as, ρ1, h1, h⟩ | ⟨x, ρ', h1, h⟩
  · rw [h1]
    intro vs F1 H1 φt φ1 x1 t tr s n
    split at h
    · rename_i nod
      cases hf : fill ρ1 as with
      | none => rw [hf] at h; exact False.elim h
      | some ds =>
        rw [hf] at h
        obtain ⟨ρ0, φ0, φa, a1, a2, a3, a4, a5, a6⟩ := t.split s n tr nod hf
        refine ⟨F1, ds, φa, a1, ?_⟩
        cases hcf : C f ds with
        | ok d os =>
          intro v F' H' φd φ' x2 t2 s2 n2
          have h' : EPost K Z false F H σ φ (.ok d (back as os ρ1)) Q := by
            have := h
            simp only [onR, hcf, backC] at this
            exact this
          obtain ⟨b1, b2⟩ := a2.past x2 a3.symm
          obtain ⟨φ'', c1, c2⟩ := a6 F' H' os φ' s2 b1 fun a p q => b2 a q (.inr p)
          refine h' v F' H' φd φ'' ?_ t2 c1 (fun _ a p q => (c2 a q).elim (n2 a p) fun q => b2 a q (.inl p)) fun w => by cases w
          have x3 : Ext F1 H1 (uni φt φ1) F' H' (uni (uni φd φ') φ0) := ⟨x2.f, x2.le, fun a o q w => x2.k a o q fun z => w (a4 a z), fun a o q w => x2.n a o q fun z => w (a4 a z), fun a o z q => z.elim (fun z => a4 a (x2.s a o z q)) fun z => .inr (a5 a z)⟩
          exact (x1.trans x3).sub fun a q => q.elim (fun q => .inl (.inl q)) fun q => (c2 a q).elim (fun q => .inl (.inr q)) .inr
        | exc x os =>
          have h' : Z F H σ φ x (back as os ρ1) := by
            have := h
            simp only [onR, hcf, backC] at this
            exact this
          exact hc F1 H1 σ ρ1 φ1 vs as φt ds x os s t n tr nod hf φa a1 a4 (hZ _ _ _ _ _ _ _ _ _ x1.mine h')
        | bad =>
          have := h
          simp only [onR, hcf, backC] at this
          exact False.elim this
    · exact False.elim h
  · rw [h1]; exact h
theorem s_call (hZ : Zok Z) (G : Good X S) {f : Nat} {x : Str} (hc : CallOk X C Z f x) (hg : S.gl x = true) {a : E} {e : Expr} {es : List Expr} {p pos : Pos} (ha : PA X (e :: es) (tA X.K C Z a)) (hs : (e :: es).all noStar = true) :
    PE X (.Call (.Name x p) (e :: es) [] pos) (tV X.K C Z (.call f a)) := by
  obtain ⟨ad, h1, h2, ZC, h3, h4⟩ := hc.ex
  obtain ⟨g1, g2⟩ := gl_of G hg
  simp only [List.all_cons, Bool.and_eq_true] at hs
  refine ⟨fun pins s σ H Q I h => ?_⟩
  refine wpAny_Call_Name_kw (ld_glob I g1 h1 ?_ g2)
  exact PySem.W.callWith_K (h₀ := X.base) I.ok.mod.kin h2 (thn (ha.run pos pins s σ H _ I (callV hZ h3 h)) fun us s1 ⟨vs, H1, I1, r1, q1⟩ => ⟨I1.kIn, h4 pins s1 σ H1 us vs Q I1 r1 q1⟩) (star_of hs.1 X.env) (stars_of X.env pos hs.2)
theorem s_call0 (hZ : Zok Z) (G : Good X S) {f : Nat} {x : Str} (hc : CallOk X C Z f x) (hg : S.gl x = true) {p pos : Pos} :
    PE X (.Call (.Name x p) [] [] pos) (tV X.K C Z (.call f .nil)) := by
  obtain ⟨ad, h1, h2, ZC, h3, h4⟩ := hc.ex
  obtain ⟨g1, g2⟩ := gl_of G hg
  refine ⟨fun pins s σ H Q I h => ?_⟩
  refine wpAny_Call_Name_kw (ld_glob I g1 h1 ?_ g2)
  refine PySem.W.callWith_K0 I.kIn h2 ?_
  obtain ⟨F, ρ, φ, z, hh⟩ := callV hZ h3 h
  simp only [evA] at hh
  exact h4 pins s σ H [] [] Q I .nil (hh [] F H em φ ((Ext.refl z.le).sub fun a q => q.elim (fun z => z.elim) id) .nil (fun _ z => z.elim) z em_dsj)
end MV

set_option Elab.async false
set_option linter.all false
set_option maxRecDepth 100000
set_option autoImplicit false
set_option maxHeartbeats 1000000
/-! MV, part J: what is walked; targets. -/
namespace MV
open PySem PySem.Spec PyProof.Rows L2
variable {X : Cx} {S : Sc} {C : Nat → List D → CR} {Z : ZW} {K : PySem.W.Frag} {F F' F2 H H' H2 : Hp} {φ φ' φ2 ψ χ χ' : AS} {v : V} {d r : D} {σ : L2.St} {ρ ρ' ρ2 : List D}

/-- the walk yields the data ds, whatever else changes -/
def WalkOk (K : PySem.W.Frag) (F : Hp) (J : It) (ds : List D) : Prop := ∀ F1 H1 (i : Nat), Same F F1 → Same F1 H1 →
  (∀ d, ds[i]? = some d → J.go i H1 ∧ ∀ x H2, J.yld i H1 x H2 → ∃ F2, (∀ φ, Ext F1 H1 φ F2 H2 φ) ∧ Ow K F2 H2 x d em) ∧ (ds.length ≤ i → J.stop i H1)
def LPost (K : PySem.W.Frag) (Z : ZW) (F H : Hp) (σ : L2.St) (φ : AS) (r : LR) (R : It → Hp → Prop) : Prop := match r with
  | .ok ds ρ' => ∀ J F' H' φ', Ext F H φ F' H' φ' → Sep K F' H' σ ρ' φ' → isFzs ds = true → WalkOk K F' J ds → R J H'
  | .exc x ρ' => Z F H σ φ x ρ'
  | .bad => False
def tI (K : PySem.W.Frag) (C : Nat → List D → CR) (Z : ZW) (e : E) : TI := fun σ H R => ∃ F ρ φ, Sep K F H σ ρ φ ∧ LPost K Z F H σ φ (evI C e ρ) R
theorem LPost.toL {R : It → Hp → Prop} {r : ER} {f : D → List D → LR} (h : LPost K Z F H σ φ (r.toL f) R) : (∃ d ρ, r = .ok d ρ ∧ LPost K Z F H σ φ (f d ρ) R) ∨ (∃ x ρ, r = .exc x ρ ∧ Z F H σ φ x ρ) := by
  cases r with
  | ok d ρ => exact .inl ⟨d, ρ, rfl, h⟩
  | exc x ρ => exact .inr ⟨x, ρ, rfl, h⟩
  | bad => exact False.elim h
theorem LPost.step {R : It → Hp → Prop} {r : LR} (hZ : Zok Z) (h : LPost K Z F H σ φ r R) (x : Ext F H φ F' H' φ') : LPost K Z F' H' σ φ' r R := by
  cases r with
  | ok d ρ' => exact fun J F2 H2 φ2 y s z n => h J F2 H2 φ2 (x.trans y) s z n
  | exc e ρ' => exact hZ _ _ _ _ _ _ _ _ _ x h
  | bad => exact h
theorem PI.mono {tg iter : Expr} {t t' : TI} (h : PI X tg iter t) (w : ∀ σ H R, t' σ H R → t σ H R) : PI X tg iter t' := ⟨fun pins s σ H R I q => h.run pins s σ H R I (w σ H R q)⟩

theorem walk_list {a : Addr} {vs : List V} {ds : List D} (h : F a = some (.lst vs)) (l : vs.length = ds.length) (c : ∀ (i : Nat) (v : V) (d : D), vs[i]? = some v → ds[i]? = some d → Ow K F H v d em) (z : isFzs ds = true) : WalkOk K F (Itl K a) ds := by
  intro F1 H1 i e1 e2
  have hs : SqL K H1 a vs := .of (e2 _ _ (e1 _ _ h))
  refine ⟨fun d hd => ?_, fun hl => ⟨vs, hs, by omega⟩⟩
  have hi : i < vs.length := by rw [l]; exact (List.getElem?_eq_some_iff.mp hd).1
  have hv : vs[i]? = some vs[i] := List.getElem?_eq_getElem hi
  refine ⟨⟨vs, vs[i], hs, hv⟩, fun x H2 ⟨e, y⟩ => ?_⟩
  subst e
  have e3 : vs[i]? = some x := y vs hs
  rw [hv] at e3
  cases e3
  exact ⟨F1, fun φ => Ext.refl e2, (c i _ d hv hd).frozen (isFzs_at z hd) e1 _ _⟩
theorem walk_tuple {a : Addr} {vs : List V} {ds : List D} (h : SqT K F a vs) (l : vs.length = ds.length) (c : ∀ (i : Nat) (v : V) (d : D), vs[i]? = some v → ds[i]? = some d → Ow K F H v d em) (z : isFzs ds = true) : WalkOk K F (Itt K a) ds := by
  intro F1 H1 i e1 e2
  have hs : SqT K H1 a vs := SqT.mono (e1.trans e2) h
  refine ⟨fun d hd => ?_, fun hl => ⟨vs, hs, by omega⟩⟩
  have hi : i < vs.length := by rw [l]; exact (List.getElem?_eq_some_iff.mp hd).1
  have hv : vs[i]? = some vs[i] := List.getElem?_eq_getElem hi
  refine ⟨⟨vs, vs[i], hs, hv⟩, fun x H2 ⟨e, y⟩ => ?_⟩
  subst e
  have e3 : vs[i]? = some x := y vs hs
  rw [hv] at e3
  cases e3
  exact ⟨F1, fun φ => Ext.refl e2, (c i _ d hv hd).frozen (isFzs_at z hd) e1 _ _⟩
theorem walk_rng {lo : Int} {n : Nat} : WalkOk K F (Itr lo n) (rngF lo n) := by
  intro F1 H1 i e1 e2
  refine ⟨fun d hd => ?_, fun hl => by
    show n ≤ i
    simpa [rngF] using hl⟩
  unfold rngF at hd
  rw [List.getElem?_map] at hd
  obtain ⟨j, h1, rfl⟩ := Option.map_eq_some_iff.mp hd
  obtain ⟨h2, h3⟩ := List.getElem?_eq_some_iff.mp h1
  have hi : i < n := by simpa using h2
  have hj : j = i := by simpa using h3.symm
  subst hj
  refine ⟨hi, fun x H2 ⟨e, y⟩ => ?_⟩
  subst e y
  exact ⟨F1, fun φ => Ext.refl e2, .int _⟩
theorem rngF_fz {lo : Int} {n : Nat} : isFzs (rngF lo n) = true := isFzs_of fun i d hd => by
  unfold rngF at hd
  rw [List.getElem?_map] at hd
  obtain ⟨j, h1, rfl⟩ := Option.map_eq_some_iff.mp hd
  rfl
theorem enumF_at : ∀ {ds : List D} {n i : Nat} {d : D}, (enumF n ds)[i]? = some d → ∃ e, ds[i]? = some e ∧ d = .tup false [.int ((n + i : Nat) : Int), e]
  | [], n, i, d, h => by simp [enumF] at h
  | e :: r, n, 0, d, h => by
    simp [enumF] at h
    exact ⟨e, rfl, by rw [← h]; simp⟩
  | e :: r, n, i + 1, d, h => by
    simp only [enumF, List.getElem?_cons_succ] at h
    obtain ⟨e', h1, h2⟩ := enumF_at (ds := r) h
    exact ⟨e', h1, by rw [h2]; congr 4; omega⟩
theorem enumF_len : ∀ {ds : List D} {n : Nat}, (enumF n ds).length = ds.length
  | [], n => rfl
  | e :: r, n => by simp [enumF, enumF_len (ds := r)]
theorem enumF_fz {ds : List D} {n : Nat} (z : isFzs ds = true) : isFzs (enumF n ds) = true := isFzs_of fun i d hd => by
  obtain ⟨e, h1, rfl⟩ := enumF_at hd
  simp [D.isFz, isFzs, isFzs_at z h1]
/-- a new frozen pair -/
theorem pair_new {T : Addr} {x y : V} {d e : D} (le : Same F H) (n : H T = none) (hx : Ow K F H x d em) (hy : Ow K F H y e em) (zd : d.isFz = true) (ze : e.isFz = true) :
    ∃ F2, (∀ φ, Ext F H φ F2 (upd H T (.tup [x, y])) φ) ∧ Ow K F2 (upd H T (.tup [x, y])) (.ref T) (.tup false [d, e]) em := by
  refine ⟨upd F T (.tup [x, y]), fun φ => Ext.newF le n, .tup0 (.inl (.inl upd_same)) rfl (fun i v d' hv hd => ?_) (by simp [isFzs, zd, ze])⟩
  have sm : Same F (upd F T (.tup [x, y])) := Same.new (Same.free le n)
  match i with
  | 0 => cases (Option.some.inj hv); cases (Option.some.inj hd); exact hx.frozen zd sm _ _
  | 1 => cases (Option.some.inj hv); cases (Option.some.inj hd); exact hy.frozen ze sm _ _
  | i + 2 => simp at hv
theorem walk_enum {a : Addr} {vs : List V} {ds : List D} (h : F a = some (.lst vs)) (l : vs.length = ds.length) (c : ∀ (i : Nat) (v : V) (d : D), vs[i]? = some v → ds[i]? = some d → Ow K F H v d em) (z : isFzs ds = true) : WalkOk K F (Ite K a) (enumF 0 ds) := by
  intro F1 H1 i e1 e2
  have hs : SqL K H1 a vs := .of (e2 _ _ (e1 _ _ h))
  refine ⟨fun d hd => ?_, fun hl => ⟨vs, hs, by rw [enumF_len] at hl; omega⟩⟩
  obtain ⟨e, h1, rfl⟩ := enumF_at hd
  have hi : i < vs.length := by rw [l]; exact (List.getElem?_eq_some_iff.mp h1).1
  have hv : vs[i]? = some vs[i] := List.getElem?_eq_getElem hi
  refine ⟨⟨vs, vs[i], hs, hv⟩, fun x H2 ⟨T, u, q1, q2, q3, q4⟩ => ?_⟩
  subst q1 q3
  have e3 : vs[i]? = some u := q4 vs hs
  rw [hv] at e3
  cases e3
  have : ((0 + i : Nat) : Int) = (i : Int) := by simp
  rw [this]
  exact pair_new e2 q2 (.int _) ((c i _ e hv h1).frozen (isFzs_at z h1) e1 _ _) rfl (isFzs_at z h1)
theorem zipF_at : ∀ {xs ys : List D} {i : Nat} {d : D}, (zipF xs ys)[i]? = some d → ∃ x y, xs[i]? = some x ∧ ys[i]? = some y ∧ d = .tup false [x, y]
  | [], _, i, d, h => by simp [zipF] at h
  | _ :: _, [], i, d, h => by simp [zipF] at h
  | x :: xs, y :: ys, 0, d, h => by
    simp [zipF] at h
    exact ⟨x, y, rfl, rfl, h.symm⟩
  | x :: xs, y :: ys, i + 1, d, h => zipF_at (xs := xs) (ys := ys) (by simpa [zipF] using h)
theorem zipF_len : ∀ {xs ys : List D}, (zipF xs ys).length = min xs.length ys.length
  | [], _ => by simp [zipF]
  | _ :: _, [] => by simp [zipF]
  | x :: xs, y :: ys => by simp [zipF, zipF_len (xs := xs)]
theorem zipF_fz {xs ys : List D} (z : isFzs xs = true) (z' : isFzs ys = true) : isFzs (zipF xs ys) = true := isFzs_of fun i d hd => by
  obtain ⟨x, y, h1, h2, rfl⟩ := zipF_at hd
  simp [D.isFz, isFzs, isFzs_at z h1, isFzs_at z' h2]
theorem walk_zip {a b : Addr} {vs ws : List V} {ds es : List D} (h : F a = some (.lst vs)) (l : vs.length = ds.length) (c : ∀ (i : Nat) (v : V) (d : D), vs[i]? = some v → ds[i]? = some d → Ow K F H v d em) (z : isFzs ds = true)
    (h' : F b = some (.lst ws)) (l' : ws.length = es.length) (c' : ∀ (i : Nat) (v : V) (d : D), ws[i]? = some v → es[i]? = some d → Ow K F H v d em) (z' : isFzs es = true) : WalkOk K F (Itz K a b) (zipF ds es) := by
  intro F1 H1 i e1 e2
  have hs : SqL K H1 a vs := .of (e2 _ _ (e1 _ _ h))
  have hs' : SqL K H1 b ws := .of (e2 _ _ (e1 _ _ h'))
  refine ⟨fun d hd => ?_, fun hl => ⟨vs, ws, hs, hs', by rw [zipF_len] at hl; omega⟩⟩
  obtain ⟨x, y, h1, h2, rfl⟩ := zipF_at hd
  have hi : i < vs.length := by rw [l]; exact (List.getElem?_eq_some_iff.mp h1).1
  have hj : i < ws.length := by rw [l']; exact (List.getElem?_eq_some_iff.mp h2).1
  have hv : vs[i]? = some vs[i] := List.getElem?_eq_getElem hi
  have hw : ws[i]? = some ws[i] := List.getElem?_eq_getElem hj
  refine ⟨⟨vs, ws, vs[i], ws[i], hs, hs', hv, hw⟩, fun u H2 ⟨T, p, q, q1, q2, q3, q4, q5⟩ => ?_⟩
  subst q1 q3
  have e3 : vs[i]? = some p := q4 vs hs
  have e4 : ws[i]? = some q := q5 ws hs'
  rw [hv] at e3
  rw [hw] at e4
  cases e3
  cases e4
  exact pair_new e2 q2 ((c i _ x hv h1).frozen (isFzs_at z h1) e1 _ _) ((c' i _ y hw h2).frozen (isFzs_at z' h2) e1 _ _) (isFzs_at z h1) (isFzs_at z' h2)

/-- a list or a tuple that is walked -/
def iAny (K : PySem.W.Frag) (te : TE) : TI := fun σ H R => te σ H fun x H1 => ∃ a, x = .ref a ∧ ((∃ xs, SqL K H1 a xs ∧ R (Itl K a) H1) ∨ ∃ xs, SqT K H1 a xs ∧ R (Itt K a) H1)
theorem pi_any {tg e : Expr} {te : TE} (he : PE X e te) : PI X tg e (iAny X.K te) := by
  refine ⟨fun pins s σ H R I h => thn (he.run pins s σ H _ I h) fun v s1 ⟨x, H1, I1, r1, a, ex, q1⟩ => ?_⟩
  subst ex
  cases r1
  rcases q1 with ⟨xs, hq, q⟩ | ⟨xs, hq, q⟩
  · obtain ⟨its, rv, p, hz⟩ := I1.list hq
    exact wpAny_pyIter_list p.isList (pi_one (tk := s1.toks) I1 _ (turn_list a _) ⟨_, Heap.get?_push_size _ rfl, rfl, rfl⟩ q)
  · obtain ⟨its, rv, p, hz⟩ := I1.tuple hq
    exact wpAny_pyIter_tuple (show s1.heap.IsTuple a its.toArray from p) (pi_one (tk := s1.toks) I1 _ (turn_tuple a _) ⟨_, Heap.get?_push_size _ rfl, rfl, rfl⟩ q)

/-- a kept value, frozen -/
theorem tm_frz (t : Tm K F H v d ψ) (le : Same F H) (s : Sep K F H σ ρ φ) (n : dsj ψ φ) : Ext F H (uni ψ φ) (frz F H ψ) H φ ∧ Ow K (frz F H ψ) H v d.fz em ∧ Sep K (frz F H ψ) H σ ρ φ := by
  refine ⟨Ext.freeze le (fun a q => .inl q) fun a q => .inr q, t.ow.freeze le (fun _ q => q) _ _, ?_⟩
  exact (s.past (χ' := em) (Ext.freeze (ψ := ψ) (φ' := em) le (fun a q => q) fun a q => q.elim) n.symm).1

theorem s_it (hZ : Zok Z) {tg e : Expr} {ie : E} (he : PE X e (tV X.K C Z ie)) (hi : ∀ ρ, evI C ie ρ = (own ie (evE C ie ρ)).toL itemsR) : PI X tg e (tI X.K C Z ie) := by
  refine PI.mono (pi_any (pe_own he)) fun σ H R ⟨F, ρ, φ, z, h⟩ => ⟨F, ρ, φ, z, ?_⟩
  rw [hi] at h
  rcases h.toL with ⟨d, ρ1, h1, h⟩ | ⟨x, ρ', h1, h⟩
  · rw [h1]
    intro v F1 H1 φd φ1 x1 t s n
    obtain ⟨y1, y2, y3⟩ := tm_frz t s.le s n
    unfold itemsR itemsF at h
    split at h
    · rename_i ds hd
      split at hd
      · rename_i o xs hf
        cases hd
        rw [hf] at y2
        cases y2 with
        | lst0 a l c zz => exact ⟨_, rfl, .inl ⟨_, .of (y3.le _ _ a), h _ _ _ _ (x1.trans y1) y3 zz (walk_list a l c zz)⟩⟩
        | lst1 _ _ _ q => exact q.elim
      · rename_i o xs hf
        cases hd
        rw [hf] at y2
        cases y2 with
        | tup0 a l c zz => exact ⟨_, rfl, .inr ⟨_, SqT.mono y3.le a, h _ _ _ _ (x1.trans y1) y3 zz (walk_tuple a l c zz)⟩⟩
        | tup1 _ _ _ q => exact q.elim
      · cases hd
    · exact False.elim h
  · rw [h1]; exact h
theorem rngR_post {x y : D} {R : It → Hp → Prop} (h : LPost K Z F H σ φ (rngR x y ρ) R) : ∃ i j, x = .int i ∧ y = .int j ∧ (-(2 ^ 62) ≤ i ∧ i < 2 ^ 62 ∧ -(2 ^ 62) ≤ j ∧ j < 2 ^ 62) ∧ LPost K Z F H σ φ (.ok (rngF i (j - i).toNat) ρ) R := by
  cases x <;> first | exact False.elim h | skip
  cases y <;> first | exact False.elim h | skip
  rename_i i j
  have h' : LPost K Z F H σ φ (if -(2 ^ 62) ≤ i ∧ i < 2 ^ 62 ∧ -(2 ^ 62) ≤ j ∧ j < 2 ^ 62 then .ok (rngF i (j - i).toNat) ρ else .bad) R := h
  split at h'
  · rename_i hc
    exact ⟨i, j, rfl, rfl, hc, h'⟩
  · exact False.elim h'
theorem s_rng2 (hZ : Zok Z) (G : Good X S) {tg a b : Expr} {ia ib : E} {p pos : Pos} (hb' : S.bi "range" = true) (ha : PE X a (tV X.K C Z ia)) (hb : PE X b (tV X.K C Z ib)) (n1 : noStar a = true) (n2 : noStar b = true) :
    PI X tg (.Call (.Name "range" p) [a, b] [] pos) (tI X.K C Z (.rng ia ib)) := by
  obtain ⟨g1, g2, g3, g4⟩ := bi_of G hb'
  refine PI.mono (pi_range2 g1 g2 (pa_cons (pe_own ha) (pa_cons (pe_own hb) pa_nil (star_of n2 X.env)) (star_of n1 X.env)) (by rw [star_of n1, star_of n2]; rfl) (by rw [star_of n2]; rfl)) fun σ H R ⟨F, ρ, φ, z, h⟩ => ⟨F, ρ, φ, z, ?_⟩
  simp only [evI] at h
  rcases h.toL with ⟨d, ρ1, h1, h⟩ | ⟨x, ρ', h1, h⟩
  · rw [h1]
    intro v F1 H1 φd φ1 x1 t s n
    refine ⟨F1, ρ1, φ1, s, ?_⟩
    rcases h.toL with ⟨d2, ρ2, h2, h⟩ | ⟨x, ρ', h2, h⟩
    · rw [h2]
      intro v2 F2 H2 φ2 φ2' x2 t2 s2 n2'
      obtain ⟨i, j, rfl, rfl, hc, h⟩ := rngR_post h
      cases t.ow
      cases t2.ow
      exact ⟨i, j, rfl, hc, h _ _ _ _ (x1.mine.trans x2.mine) s2 rngF_fz walk_rng⟩
    · rw [h2]; exact hZ _ _ _ _ _ _ _ _ _ x1.mine h
  · rw [h1]; exact h
theorem evI_rng0 {ib : E} (ρ : List D) : evI C (.rng (.p (.lit (.int 0))) ib) ρ = (own ib (evE C ib ρ)).toL fun y ρ2 => rngR (.int 0) y ρ2 := by
  have e : own (E.p (P.lit (D.int 0))) (evE C (E.p (P.lit (D.int 0))) ρ) = .ok (.int 0) ρ := by
    simp only [evE, evP]
    rfl
  simp only [evI]
  rw [e]
  rfl
theorem s_rng1 (hZ : Zok Z) (G : Good X S) {tg b : Expr} {ib : E} {p pos : Pos} (hb' : S.bi "range" = true) (hb : PE X b (tV X.K C Z ib)) (n2 : noStar b = true) :
    PI X tg (.Call (.Name "range" p) [b] [] pos) (tI X.K C Z (.rng (.p (.lit (.int 0))) ib)) := by
  obtain ⟨g1, g2, g3, g4⟩ := bi_of G hb'
  refine PI.mono (pi_range1 g1 g2 (pa_cons (pe_own hb) pa_nil (star_of n2 X.env)) (by rw [star_of n2]; rfl)) fun σ H R ⟨F, ρ, φ, z, h⟩ => ⟨F, ρ, φ, z, ?_⟩
  rw [evI_rng0] at h
  rcases h.toL with ⟨d2, ρ2, h2, h⟩ | ⟨x, ρ', h2, h⟩
  · rw [h2]
    intro v2 F2 H2 φ2 φ2' x2 t2 s2 n2'
    obtain ⟨i, j, e, rfl, hc, h⟩ := rngR_post h
    cases e
    cases t2.ow
    refine ⟨j, rfl, hc.2.2.1, hc.2.2.2, ?_⟩
    have e0 : (j - 0).toNat = j.toNat := by rw [Int.sub_zero]
    rw [e0] at h
    exact h _ _ _ _ x2.mine s2 rngF_fz walk_rng
  · rw [h2]; exact h
theorem s_enm (hZ : Zok Z) (G : Good X S) {elts : List Expr} {kk : Nat} {tpos : Pos} {a : Expr} {ia : E} {p pos : Pos} (hb' : S.bi "enumerate" = true) (ha : PE X a (tV X.K C Z ia)) (n1 : noStar a = true) :
    PI X (.Tuple elts kk tpos) (.Call (.Name "enumerate" p) [a] [] pos) (tI X.K C Z (.enm ia)) := by
  obtain ⟨g1, g2, g3, g4⟩ := bi_of G hb'
  refine PI.mono (pi_enum g1 g2 (pa_cons (pe_own ha) pa_nil (star_of n1 X.env)) (by rw [star_of n1]; rfl)) fun σ H R ⟨F, ρ, φ, z, h⟩ => ⟨F, ρ, φ, z, ?_⟩
  simp only [evI] at h
  rcases h.toL with ⟨d, ρ1, h1, h⟩ | ⟨x, ρ', h1, h⟩
  · rw [h1]
    intro v F1 H1 φd φ1 x1 t s n
    obtain ⟨y1, y2, y3⟩ := tm_frz t s.le s n
    unfold enmR at h
    split at h
    · rename_i o xs hf
      rw [hf] at y2
      cases y2 with
      | lst0 a l c zz => exact ⟨_, _, rfl, .of (y3.le _ _ a), h _ _ _ _ (x1.trans y1) y3 (enumF_fz zz) (walk_enum a l c zz)⟩
      | lst1 _ _ _ q => exact q.elim
    · exact False.elim h
  · rw [h1]; exact h
theorem s_zp (hZ : Zok Z) (G : Good X S) {elts : List Expr} {kk : Nat} {tpos : Pos} {a b : Expr} {ia ib : E} {p pos : Pos} (hb' : S.bi "zip" = true) (ha : PE X a (tV X.K C Z ia)) (hb : PE X b (tV X.K C Z ib)) (n1 : noStar a = true) (n2 : noStar b = true) :
    PI X (.Tuple elts kk tpos) (.Call (.Name "zip" p) [a, b] [] pos) (tI X.K C Z (.zp ia ib)) := by
  obtain ⟨g1, g2, g3, g4⟩ := bi_of G hb'
  refine PI.mono (pi_zip g1 g2 (pa_cons (pe_own ha) (pa_cons (pe_own hb) pa_nil (star_of n2 X.env)) (star_of n1 X.env)) (by rw [star_of n1]) (by rw [star_of n2]; rfl)) fun σ H R ⟨F, ρ, φ, z, h⟩ => ⟨F, ρ, φ, z, ?_⟩
  simp only [evI] at h
  rcases h.toL with ⟨d, ρ1, h1, h⟩ | ⟨x, ρ', h1, h⟩
  · rw [h1]
    intro v F1 H1 φd φ1 x1 t s n
    refine ⟨F1, ρ1, φ1, s, ?_⟩
    rcases h.toL with ⟨d2, ρ2, h2, h⟩ | ⟨x, ρ', h2, h⟩
    · rw [h2]
      intro v2 F2 H2 φ2 φ2' x2 t2 s2 n2'
      obtain ⟨t', nt⟩ := t.past x2 n
      have t3 : Tm X.K F2 H2 v d φd := t'
      obtain ⟨y1, y2, y3⟩ := tm_frz t2 s2.le s2 n2'
      obtain ⟨t4, n4⟩ := t3.past (χ := φ2) (χ' := em) (Ext.freeze (ψ := φ2) (φ' := em) s2.le (fun a q => q) fun a q => q.elim) fun a p q => nt a p (.inl q)
      have n5 : dsj φd φ2' := fun a p q => nt a p (.inr q)
      obtain ⟨w1, w2, w3⟩ := tm_frz t4 y3.le y3 n5
      have w2' := y2.frozen (fz_isFz _) w1.f H2 em
      unfold zpR at h
      split at h
      · rename_i o xs o' ys hf hf'
        rw [hf] at w2
        rw [hf'] at w2'
        have big : Ext F H φ (frz (frz F2 H2 φ2) H2 φd) H2 φ2' := by
          have a1 := (x1.mine.trans x2).trans y1
          have a2 : Ext F H φ (frz F2 H2 φ2) H2 (uni φd φ2') := ⟨a1.f, a1.le, a1.k, a1.n, fun a o q w => q.elim (fun q => by
            obtain ⟨o1, e1⟩ := t.tr a q
            exact x1.s a o (.inl q) w) fun q => a1.s a o q w⟩
          exact a2.trans w1
        cases w2 with
        | lst0 a l c zz =>
          cases w2' with
          | lst0 a' l' c' zz' => exact ⟨_, _, _, _, rfl, .of (w3.le _ _ a), .of (w3.le _ _ a'), h _ _ _ _ big w3 (zipF_fz zz zz') (walk_zip a l c zz a' l' c' zz')⟩
          | lst1 _ _ _ q => exact q.elim
        | lst1 _ _ _ q => exact q.elim
      · exact False.elim h
    · rw [h2]; exact hZ _ _ _ _ _ _ _ _ _ x1.mine h
  · rw [h1]; exact h
end MV

set_option Elab.async false
set_option linter.all false
set_option maxRecDepth 100000
set_option autoImplicit false
set_option maxHeartbeats 1000000
/-! MV, part K: targets, comprehensions. -/
namespace MV
open PySem PySem.Spec PyProof.Rows L2
variable {X : Cx} {S : Sc} {C : Nat → List D → CR} {Z : ZW} {K : PySem.W.Frag} {F F' F2 H H' H2 : Hp} {φ φ' φ2 ψ χ χ' : AS} {v : V} {d r : D} {σ : L2.St} {ρ ρ' ρ2 : List D}

/-! ### targets -/
def tgts : T → List Nat
  | .sl i => [i]
  | .nil => []
  | .cons t r => tgts t ++ tgts r
  | .tup t => tgts t
mutual
def chkT (S : Sc) : T → Expr → Bool
  | .sl i, .Name x _ => S.loc i x
  | .tup t, .Tuple es _ _ => chkTs S t es
  | _, _ => false
def chkTs (S : Sc) : T → List Expr → Bool
  | .nil, [] => true
  | .cons t r, e :: es => chkT S t e && noStar e && chkTs S r es
  | _, _ => false
end
def tG (K : PySem.W.Frag) (t : T) : TG := fun v σ H Q => ∃ F ρ φ d φd, Sep K F H σ ρ φ ∧ Tm K F H v d φd ∧ dsj φd φ ∧ ∃ ρ', bindT t d ρ = some ρ' ∧
  ∀ σ' F' H' φ', Ext F H (uni φd φ) F' H' φ' → Sep K F' H' σ' ρ' φ' → (∀ j, j ∉ tgts t → σ'[j]? = σ[j]?) → σ'.length = σ.length → Q σ' H'
def tGs (K : PySem.W.Frag) (t : T) : TGs := fun vs σ H Q => ∃ F ρ φ ds, Sep K F H σ ρ φ ∧ vs.length = ds.length ∧ isFzs ds = true ∧ (∀ (i : Nat) (v : V) (d : D), vs[i]? = some v → ds[i]? = some d → Ow K F H v d em) ∧ ∃ ρ', bindT t (.tup false ds) ρ = some ρ' ∧
  ∀ σ' F' H' φ', Ext F H φ F' H' φ' → Sep K F' H' σ' ρ' φ' → (∀ j, j ∉ tgts t → σ'[j]? = σ[j]?) → σ'.length = σ.length → Q σ' H'
theorem PG.mono {e : Expr} {t t' : TG} (h : PG X e t) (w : ∀ v σ H Q, t' v σ H Q → t v σ H Q) : PG X e t' := ⟨fun pins s σ H v u Q I r q => h.run pins s σ H v u Q I r (w v σ H Q q)⟩
theorem PGs.mono {es : List Expr} {t t' : TGs} (h : PGs X es t) (w : ∀ v σ H Q, t' v σ H Q → t v σ H Q) : PGs X es t' := ⟨fun pins s σ H v u Q I r q => h.run pins s σ H v u Q I r (w v σ H Q q)⟩
theorem assignEach_cons {e : Expr} {es : List Expr} (h : noStar e = true) (env : Env) : assignEach (e :: es) env = (false, assign e env) :: assignEach es env := by
  cases e <;> first
    | rfl
    | exact absurd h Bool.false_ne_true
theorem chkTs_facts : ∀ {t : T} {es : List Expr}, chkTs S t es = true → ∀ env, (assignEach es env).length = es.length ∧ (assignEach es env).findIdx? (·.1) = none := by
  intro t
  induction t with
  | nil =>
    intro es h env
    cases es with
    | nil => exact ⟨rfl, rfl⟩
    | cons e es => exact absurd h Bool.false_ne_true
  | cons t r _ ih =>
    intro es h env
    cases es with
    | nil => exact absurd h Bool.false_ne_true
    | cons e es =>
      simp only [chkTs, Bool.and_eq_true] at h
      obtain ⟨h1, h2⟩ := ih h.2 env
      rw [assignEach_cons h.1.2]
      refine ⟨by simp [h1], ?_⟩
      rw [List.findIdx?_cons, h2]
      rfl
  | sl i => intro es h; cases es <;> exact absurd h Bool.false_ne_true
  | tup t => intro es h; cases es <;> exact absurd h Bool.false_ne_true
theorem bindT_len : ∀ {t : T} {es : List Expr} {o : Bool} {ds : List D} {ρ ρ' : List D}, chkTs S t es = true → bindT t (.tup o ds) ρ = some ρ' → ds.length = es.length := by
  intro t
  induction t with
  | nil =>
    intro es o ds ρ ρ' h q
    cases es with
    | nil =>
      cases ds with
      | nil => rfl
      | cons d ds => simp [bindT] at q
    | cons e es => exact absurd h Bool.false_ne_true
  | cons t r _ ih =>
    intro es o ds ρ ρ' h q
    cases es with
    | nil => exact absurd h Bool.false_ne_true
    | cons e es =>
      simp only [chkTs, Bool.and_eq_true] at h
      cases ds with
      | nil => simp [bindT] at q
      | cons d ds =>
        simp only [bindT] at q
        split at q
        · simp [ih h.2 q]
        · cases q
  | sl i => intro es o ds ρ ρ' h; cases es <;> exact absurd h Bool.false_ne_true
  | tup t => intro es o ds ρ ρ' h; cases es <;> exact absurd h Bool.false_ne_true
theorem s_T (G : Good X S) : ∀ t : T, (∀ e, chkT S t e = true → PG X e (tG X.K t)) ∧ (∀ es, chkTs S t es = true → PGs X es (tGs X.K t)) := by
  intro t
  induction t with
  | sl i =>
    refine ⟨fun e h => ?_, fun es h => by cases es <;> exact absurd h Bool.false_ne_true⟩
    cases e with
    | Name x pos =>
      obtain ⟨h1, h2, h3, h4⟩ := loc_of G (show S.loc i x = true from h)
      refine PG.mono (pg_name (by rw [G.N]; exact G.nd) h1 h2 h3) fun v σ H Q ⟨F, ρ, φ, d, φd, z, t, n, ρ', hb, q⟩ => ?_
      simp only [bindT] at hb
      split at hb
      · cases hb
        exact q _ F H _ (Ext.refl z.le) (z.put t n i) (fun j hj => List.getElem?_set_ne fun e => hj (by simp [tgts, e])) (by simp)
      · cases hb
    | _ => exact absurd h Bool.false_ne_true
  | nil =>
    refine ⟨fun e h => by cases e <;> exact absurd h Bool.false_ne_true, fun es h => ?_⟩
    cases es with
    | nil =>
      refine PGs.mono pgs_nil fun vs σ H Q ⟨F, ρ, φ, ds, z, l, zf, c, ρ', hb, q⟩ => ?_
      cases ds with
      | nil =>
        simp only [bindT] at hb
        cases hb
        exact ⟨List.length_eq_zero_iff.mp l, q σ F H φ (Ext.refl z.le) z (fun _ _ => rfl) rfl⟩
      | cons d ds => simp [bindT] at hb
    | cons e es => exact absurd h Bool.false_ne_true
  | cons t r iht ihr =>
    refine ⟨fun e h => by cases e <;> exact absurd h Bool.false_ne_true, fun es h => ?_⟩
    cases es with
    | nil => exact absurd h Bool.false_ne_true
    | cons e es =>
      simp only [chkTs, Bool.and_eq_true] at h
      refine PGs.mono (pgs_cons (iht.1 e h.1.1) (ihr.2 es h.2) (by rw [assignEach_cons h.1.2]; rfl)) fun vs σ H Q ⟨F, ρ, φ, ds, z, l, zf, c, ρ', hb, q⟩ => ?_
      cases ds with
      | nil => simp [bindT] at hb
      | cons d ds =>
        cases vs with
        | nil => cases l
        | cons v vs =>
          simp only [bindT] at hb
          split at hb
          · rename_i ρ1 h1
            simp only [isFzs, Bool.and_eq_true] at zf
            refine ⟨v, vs, rfl, F, ρ, φ, d, em, z, ⟨c 0 v d rfl rfl, fun _ w => w.elim⟩, em_dsj, ρ1, h1, fun σ1 F1 H1 φ1 x1 s1 k1 l1 => ?_⟩
            refine ⟨F1, ρ1, φ1, ds, s1, Nat.succ.inj l, zf.2, fun i v d hv hd => (c (i + 1) v d hv hd).frozen (isFzs_at zf.2 hd) x1.f _ _, ρ', hb, fun σ2 F2 H2 φ2 x2 s2 k2 l2 => ?_⟩
            refine q σ2 F2 H2 φ2 ((x1.sup (ψ := φ) fun a w => w.elim (fun w => w.elim) id).trans x2) s2 (fun j hj => ?_) (l2.trans l1)
            simp only [tgts, List.mem_append, not_or] at hj
            rw [k2 j hj.2, k1 j hj.1]
          · cases hb
  | tup t ih =>
    refine ⟨fun e h => ?_, fun es h => by cases es <;> exact absurd h Bool.false_ne_true⟩
    cases e with
    | Tuple es k pos =>
      have h' : chkTs S t es = true := h
      obtain ⟨f1, f2⟩ := chkTs_facts h' X.env
      refine PG.mono (pg_tup (n := es.length) G.calm (ih.2 es h') f1 f2) fun v σ H Q ⟨F, ρ, φ, d, φd, z, tm, n, ρ', hb, q⟩ => ?_
      simp only [bindT] at hb
      split at hb
      · rename_i o ds hf
        obtain ⟨y1, y2, y3⟩ := tm_frz tm z.le z n
        rw [hf] at y2
        cases y2 with
        | tup0 a l c zz =>
          exact ⟨_, _, rfl, SqT.mono y3.le a, l.trans (bindT_len h' hb), _, ρ, φ, ds, y3, l, zz, c, ρ', hb, fun σ' F' H' φ' x s k l => q σ' F' H' φ' (y1.trans x) s k l⟩
        | tup1 _ _ _ q => exact q.elim
      · cases hb
    | _ => exact absurd h Bool.false_ne_true

/-! ### comprehensions -/
theorem unS_len : ∀ (ow : List Nat) (ρ : List D), (unS ow ρ).length = ρ.length
  | [], _ => rfl
  | i :: r, ρ => by
    show (unS r (ρ.set i .un)).length = _
    rw [unS_len r]; simp
theorem unS_at : ∀ {ow : List Nat} {ρ : List D} {i : Nat} {d : D}, (unS ow ρ)[i]? = some d → d ≠ .un → i ∉ ow ∧ ρ[i]? = some d
  | [], ρ, i, d, h, _ => ⟨by simp, h⟩
  | j :: r, ρ, i, d, h, n => by
    obtain ⟨h1, h2⟩ := unS_at (ow := r) (ρ := ρ.set j .un) h n
    rcases set_at h2 with ⟨rfl, l, rfl⟩ | ⟨hj, h3⟩
    · exact absurd rfl n
    · exact ⟨by simp only [List.mem_cons, not_or]; exact ⟨hj, h1⟩, h3⟩
theorem Sep.wipe {ow : List Nat} (z : Sep K F H σ ρ φ) : Sep K F H (L2.wipe σ ow) (unS ow ρ) φ := by
  obtain ⟨ψ, h1, h2, h3⟩ := z.env
  refine ⟨z.le, by rw [wipe_length, unS_len]; exact z.len, z.tr, ψ, fun i d q n => ?_, h2, h3⟩
  obtain ⟨q1, q2⟩ := unS_at q n
  rw [wipe_out q1]
  exact h1 i d q2 n
theorem Sep.unwipe {ow : List Nat} (z : Sep K F H (L2.wipe σ ow) ρ φ) : Sep K F H σ ρ φ := by
  obtain ⟨ψ, h1, h2, h3⟩ := z.env
  refine ⟨z.le, by rw [← z.len, wipe_length], z.tr, ψ, fun i d q n => ?_, h2, h3⟩
  obtain ⟨v, e, o⟩ := h1 i d q n
  exact ⟨v, (wipe_some e).1, o⟩
theorem wipe_none {ow : List Nat} {i : Nat} (h : i ∈ ow) : (L2.wipe σ ow)[i]? = if i < σ.length then some none else none := by
  induction ow with
  | nil => simp at h
  | cons j r ih =>
    unfold L2.wipe
    by_cases e : j = i
    · subst e
      rw [List.getElem?_set, if_pos rfl, wipe_length]
    · rw [List.getElem?_set_ne e]
      exact ih (by rcases List.mem_cons.mp h with h | h; exact absurd h.symm e; exact h)
theorem wipe_eq {ow ts : List Nat} {σ' : L2.St} (hs : ∀ i ∈ ts, i ∈ ow) (k : ∀ j, j ∉ ts → σ'[j]? = (L2.wipe σ ow)[j]?) (l : σ'.length = (L2.wipe σ ow).length) : L2.wipe σ' ow = L2.wipe σ ow := by
  apply List.ext_getElem?
  intro i
  rw [wipe_length] at l
  by_cases h : i ∈ ow
  · rw [wipe_none h, wipe_none h, l]
  · rw [wipe_out h]
    exact k i fun z => h (hs i z)
/-- the owned object at a is written -/
theorem Ext.write {a : Addr} {o u : HO} (e : Same F H) (hf : F a = none) (hh : H a = some u) : Ext F H (fun b => b = a) F (upd H a o) (fun b => b = a) := by
  refine ⟨Same.refl F, fun b w q => ?_, fun b w q n => ?_, fun _ _ _ _ q => q, fun b w z _ => z⟩
  · rw [upd_ne (ne_of_none q hf)]; exact e b w q
  · rw [upd_ne n]; exact q
def Z0 : ZW := fun _ _ _ _ _ _ => False
theorem Z0_ok : Zok Z0 := fun _ _ _ _ _ _ _ _ _ _ h => h
/-- a turn of a comprehension -/
def turnF (C : Nat → List D → CR) (ow : List Nat) (t : T) (c e : E) : D → List D → ER := fun d ρ => onR (bindT t d (unS ow ρ)) fun ρ2 =>
      (if c.isNil then ER.ok (.bl true) ρ2 else evE C c ρ2).bind fun x ρ3 => onB x (one ow (own e (evE C e ρ3))) (.ok (.lst true []) (unS ow ρ3))
/-- the list so far -/
structure LcI (K : PySem.W.Frag) (turn : D → List D → ER) (F0 H0 : Hp) (φ0 : AS) (p : Addr) (σw : L2.St) (r : ER) (rest : List D) (H : Hp) : Prop where
  ex : ∃ F ρ φ vs acc, Ext F0 H0 φ0 F H (uni (fun a => a = p) φ) ∧ Sep K F H σw ρ φ ∧ H p = some (.lst vs) ∧ F p = none ∧ ¬ φ p ∧ vs.length = acc.length ∧
    (∀ (i : Nat) (v : V) (d : D), vs[i]? = some v → acc[i]? = some d → Ow K F H v d em) ∧ isFzs acc = true ∧ lcL turn rest acc ρ = r
theorem lcL_cons {turn : D → List D → ER} {d : D} {rs acc : List D} {x : D} {ρ1 : List D} (h : lcL turn (d :: rs) acc ρ = .ok x ρ1) : ∃ ds ρ2, turn d ρ = .ok (.lst true ds) ρ2 ∧ acc.length + ds.length ≤ sizeLine ∧ lcL turn rs (acc ++ ds) ρ2 = .ok x ρ1 := by
  simp only [lcL] at h
  split at h
  · rename_i ds ρ2 h1
    split at h
    · exact ⟨ds, ρ2, h1, by assumption, h⟩
    · cases h
  · cases h
  · cases h
  · cases h
theorem lcL_noexc {turn : D → List D → ER} : ∀ {ds acc ρ : List D} {x : D} {ρ1 : List D}, lcL turn ds acc ρ ≠ .exc x ρ1
  | [], acc, ρ, x, ρ1 => by simp [lcL]
  | d :: r, acc, ρ, x, ρ1 => by
    simp only [lcL]
    split
    · split
      · exact lcL_noexc
      · simp
    · simp
    · simp
    · simp
theorem EPost.toEL {p : Bool} {Q : VK} {r : LR} {f : List D → List D → ER} (h : EPost K Z p F H σ φ (r.toE f) Q) : (∃ d ρ, r = .ok d ρ ∧ EPost K Z p F H σ φ (f d ρ) Q) ∨ (∃ x ρ, r = .exc x ρ ∧ Z F H σ φ x ρ) := by
  cases r with
  | ok d ρ => exact .inl ⟨d, ρ, rfl, h⟩
  | exc x ρ => exact .inr ⟨x, ρ, rfl, h⟩
  | bad => exact False.elim h
theorem lcL_end {turn : D → List D → ER} : ∀ {ds acc ρ : List D} {x : D} {ρ1 : List D}, lcL turn ds acc ρ = .ok x ρ1 → ∃ xs, x = .lst true xs
  | [], acc, ρ, x, ρ1, h => by cases h; exact ⟨_, rfl⟩
  | d :: r, acc, ρ, x, ρ1, h => by
    obtain ⟨ds, ρ2, _, _, h3⟩ := lcL_cons h
    exact lcL_end h3
end MV

set_option Elab.async false
set_option linter.all false
set_option maxRecDepth 100000
set_option autoImplicit false
set_option maxHeartbeats 1000000
/-! MV, part L: comprehensions, their soundness. -/
namespace MV
open PySem PySem.Spec PyProof.Rows L2
variable {X : Cx} {S : Sc} {C : Nat → List D → CR} {Z : ZW} {K : PySem.W.Frag} {F F' F2 H H' H2 : Hp} {φ φ' φ2 ψ χ χ' : AS} {v : V} {d r : D} {σ : L2.St} {ρ ρ' ρ2 : List D}

theorem Ext.frame (x : Ext F H φ F' H' φ') (χ : AS) : Ext F H (uni χ φ) F' H' (uni χ φ') :=
  ⟨x.f, x.le, fun a o q n => x.k a o q fun z => n (.inr z), fun a o q n => x.n a o q fun z => n (.inr z), fun a o z q => z.elim .inl fun z => .inr (x.s a o z q)⟩
theorem Sep.unS (ow : List Nat) (z : Sep K F H σ ρ φ) : Sep K F H σ (MV.unS ow ρ) φ := by
  obtain ⟨ψ, h1, h2, h3⟩ := z.env
  exact ⟨z.le, by rw [unS_len]; exact z.len, z.tr, ψ, fun i d q n => h1 i d (unS_at q n).2 n, h2, h3⟩
/-- one item more -/
theorem LcI.more {turn : D → List D → ER} {F0 H0 : Hp} {φ0 : AS} {p : Addr} {σw : L2.St} {r : ER} {rest : List D} {F H F' H' : Hp} {ρ' : List D} {φ φd φ' : AS} {vs : List V} {acc : List D} {y : V} {dy : D}
    (x0 : Ext F0 H0 φ0 F H (uni (fun a => a = p) φ)) (hp : H p = some (.lst vs)) (fp : F p = none) (np : ¬ φ p) (l : vs.length = acc.length)
    (c : ∀ (i : Nat) (v : V) (d : D), vs[i]? = some v → acc[i]? = some d → Ow K F H v d em) (za : isFzs acc = true)
    (x : Ext F H φ F' H' (uni φd φ')) (t : Tm K F' H' y dy φd) (s : Sep K F' H' σw ρ' φ') (n : dsj φd φ') (hr : lcL turn rest (acc ++ [dy.fz]) ρ' = r) :
    H' p = some (.lst vs) ∧ LcI K turn F0 H0 φ0 p σw r rest (upd H' p (.lst (vs ++ [y]))) := by
  have hp' : H' p = some (.lst vs) := x.k p _ hp np
  have fp' : F' p = none := x.n p _ hp np fp
  have nd : ¬ φd p := fun z => np (x.s p _ (.inl z) hp)
  have ne : ¬ φ' p := fun z => np (x.s p _ (.inr z) hp)
  obtain ⟨y1, y2, y3⟩ := tm_frz t s.le s n
  have fq : frz F' H' φd p = none := by rw [frz_out nd]; exact fp'
  have w : Ext (frz F' H' φd) H' (fun a => a = p) (frz F' H' φd) (upd H' p (.lst (vs ++ [y]))) (fun a => a = p) := Ext.write y3.le fq hp'
  obtain ⟨s4, n4⟩ := y3.past w fun a q e => ne (e ▸ q)
  refine ⟨hp', ⟨_, ρ', φ', vs ++ [y], acc ++ [dy.fz], ?_, s4, upd_same, fq, ne, by simp [l], fun i v d hv hd => ?_, ?_, hr⟩⟩
  · have a1 : Ext F H (uni (fun a => a = p) φ) (frz F' H' φd) H' (uni (fun a => a = p) φ') := (x.trans y1).frame _
    have a2 : Ext (frz F' H' φd) H' (uni (fun a => a = p) φ') (frz F' H' φd) (upd H' p (.lst (vs ++ [y]))) (uni (fun a => a = p) φ') :=
      ⟨w.f, w.le, fun a o q m => w.k a o q fun e => m (.inl e), fun a o q m => w.n a o q fun e => m (.inl e), fun a o z _ => z⟩
    exact (x0.trans a1).trans a2
  · have sm : Same F (frz F' H' φd) := x.f.trans (frz_ge s.le)
    rcases cat_at hv with ⟨h1, h2⟩ | ⟨h1, h2⟩
    · rcases cat_at hd with ⟨h3, h4⟩ | ⟨h3, h4⟩
      · exact (c i v d h2 h4).frozen (isFzs_at za h4) sm _ _
      · omega
    · rcases cat_at hd with ⟨h3, h4⟩ | ⟨h3, h4⟩
      · omega
      · have e1 : i - vs.length = 0 := by
          have := (List.getElem?_eq_some_iff.mp h2).1
          simp at this
          omega
        have e2 : i - acc.length = 0 := by omega
        rw [e1] at h2
        rw [e2] at h4
        cases (Option.some.inj h2)
        cases (Option.some.inj h4)
        exact y2.frozen (fz_isFz _) (Same.refl _) _ _
  · rw [isFzs_app, za]
    simp [isFzs, fz_isFz]
def ttC (K : PySem.W.Frag) (C : Nat → List D → CR) (c : E) : TT := if c.isNil then tYes else tT K C Z0 c
theorem lcV {ow : List Nat} {t : T} {it c e : E} {Q : VK} (hs : ∀ i ∈ tgts t, i ∈ ow) (h : tV K C Z (.lc ow t it c e) σ H Q) :
    tLc (tI K C Z it) (tG K t) (ttC K C c) (tO K C Z0 e) ow σ H Q := by
  obtain ⟨F, ρ, φ, z, h⟩ := h
  simp only [evE] at h
  refine ⟨F, ρ, φ, z, ?_⟩
  rcases h.toEL with ⟨ds, ρ1, h1, h⟩ | ⟨x, ρ', h1, h⟩
  · rw [h1]
    intro J F1 H1 φ1 x1 s1 zf wk p np
    have h' : EPost K Z false F H σ φ (lcL (turnF C ow t c e) ds [] (unS ow ρ1)) Q := h
    cases hr : lcL (turnF C ow t c e) ds [] (unS ow ρ1) with
    | exc x ρ' => exact absurd hr lcL_noexc
    | bad => rw [hr] at h'; exact False.elim h'
    | ok dr ρr =>
      rw [hr] at h'
      have start : LcI K (turnF C ow t c e) F1 H1 φ1 p (L2.wipe σ ow) (.ok dr ρr) ds (upd H1 p (.lst [])) := by
        have x2 : Ext F1 H1 φ1 F1 (upd H1 p (.lst [])) (uni φ1 fun a => a = p) := Ext.new s1.le np
        obtain ⟨s2, n2⟩ := s1.past (Ext.new (φ := em) (o := .lst []) s1.le np) dsj_em
        exact ⟨F1, unS ow ρ1, φ1, [], [], x2.sub fun a q => q.elim .inr .inl, s2.wipe, upd_same, Same.free s1.le np, fun q => n2 p q (.inr rfl), rfl, fun i v d hv => by simp at hv, rfl, hr⟩
      refine ⟨fun i m H => m = ds.length - i ∧ i ≤ ds.length ∧ LcI K (turnF C ow t c e) F1 H1 φ1 p (L2.wipe σ ow) (.ok dr ρr) (ds.drop i) H, ⟨ds.length, by simp, Nat.zero_le _, start⟩, ?_⟩
      rintro i m H2 ⟨rfl, hi, ⟨F2, ρ2, φ2, vs, acc, x2, s2, hp, fp, nφ, l, cc, za, hl⟩⟩
      obtain ⟨wk1, wk2⟩ := wk F2 H2 i x2.f s2.le
      by_cases hlt : i < ds.length
      · have hd : ds[i]? = some ds[i] := List.getElem?_eq_getElem hlt
        obtain ⟨go, yl⟩ := wk1 _ hd
        refine .inr ⟨go, fun H => LcI K (turnF C ow t c e) F1 H1 φ1 p (L2.wipe σ ow) (.ok dr ρr) (ds.drop (i + 1)) H, fun H' n => ⟨ds.length - (i + 1), by omega, rfl, hlt, n⟩, fun x H3 y => ?_⟩
        obtain ⟨F3, x3, ox⟩ := yl x H3 y
        rw [List.drop_eq_getElem_cons hlt] at hl
        obtain ⟨es, ρ4, ht, hle, hl⟩ := lcL_cons hl
        obtain ⟨s3, n3⟩ := s2.past (x3 em) dsj_em
        unfold turnF at ht
        cases hb : bindT t ds[i] (unS ow ρ2) with
        | none => rw [hb] at ht; cases ht
        | some ρ5 =>
          rw [hb] at ht
          refine ⟨F3, unS ow ρ2, φ2, ds[i], em, s3.unS ow, ⟨ox, fun _ q => q.elim⟩, em_dsj, ρ5, hb, fun σ4 F4 H4 φ4 x4 s4 k4 l4 => ⟨wipe_eq hs k4 l4, ?_⟩⟩
          have x24 : Ext F2 H2 φ2 F4 H4 φ4 := (x3 φ2).trans (x4.sup (ψ := φ2) fun a q => q.elim (fun q => q.elim) id)
          have ew : L2.wipe σ4 ow = L2.wipe σ ow := wipe_eq hs k4 l4
          -- behind the test
          have yes : ∀ (k : Bool) ρ6 F6 H6 φ6, ER.ok (.lst true es) ρ4 = onB (.bl k) (one ow (own e (evE C e ρ6))) (.ok (.lst true []) (unS ow ρ6)) → Ext F4 H4 φ4 F6 H6 φ6 → Sep K F6 H6 σ4 ρ6 φ6 →
              (if k = true then tO K C Z0 e σ4 H6 fun y H4 => ∃ acc, H4 p = some (.lst acc) ∧ acc.length < sizeLine ∧ LcI K (turnF C ow t c e) F1 H1 φ1 p (L2.wipe σ ow) (.ok dr ρr) (ds.drop (i + 1)) (upd H4 p (.lst (acc ++ [y])))
              else LcI K (turnF C ow t c e) F1 H1 φ1 p (L2.wipe σ ow) (.ok dr ρr) (ds.drop (i + 1)) H6) := by
            intro k ρ6 F6 H6 φ6 hk x6 s6
            cases k with
            | true =>
              rw [if_pos rfl]
              refine ⟨F6, ρ6, φ6, s6, ?_⟩
              cases ho : own e (evE C e ρ6) with
              | ok dy ρ7 =>
                intro y F7 H7 φd φ7 x7 t7 s7 n7
                have hk' : ER.ok (.lst true es) ρ4 = .ok (.lst true [dy.fz]) (unS ow ρ7) := by
                  rw [hk]
                  show one ow (own e (evE C e ρ6)) = _
                  rw [ho]
                  rfl
                cases hk'
                have s8 : Sep K F7 H7 (L2.wipe σ ow) (unS ow ρ7) φ7 := by
                  rw [← ew]
                  exact s7.wipe
                obtain ⟨e1, e2⟩ := LcI.more x2 hp fp nφ l cc za ((x24.trans x6).trans x7) t7 s8 n7 hl
                exact ⟨vs, e1, by simp at hle; omega, e2⟩
              | exc x ρ7 =>
                exfalso
                have : ER.ok (.lst true es) ρ4 = one ow (own e (evE C e ρ6)) := hk
                rw [ho] at this
                cases this
              | bad =>
                exfalso
                have : ER.ok (.lst true es) ρ4 = one ow (own e (evE C e ρ6)) := hk
                rw [ho] at this
                cases this
            | false =>
              rw [if_neg Bool.false_ne_true]
              have hk' : ER.ok (.lst true es) ρ4 = .ok (.lst true []) (unS ow ρ6) := hk
              cases hk'
              rw [List.append_nil] at hl
              have s8 : Sep K F6 H6 (L2.wipe σ ow) (unS ow ρ6) φ6 := by
                rw [← ew]
                exact s6.wipe
              have x26 : Ext F2 H2 φ2 F6 H6 φ6 := x24.trans x6
              exact ⟨F6, _, φ6, vs, acc, x2.trans (x26.frame _), s8, x26.k p _ hp nφ, x26.n p _ hp nφ fp, fun q => nφ (x26.s p _ q hp), l, fun i v d hv hd => (cc i v d hv hd).frozen (isFzs_at za hd) x26.f _ _, za, hl⟩
          unfold ttC
          cases hn : c.isNil with
          | true =>
            rw [hn] at ht
            exact yes true ρ5 F4 H4 φ4 ht.symm (Ext.refl s4.le) s4
          | false =>
            rw [hn] at ht
            have ht' : (evE C c ρ5).bind (fun x ρ3 => onB x (one ow (own e (evE C e ρ3))) (.ok (.lst true []) (unS ow ρ3))) = .ok (.lst true es) ρ4 := ht
            refine ⟨F4, ρ5, φ4, s4, ?_⟩
            cases he : evE C c ρ5 with
            | ok dk ρ6 =>
              rw [he] at ht'
              cases dk with
              | bl k => exact ⟨k, rfl, fun F6 H6 φ6 x6 s6 => yes k ρ6 F6 H6 φ6 ht'.symm x6 s6⟩
              | _ => cases ht'
            | exc x ρ6 => rw [he] at ht'; cases ht'
            | bad => rw [he] at ht'; cases ht'
      · have e : i = ds.length := by omega
        subst e
        refine .inl ⟨wk2 (Nat.le_refl _), ?_⟩
        rw [List.drop_length] at hl
        simp only [lcL] at hl
        cases hl
        refine h' (.ref p) F2 H2 (fun a => a = p) φ2 (x1.trans x2) ⟨?_, fun a q => ⟨HO.lst vs, by rw [show a = p from q]; exact hp⟩⟩ s2.unwipe (fun _ a q w => nφ ((show a = p from q) ▸ w)) fun w => by cases w
        exact .lst1 (fun _ => em) hp fp rfl l cc (fun _ _ _ _ q => q.elim) fun _ _ q => q.elim
  · rw [h1]; exact h
end MV

set_option Elab.async false
set_option linter.all false
set_option maxRecDepth 100000
set_option autoImplicit false
set_option maxHeartbeats 4000000
/-! MV, part M: the check of expressions against the text, and its soundness. -/
namespace MV
open PySem PySem.Spec PyProof.Rows L2
variable {X : Cx} {S : Sc} {C : Nat → List D → CR} {Z : ZW} {K : PySem.W.Frag} {F F' F2 H H' H2 : Hp} {φ φ' φ2 ψ χ χ' : AS} {v : V} {d r : D} {σ : L2.St} {ρ ρ' ρ2 : List D}

def noSet : Expr → Bool
  | .Set _ _ _ => false
  | _ => true
/-- a test that is read by itself, or a plain one -/
def okT : Expr → Bool
  | .IfExp _ _ _ _ => false
  | _ => true
def cmpB : B → CmpOp → Bool
  | .eq, .Eq => true
  | .ne, .NotEq => true
  | .lt, .Lt => true
  | .le, .LtE => true
  | .gt, .Gt => true
  | .ge, .GtE => true
  | .isin, .In => true
  | .notin, .NotIn => true
  | _, _ => false
def binB : B → Operator → Bool
  | .add, .Add => true
  | .sub, .Sub => true
  | .mul, .Mult => true
  | .fdiv, .FloorDiv => true
  | .mod, .Mod => true
  | .pow, .Pow => true
  | _, _ => false
/-- the built-in function of a one-place operation -/
def fnU : U → Option String
  | .len => some "len"
  | .abs => some "abs"
  | .repr => some "repr"
  | .sum => some "sum"
  | .min => some "min"
  | .max => some "max"
  | .sorted => some "sorted"
  | _ => none
def tyU : U → Option String
  | .int => some "int"
  | .str => some "str"
  | .list => some "list"
  | .tuple => some "tuple"
  | _ => none
def fnB : B → Option String
  | .min2 => some "min"
  | .max2 => some "max"
  | _ => none
def isName (n : Option String) (x : Str) : Bool := match n with
  | some s => decide (Str.ofString s = x)
  | none => false
def relab (sn names : List (Str × NameKind)) : List (Str × NameKind) := names.map fun (n, k) => if (k == .free && sn.lookup n == some .cell) then (n, .cell) else (n, k)
/-- the text of a comprehension's block -/
def Sc.blk (S : Sc) (scope : Scope) : Sc := { S with names := relab S.names scope.names, lk := scope.names, keep := [] }
def mkSc (names : List (Str × NameKind)) : Scope := { kind := .function, names := names, isGenerator := false, isCoroutine := false }
def ownP (S : Sc) (ow : List Nat) : List (Str × Nat) := ow.map fun i => (S.N.getD i Str.empty, i)
def allIn (a b : List Nat) : Bool := a.all fun i => b.contains i

def isZ : E → Bool
  | .p (.lit (.int 0)) => true
  | _ => false
def isW : E → Bool
  | .rng _ _ => true
  | .enm _ => true
  | .zp _ _ => true
  | _ => false
def chkIo : E → Sc → Expr → Bool
  | .io i, S, .Name x _ => S.vis i x
  | _, _, _ => false
mutual
def chkE : E → Sc → Expr → Bool
  | .p a, S, e => chkP S a e
  | .var i, S, .Name x _ => S.vis i x
  | .mv i, S, .Name x _ => S.vis i x
  | .u op a, S, e => match e with
    | .UnaryOp .USub f _ => decide (op = .neg) && chkE a S f
    | .Call (.Name x _) [f] [] _ => ((isName (fnU op) x || isName (tyU op) x) && S.bi x && chkE a S f && noStar f)
    | .Call (.Name x _) [f, .Name y _] [] _ => decide (x = "isinstance") && S.bi x && isName (isiT op) y && S.bi y && chkE a S f && noStar f
    | .Compare f [c] [.Constant .none _ _] _ => ((decide (op = .isN) && decide (c = .Is)) || (decide (op = .notN) && decide (c = .IsNot))) && chkE a S f
    | _ => false
  | .b op a b, S, e => match e with
    | .BinOp f o g _ => binB op o && chkE a S f && chkE b S g
    | .Compare f [c] [g] _ => cmpB op c && chkE a S f && chkE b S g && noSet g
    | .Subscript f g _ => decide (op = .ix) && chkE a S f && chkE b S g && noSlice g
    | .Call (.Name x _) [f, g] [] _ => isName (fnB op) x && S.bi x && chkE a S f && chkE b S g && noStar f && noStar g
    | _ => false
  | .ixs i b, S, e => match e with
    | .Subscript (.Name x _) g _ => S.vis i x && chkE b S g && noSlice g
    | _ => false
  | .slc a lo hi, S, e => match e with
    | .Subscript f (.Slice l h none _) _ => chkE a S f && (match l with | some g => chkE lo S g && !isN lo | none => isN lo) && (match h with | some g => chkE hi S g && !isN hi | none => isN hi)
    | _ => false
  | .and a b, S, e => match e with
    | .BoolOp .And [f, g] _ => chkE a S f && chkE b S g && okT f && okT g
    | .BoolOp .And (f :: g :: h :: r) pos => chkE a S f && okT f && chkE b S (.BoolOp .And (g :: h :: r) pos)
    | _ => false
  | .or a b, S, e => match e with
    | .BoolOp .Or [f, g] _ => chkE a S f && chkE b S g && okT f && okT g
    | .BoolOp .Or (f :: g :: h :: r) pos => chkE a S f && okT f && chkE b S (.BoolOp .Or (g :: h :: r) pos)
    | _ => false
  | .not a, S, e => match e with
    | .UnaryOp .Not f _ => chkE a S f && okT f
    | _ => false
  | .ite c a b, S, e => match e with
    | .IfExp t f g _ => chkE c S t && okT t && chkE a S f && chkE b S g
    | _ => false
  | .chain a r, S, e => match e with
    | .Compare f (o :: o' :: os) (g :: g' :: gs) _ => chkE a S f && chkC r S (o :: o' :: os) (g :: g' :: gs)
    | _ => false
  | .lstE a, S, e => match e with
    | .List es _ => chkA a S es
    | _ => false
  | .tupE a, S, e => match e with
    | .Tuple es _ _ => chkA a S es
    | _ => false
  | .call f a, S, e => match e with
    | .Call (.Name x _) es [] _ => decide (S.fns[f]? = some x) && S.gl x && chkA a S es
    | _ => false
  | .lc ow t it c el, S, e => match e with
    | .ListComp elt [⟨tg, iter, ifs, 0⟩] scope _ => blkC S.N (mkSc S.names) scope (ownP S ow) && allIn (tgts t) ow && (if isW it then chkI it S tg iter else chkE it S iter) && noSet iter && chkT (S.blk scope) t tg && chkE el (S.blk scope) elt &&
        (match ifs with | [] => c.isNil | [f] => chkE c (S.blk scope) f && okT f && !c.isNil | _ => false)
    | _ => false
  | _, _, _ => false
termination_by structural x => x
/-- a chain's links -/
def chkC : E → Sc → List CmpOp → List Expr → Bool
  | .ck op e r, S, ops, es => match ops, es with
    | [o], [g] => cmpB op o && chkE e S g && noSet g && r.isNil
    | o :: o' :: os, g :: g' :: gs => cmpB op o && chkE e S g && noSet g && !r.isNil && chkC r S (o' :: os) (g' :: gs)
    | _, _ => false
  | _, _, _, _ => false
termination_by structural x => x
/-- items, arguments -/
def chkA : E → Sc → List Expr → Bool
  | .nil, _, es => es.isEmpty
  | .cons a r, S, es => match es with
    | [] => false
    | e :: es => (if isIo a then chkIo a S e else chkE a S e) && noStar e && chkA r S es
  | _, _, _ => false
termination_by structural x => x
/-- what is walked -/
def chkI : E → Sc → Expr → Expr → Bool
  | .rng a b, S, _, e => match e with
    | .Call (.Name x _) [f] [] _ => decide (x = "range") && S.bi x && isZ a && chkE b S f && noStar f
    | .Call (.Name x _) [f, g] [] _ => decide (x = "range") && S.bi x && chkE a S f && chkE b S g && noStar f && noStar g
    | _ => false
  | .enm a, S, tg, e => match tg, e with
    | .Tuple _ _ _, .Call (.Name x _) [f] [] _ => decide (x = "enumerate") && S.bi x && chkE a S f && noStar f
    | _, _ => false
  | .zp a b, S, tg, e => match tg, e with
    | .Tuple _ _ _, .Call (.Name x _) [f, g] [] _ => decide (x = "zip") && S.bi x && chkE a S f && chkE b S g && noStar f && noStar g
    | _, _ => false
  | _, _, _, _ => false
termination_by structural x => x
end
def chkIt (it : E) (S : Sc) (tg e : Expr) : Bool := if isW it then chkI it S tg e else chkE it S e
end MV

set_option Elab.async false
set_option linter.all false
set_option maxRecDepth 100000
set_option autoImplicit false
set_option maxHeartbeats 4000000
/-! MV, part N: the check of expressions is sound. -/
namespace MV
open PySem PySem.Spec PyProof.Rows L2
variable {X : Cx} {S : Sc} {C : Nat → List D → CR} {Z : ZW} {K : PySem.W.Frag} {F F' F2 H H' H2 : Hp} {φ φ' φ2 ψ χ χ' : AS} {v : V} {d r : D} {σ : L2.St} {ρ ρ' ρ2 : List D}

/-- of one program, at one place of the stack -/
structure Kin (X X' : Cx) : Prop where
  prog : X'.prog = X.prog
  w : X'.w = X.w
  K : X'.K = X.K
  mg : X'.mg = X.mg
  base : X'.base = X.base
  A : X'.A = X.A
structure GoodC (X : Cx) (S : Sc) (C : Nat → List D → CR) (Z : ZW) : Prop where
  g : Good X S
  z : Zok Z
  fn : ∀ n x, S.fns[n]? = some x → CallOk X C Z n x
  fn0 : ∀ X', Kin X X' → ∀ n x, S.fns[n]? = some x → CallOk X' C Z0 n x

theorem isName_of {n : Option String} {x : Str} (h : isName n x = true) : ∃ s, n = some s ∧ x = Str.ofString s := by
  cases n with
  | none => exact absurd h Bool.false_ne_true
  | some s => exact ⟨s, rfl, (of_decide_eq_true h).symm⟩
theorem fnU_boot {op : U} {s : String} (h : fnU op = some s) : bootBuiltins (Str.ofString s) = some (.builtin s) := by
  cases op <;> cases h <;> decide +kernel
theorem tyU_boot {op : U} {s : String} (h : tyU op = some s) : bootBuiltins (Str.ofString s) = some (.type s) := by
  cases op <;> cases h <;> decide +kernel
theorem isiT_boot {op : U} {s : String} (h : isiT op = some s) : bootBuiltins (Str.ofString s) = some (.type s) := by
  cases op <;> cases h <;> decide +kernel
theorem fnB_boot {op : B} {s : String} (h : fnB op = some s) : bootBuiltins (Str.ofString s) = some (.builtin s) := by
  cases op <;> cases h <;> decide +kernel
theorem fnU_call (G : Good X S) {op : U} {s : String} (h : fnU op = some s) : CallR X (.builtin s) (rU1 X.K op) := by
  have hu := G.uni
  cases op <;> cases h
  · exact u_len
  · exact u_abs
  · exact u_repr G.grd (by omega)
  · exact u_sum G.calm
  · exact u_min G.calm
  · exact u_max G.calm
  · exact u_sorted
theorem tyU_call (G : Good X S) {op : U} {s : String} (h : tyU op = some s) : CallR X (.type s) (rU1 X.K op) := by
  cases op <;> cases h
  · exact u_int
  · exact u_str
  · exact u_list
  · exact u_tuple
theorem fnB_call (G : Good X S) {op : B} {s : String} (h : fnB op = some s) : CallR X (.builtin s) (rB2 X.K op) := by
  cases op <;> cases h
  · exact b_min2 G.calm
  · exact b_max2 G.calm
theorem binB_op {op : B} {o : Operator} (h : binB op o = true) : OpR X (binaryOp o) (rBn X.K op) := by
  cases op <;> cases o <;> first
    | exact absurd h Bool.false_ne_true
    | skip
  · exact b_add
  · exact b_sub
  · exact b_mul
  · exact b_fdiv
  · exact b_mod
  · exact b_pow
theorem cmpB_op (G : Good X S) {op : B} {o : CmpOp} (h : cmpB op o = true) : OpR X (compareOp o) (rBn X.K op) := by
  have hu := G.uni
  cases op <;> cases o <;> first
    | exact absurd h Bool.false_ne_true
    | skip
  · exact b_eq (by omega)
  · exact b_ne (by omega)
  · exact b_lt
  · exact b_le
  · exact b_gt
  · exact b_ge
  · exact b_in hu
  · exact b_notin hu
theorem behind_of {o : CmpOp} {e : Expr} (h : noSet e = true) : behindInMarks o e = false := by
  cases e <;> first
    | rfl
    | exact absurd h Bool.false_ne_true
theorem folded_of {e : Expr} (h : noSet e = true) (env : Env) : ∀ x, foldedSetIterable e env x = pure x := fun x => by
  cases e <;> first
    | rfl
    | exact absurd h Bool.false_ne_true
/-! ### the forms -/
theorem s_uFn (G : Good X S) {op : U} {a : E} {f : Expr} {x : Str} {p pos : Pos} (h : isName (fnU op) x = true) (hb : S.bi x = true) (ha : PE X f (tV X.K C Z a)) (hs : noStar f = true) : PE X (.Call (.Name x p) [f] [] pos) (tV X.K C Z (.u op a)) := by
  obtain ⟨s, h1, rfl⟩ := isName_of h
  obtain ⟨g1, g2, g3, g4⟩ := bi_of G hb
  refine PE.mono (pe_callB (fnU_call G h1) g1 g2 (fnU_boot h1) (pa_cons ha pa_nil (star_of hs X.env)) g3 g4 (star_of hs X.env) (stars_of X.env pos rfl)) fun σ H Q q => ?_
  obtain ⟨F, ρ, φ, z, q⟩ := uV q
  refine ⟨F, ρ, φ, z, ?_⟩
  cases he : evE C a ρ with
  | ok d ρ' => rw [he] at q; exact fun v F' H' φd φ' x t s n p => ⟨v, rfl, q v F' H' φd φ' x t s n p⟩
  | exc x ρ' => rw [he] at q; exact q
  | bad => rw [he] at q; exact q
theorem s_uTy (G : Good X S) {op : U} {a : E} {f : Expr} {x : Str} {p pos : Pos} (h : isName (tyU op) x = true) (hb : S.bi x = true) (ha : PE X f (tV X.K C Z a)) (hs : noStar f = true) : PE X (.Call (.Name x p) [f] [] pos) (tV X.K C Z (.u op a)) := by
  obtain ⟨s, h1, rfl⟩ := isName_of h
  obtain ⟨g1, g2, g3, g4⟩ := bi_of G hb
  refine PE.mono (pe_callTy (tyU_call G h1) g1 g2 (tyU_boot h1) (pa_cons ha pa_nil (star_of hs X.env)) g3 g4 (star_of hs X.env) (stars_of X.env pos rfl)) fun σ H Q q => ?_
  obtain ⟨F, ρ, φ, z, q⟩ := uV q
  refine ⟨F, ρ, φ, z, ?_⟩
  cases he : evE C a ρ with
  | ok d ρ' => rw [he] at q; exact fun v F' H' φd φ' x t s n p => ⟨v, rfl, q v F' H' φd φ' x t s n p⟩
  | exc x ρ' => rw [he] at q; exact q
  | bad => rw [he] at q; exact q
theorem s_uIsi (G : Good X S) {op : U} {a : E} {f : Expr} {x y : Str} {p p2 pos : Pos} (hx : x = "isinstance") (hb : S.bi x = true) (h : isName (isiT op) y = true) (hb2 : S.bi y = true) (ha : PE X f (tV X.K C Z a)) (hs : noStar f = true) :
    PE X (.Call (.Name x p) [f, .Name y p2] [] pos) (tV X.K C Z (.u op a)) := by
  subst hx
  obtain ⟨s, h1, rfl⟩ := isName_of h
  obtain ⟨g1, g2, g3, g4⟩ := bi_of G hb
  obtain ⟨k1, k2, k3, k4⟩ := bi_of G hb2
  refine PE.mono (pe_callB call_isi g1 g2 (by decide +kernel) (pa_cons ha (pa_cons (pe_bltn (v := .ty s) k1 k2 (isiT_boot h1) rfl k3 k4) pa_nil) (star_of hs X.env)) g3 g4 (star_of hs X.env) (stars_of X.env pos rfl)) fun σ H Q q => ?_
  obtain ⟨F, ρ, φ, z, q⟩ := uV q
  refine ⟨F, ρ, φ, z, ?_⟩
  cases he : evE C a ρ with
  | ok d ρ' =>
    rw [he] at q
    intro v F' H' φd φ' x t s' n p
    obtain ⟨F1, d1, φ1, r, e1, o1, u1, q1⟩ := q v F' H' φd φ' x t s' n p
    obtain ⟨ty, b, c1, c2, rfl⟩ := isi_val h1 e1 o1 u1
    exact ⟨v, .ty s, ty, .type s, b, rfl, .ty s, c1, c2, q1 _ _ (.flat (.bl _))⟩
  | exc x ρ' => rw [he] at q; exact q
  | bad => rw [he] at q; exact q
theorem isN_val {x : V} {Q : VK} (h : rUn K .isN x H Q) : Q (.bl (decide (x = .non))) H := by
  obtain ⟨F, d, φ, r, e, o, u, q⟩ := h
  have key : r = .bl (decide (x = .non)) := by
    cases o <;> cases u <;> rfl
  subst key
  exact q _ _ (.flat (.bl _))
theorem notN_val {x : V} {Q : VK} (h : rUn K .notN x H Q) : Q (.bl (!decide (x = .non))) H := by
  obtain ⟨F, d, φ, r, e, o, u, q⟩ := h
  have key : r = .bl (!decide (x = .non)) := by
    cases o <;> cases u <;> rfl
  subst key
  exact q _ _ (.flat (.bl _))
theorem tV_map {e : E} {Q Q' : VK} (h : tV K C Z e σ H Q) (w : ∀ v H, Q v H → Q' v H) : tV K C Z e σ H Q' := by
  obtain ⟨F, ρ, φ, z, q⟩ := h
  refine ⟨F, ρ, φ, z, ?_⟩
  cases he : evE C e ρ with
  | ok d ρ' => rw [he] at q; exact fun v F' H' φd φ' x t s n p => w _ _ (q v F' H' φd φ' x t s n p)
  | exc x ρ' => rw [he] at q; exact q
  | bad => rw [he] at q; exact q
theorem tO_map {e : E} {Q Q' : VK} (h : tO K C Z e σ H Q) (w : ∀ v H, Q v H → Q' v H) : tO K C Z e σ H Q' := by
  obtain ⟨F, ρ, φ, z, q⟩ := h
  refine ⟨F, ρ, φ, z, ?_⟩
  cases he : own e (evE C e ρ) with
  | ok d ρ' => rw [he] at q; exact fun v F' H' φd φ' x t s n => w _ _ (q v F' H' φd φ' x t s n)
  | exc x ρ' => rw [he] at q; exact q
  | bad => rw [he] at q; exact q
theorem tL_map {a b : E} {Q Q' : VK} (h : tL K C Z a b σ H Q) (w : ∀ v H, Q v H → Q' v H) : tL K C Z a b σ H Q' := by
  unfold tL at h ⊢
  split
  · rename_i hb
    rw [if_pos hb] at h
    exact tV_map h w
  · rename_i hb
    rw [if_neg hb] at h
    exact tO_map h w
theorem s_isN {a : E} {f : Expr} {j : Nat} {p pos : Pos} (ha : PE X f (tV X.K C Z a)) : PE X (.Compare f [.Is] [.Constant .none j p] pos) (tV X.K C Z (.u .isN a)) ∧ PT X (.Compare f [.Is] [.Constant .none j p] pos) (tT X.K C Z (.u .isN a)) :=
  ⟨PE.mono (pe_cmpR op_isN ha pe_non (nomark _)) fun σ H Q q => tV_map (uV q) fun x H h => ⟨rfl, isN_val h⟩,
    PT.mono (pt_cmpR op_isN ha pe_non (nomark _)) fun σ H Q q => tV_map (uV (tT_of q)) fun x H h => ⟨rfl, isN_val h⟩⟩
theorem s_notN {a : E} {f : Expr} {j : Nat} {p pos : Pos} (ha : PE X f (tV X.K C Z a)) : PE X (.Compare f [.IsNot] [.Constant .none j p] pos) (tV X.K C Z (.u .notN a)) ∧ PT X (.Compare f [.IsNot] [.Constant .none j p] pos) (tT X.K C Z (.u .notN a)) :=
  ⟨PE.mono (pe_cmpR op_notN ha pe_non (nomark _)) fun σ H Q q => tV_map (uV q) fun x H h => ⟨rfl, notN_val h⟩,
    PT.mono (pt_cmpR op_notN ha pe_non (nomark _)) fun σ H Q q => tV_map (uV (tT_of q)) fun x H h => ⟨rfl, notN_val h⟩⟩
theorem s_bin (hZ : Zok Z) {op : B} {o : Operator} {a b : E} {f g : Expr} {pos : Pos} (h : binB op o = true) (ha : PE X f (tV X.K C Z a)) (hb : PE X g (tV X.K C Z b)) : PE X (.BinOp f o g pos) (tV X.K C Z (.b op a b)) :=
  PE.mono (pe_op (binB_op h) (pe_left (b := b) ha) hb) fun σ H Q q => bV hZ q
theorem s_cmp (hZ : Zok Z) (G : Good X S) {op : B} {o : CmpOp} {a b : E} {f g : Expr} {pos : Pos} (h : cmpB op o = true) (ha : PE X f (tV X.K C Z a)) (hb : PE X g (tV X.K C Z b)) (hs : noSet g = true) :
    PE X (.Compare f [o] [g] pos) (tV X.K C Z (.b op a b)) ∧ PT X (.Compare f [o] [g] pos) (tT X.K C Z (.b op a b)) :=
  ⟨PE.mono (pe_cmpR (cmpB_op G h) (pe_left (b := b) ha) hb (behind_of hs)) fun σ H Q q => bV hZ q,
    PT.mono (pt_cmpR (cmpB_op G h) (pe_left (b := b) ha) hb (behind_of hs)) fun σ H Q q => bT hZ q⟩
theorem s_ix (hZ : Zok Z) {a b : E} {f g : Expr} {pos : Pos} (ha : PE X f (tV X.K C Z a)) (hb : PE X g (tV X.K C Z b)) (hs : noSlice g = true) : PE X (.Subscript f g pos) (tV X.K C Z (.b .ix a b)) :=
  PE.mono (pe_ix b_ix (pe_left (b := b) ha) hb (plainIx_of hs)) fun σ H Q q => bV hZ q
theorem s_b2 (hZ : Zok Z) (G : Good X S) {op : B} {a b : E} {f g : Expr} {x : Str} {p pos : Pos} (h : isName (fnB op) x = true) (hb' : S.bi x = true) (ha : PE X f (tV X.K C Z a)) (hb : PE X g (tV X.K C Z b)) (n1 : noStar f = true) (n2 : noStar g = true) :
    PE X (.Call (.Name x p) [f, g] [] pos) (tV X.K C Z (.b op a b)) := by
  obtain ⟨s, h1, rfl⟩ := isName_of h
  obtain ⟨g1, g2, g3, g4⟩ := bi_of G hb'
  refine PE.mono (pe_callB (fnB_call G h1) g1 g2 (fnB_boot h1) (pa_cons (pe_left (b := b) ha) (pa_cons hb pa_nil (star_of n2 X.env)) (star_of n1 X.env)) g3 g4 (star_of n1 X.env) (stars_of X.env pos (by simp [n2]))) fun σ H Q q => ?_
  exact tL_map (bV hZ q) fun x H h => tV_map h fun y H h => ⟨x, y, rfl, h⟩

/-! ### slices -/
theorem isN_eq {e : E} (h : isN e = true) : e = .p (.lit .non) := by
  unfold isN at h
  split at h
  · rfl
  · cases h
/-- a bound's text -/
def bdT (X : Cx) (C : Nat → List D → CR) (Z : ZW) (l : Option Expr) (lo : E) : Prop := match l with
  | some g => PE X g (tV X.K C Z lo) ∧ isN lo = false
  | none => isN lo = true
theorem po_of {l : Option Expr} {lo : E} (h : bdT X C Z l lo) : PO X l (fun σ H Q => tV X.K C Z lo σ H fun x H1 => ∃ F d φ o, Same F H1 ∧ Ow X.K F H1 x d φ ∧ bndF (isN lo) d = some o ∧ Q o H1) := by
  cases l with
  | none =>
    have h0 : isN lo = true := h
    have h := isN_eq h
    subst h
    refine ⟨fun pins s σ H Q I ⟨F, ρ, φ, z, q⟩ => po_none.run pins s σ H Q I ?_⟩
    simp only [evE, evP] at q
    obtain ⟨F1, d, φ1, o, e, w, b, q⟩ := q .non F H φ φ ((Ext.refl z.le).sub fun a q => q.elim id id) ⟨.non, z.tr⟩ z (fun w => by cases w) (fun _ => ⟨rfl, rfl⟩)
    cases w
    cases b
    exact q
  | some g =>
    obtain ⟨h, hn⟩ := h
    refine ⟨fun pins s σ H Q I q => (po_some h).run pins s σ H Q I (tV_map q fun x H ⟨F, d, φ, o, e, w, b, q⟩ => ?_)⟩
    rw [hn] at b
    cases d <;> first | (cases b; done) | skip
    cases b
    cases w
    exact ⟨_, rfl, q⟩
theorem bndO_some {b : Bool} {d x : D} (h : bndO b d = some x) : ∃ o, bndF b d = some o := by
  unfold bndO at h
  split at h
  · rename_i hs
    exact Option.isSome_iff_exists.mp hs
  · cases h
theorem EPost.own {e : E} {p : Bool} {Q : VK} {r : ER} (h : EPost K Z p F H σ φ (MV.own e r) Q) : EPost K Z p F H σ φ r Q := by
  cases r with
  | ok d ρ1 =>
    simp only [MV.own] at h
    split at h
    · exact False.elim h
    · exact h
  | exc x ρ1 => exact h
  | bad => exact h
theorem sliceF_post {a b : Bool} {x l h : D} {Q : VK} {p : Bool} (q : EPost K Z p F H σ φ (sliceF a b x l h ρ) Q) : ∃ l' h' r, bndF a l = some l' ∧ bndF b h = some h' ∧ cutF x l' h' = some r ∧ EPost K Z p F H σ φ (.ok r ρ) Q := by
  unfold sliceF at q
  split at q
  · rename_i l' h' e1 e2
    obtain ⟨r, e3, q⟩ := q.ofO
    exact ⟨l', h', r, e1, e2, e3, q⟩
  · exact False.elim q
/-- the thing that is cut -/
def tS (K : PySem.W.Frag) (C : Nat → List D → CR) (Z : ZW) (a lo hi : E) : TE := if (lo.isP && hi.isP) = true then tV K C Z a else tO K C Z a
theorem slcV (hZ : Zok Z) {a lo hi : E} {Q : VK} (h : tV K C Z (.slc a lo hi) σ H Q) : tS K C Z a lo hi σ H fun x H1 => tV K C Z lo σ H1 fun y H2 => ∃ F2 d2 φ2 o2, Same F2 H2 ∧ Ow K F2 H2 y d2 φ2 ∧ bndF (isN lo) d2 = some o2 ∧
    tV K C Z hi σ H2 fun z H3 => ∃ F3 d3 φ3 o3, Same F3 H3 ∧ Ow K F3 H3 z d3 φ3 ∧ bndF (isN hi) d3 = some o3 ∧ rCt K x o2 o3 H3 Q := by
  obtain ⟨F, ρ, φ, z, h⟩ := h
  simp only [evE] at h
  unfold tS
  cases hb : (lo.isP && hi.isP) with
  | true =>
    simp only [hb, if_true] at h ⊢
    simp only [Bool.and_eq_true] at hb
    refine ⟨F, ρ, φ, z, ?_⟩
    rcases h.bind with ⟨d, ρ1, he, h⟩ | ⟨x, ρ', he, h⟩
    · rw [he]
      intro v F1 H1 φ1 φ1' x t s n p
      refine ⟨F1, ρ1, φ1', s, ?_⟩
      rcases h.bind with ⟨dl, ρ2, hl, h⟩ | ⟨e, ρ', hl, h⟩
      · have hl' := hl
        cases hq : evE C lo ρ1 with
        | ok dl' ρ2' =>
          rw [hq] at hl
          simp only [own] at hl
          split at hl
          · cases hl
          · cases hl
            intro y F2 H2 φ2 φ2' x2 t2 s2 n2 p2
            obtain ⟨rfl, rfl⟩ := p2 hb.1
            obtain ⟨_, _, h⟩ := h.onO
            rcases h.bind with ⟨dh, ρ3, hh, h⟩ | ⟨e, ρ', hh, h⟩
            · obtain ⟨o2, o3, r, c1, c2, c3, h⟩ := sliceF_post h
              refine ⟨_, _, φ2, o2, s2.le, t2.ow, c1, _, ρ2, φ2', s2, ?_⟩
              cases hq2 : evE C hi ρ2 with
              | ok dh' ρ3' =>
                rw [hq2] at hh
                simp only [own] at hh
                split at hh
                · cases hh
                · cases hh
                  intro w F3 H3 φ3 φ3' x3 t3 s3 n3 p3
                  obtain ⟨rfl, rfl⟩ := p3 hb.2
                  refine ⟨_, _, φ3, o3, s3.le, t3.ow, c2, _, d, φ1, r, s3.le, t.ow, c3, fun v' H4 n => h.newok n s3 ((x.mine.trans x2.mine).trans x3)⟩
              | exc e ρ' => rw [hq2] at hh; cases hh
              | bad => rw [hq2] at hh; cases hh
            · cases hh' : evE C hi ρ2 with
              | ok dh' ρ3' => rw [hh'] at hh; simp only [own] at hh; split at hh <;> cases hh
              | exc e' ρ'' =>
                obtain ⟨a', ha'⟩ : ∃ a', hi = .p a' := by
                  cases hi <;> first | exact ⟨_, rfl⟩ | exact absurd hb.2 Bool.false_ne_true
                subst ha'
                simp only [evE, ofO] at hh'
                split at hh' <;> cases hh'
              | bad => rw [hh'] at hh; cases hh
        | exc e ρ' => rw [hq] at hl; cases hl
        | bad => rw [hq] at hl; cases hl
      · cases hh' : evE C lo ρ1 with
        | ok dh' ρ3' => rw [hh'] at hl; simp only [own] at hl; split at hl <;> cases hl
        | exc e' ρ'' =>
          obtain ⟨a', ha'⟩ : ∃ a', lo = .p a' := by
            cases lo <;> first | exact ⟨_, rfl⟩ | exact absurd hb.1 Bool.false_ne_true
          subst ha'
          simp only [evE, ofO] at hh'
          split at hh' <;> cases hh'
        | bad => rw [hh'] at hl; cases hl
    · rw [he]; exact h
  | false =>
    simp only [hb, Bool.false_eq_true, if_false] at h ⊢
    refine ⟨F, ρ, φ, z, ?_⟩
    rcases h.bind with ⟨d, ρ1, he, h⟩ | ⟨x, ρ', he, h⟩
    · rw [he]
      intro v F1 H1 φ1 φ1' x t s n
      refine tV_of_tO ⟨F1, ρ1, φ1', s, ?_⟩
      rcases h.bind with ⟨dl, ρ2, hl, h⟩ | ⟨e, ρ', hl, h⟩
      · rw [hl]
        intro y F2 H2 φ2 φ2' x2 t2 s2 n2
        obtain ⟨ta, na⟩ := t.past x2 n
        obtain ⟨_, bd, h⟩ := h.onO
        obtain ⟨_, bd⟩ := bndO_some bd
        rcases h.bind with ⟨dh, ρ3, hh, h⟩ | ⟨e, ρ', hh, h⟩
        · obtain ⟨o2, o3, r, c1, c2, c3, h⟩ := sliceF_post h
          refine ⟨_, _, φ2, o2, s2.le, t2.ow, c1, tV_of_tO ⟨_, ρ2, φ2', s2, ?_⟩⟩
          rw [hh]
          intro w F3 H3 φ3 φ3' x3 t3 s3 n3
          obtain ⟨ta2, _⟩ := ta.past x3 fun a p q => na a p (.inr q)
          exact ⟨_, _, φ3, o3, s3.le, t3.ow, c2, _, d, φ1, r, s3.le, ta2.ow, c3, fun v' H4 n => h.newok n s3 ((x.mine.trans x2.mine).trans x3)⟩
        · refine ⟨_, _, φ2, _, s2.le, t2.ow, bd, tV_of_tO ⟨_, ρ2, φ2', s2, ?_⟩⟩
          rw [hh]
          exact hZ _ _ _ _ _ _ _ _ _ (x.mine.trans x2.mine) h
      · rw [hl]; exact hZ _ _ _ _ _ _ _ _ _ x.mine h
    · rw [he]; exact h
end MV

set_option Elab.async false
set_option linter.all false
set_option maxRecDepth 100000
set_option autoImplicit false
set_option maxHeartbeats 4000000
/-! MV, part O: the check of expressions is sound, put together. -/
namespace MV
open PySem PySem.Spec PyProof.Rows L2
variable {X : Cx} {S : Sc} {C : Nat → List D → CR} {Z : ZW} {K : PySem.W.Frag} {F F' F2 H H' H2 : Hp} {φ φ' φ2 ψ χ χ' : AS} {v : V} {d r : D} {σ : L2.St} {ρ ρ' ρ2 : List D}

theorem po_mono {l : Option Expr} {t t' : TO} (h : PO X l t) (w : ∀ σ H Q, t' σ H Q → t σ H Q) : PO X l t' := ⟨fun pins s σ H Q I q => h.run pins s σ H Q I (w σ H Q q)⟩
theorem s_slc (hZ : Zok Z) {a lo hi : E} {f : Expr} {l h : Option Expr} {p2 pos : Pos} (ha : PE X f (tV X.K C Z a)) (hl : bdT X C Z l lo) (hh : bdT X C Z h hi) : PE X (.Subscript f (.Slice l h none p2) pos) (tV X.K C Z (.slc a lo hi)) := by
  have ha' : PE X f (tS X.K C Z a lo hi) := by
    unfold tS
    split
    · exact ha
    · exact pe_own ha
  refine PE.mono (pe_slice b_cut ha' (po_of hl) (po_of hh)) fun σ H Q q => ?_
  have key := slcV hZ q
  unfold tS at key ⊢
  unfold tSl
  split
  · rename_i hb
    rw [if_pos hb] at key
    exact tV_map key fun x H1 q => tV_map q fun y H2 ⟨F2, d2, φ2, o2, w1, w2, w3, q⟩ => ⟨F2, d2, φ2, o2, w1, w2, w3, tV_map q fun z H3 ⟨F3, d3, φ3, o3, u1, u2, u3, q⟩ => ⟨F3, d3, φ3, o3, u1, u2, u3, q⟩⟩
  · rename_i hb
    rw [if_neg hb] at key
    exact tO_map key fun x H1 q => tV_map q fun y H2 ⟨F2, d2, φ2, o2, w1, w2, w3, q⟩ => ⟨F2, d2, φ2, o2, w1, w2, w3, tV_map q fun z H3 ⟨F3, d3, φ3, o3, u1, u2, u3, q⟩ => ⟨F3, d3, φ3, o3, u1, u2, u3, q⟩⟩

/-! ### the block of a comprehension -/
theorem relab_cell {sn : List (Str × NameKind)} : ∀ {names : List (Str × NameKind)} {x : Str} {k : NameKind}, k ≠ .free → names.lookup x = some k → (relab sn names).lookup x = some k
  | [], _, _, _, h => by simp at h
  | (n, k) :: r, x, k', hk, h => by
    have ih := @relab_cell sn r x k' hk
    show List.lookup x ((if (k == NameKind.free && sn.lookup n == some .cell) = true then (n, NameKind.cell) else (n, k)) :: relab sn r) = _
    cases hx : x == n with
    | true =>
      simp only [List.lookup_cons, hx] at h
      cases h
      have : (k == NameKind.free && sn.lookup n == some .cell) = false := by
        cases k <;> first | rfl | exact absurd rfl hk
      rw [this]
      simp [List.lookup_cons, hx]
    | false =>
      simp only [List.lookup_cons, hx] at h
      by_cases hc : (k == NameKind.free && sn.lookup n == some .cell) = true
      · rw [if_pos hc]; simp only [List.lookup_cons, hx]; exact ih h
      · rw [if_neg hc]; simp only [List.lookup_cons, hx]; exact ih h
theorem Good.blk (G : Good X S) {scope : Scope} (hk : scope.kind = .function) (s : Shared) (H : Hp) (ca : Addr) (cl : List (Str × Addr)) (fp : List Addr) : Good (X.blk s H scope (compEnvC scope cl ca X.env) fp) (S.blk scope) := by
  have hn : (X.blk s H scope (compEnvC scope cl ca X.env) fp).env.scope.names = relab S.names scope.names := by
    show (relabel scope X.env).names = _
    unfold relabel relab
    apply List.map_congr_left
    intro p _
    have h1 : (X.env.scope.kind == ScopeKind.function) = true := by rw [G.kind]; rfl
    show (if (p.2 == .free && X.env.scope.kind == .function && X.env.kindOf p.1 == some .cell) = true then (p.1, NameKind.cell) else (p.1, p.2)) = _
    rw [h1]
    unfold Env.kindOf
    rw [G.sc, Bool.and_true]
  refine ⟨G.N, G.nd, hn, hk, G.calm, fun x => ⟨fun h => ?_, fun h => ⟨?_, ?_⟩⟩, G.blt, G.grd, G.uni⟩
  · rw [hn]; exact relab_cell (by simp) h
  · rw [hn]; exact relab_cell (by simp) h
  · show (scope.names.lookup x == some .cell) = true
    have h' : scope.names.lookup x = some .cell := h
    rw [h']; rfl
theorem GoodC.blk (G : GoodC X S C Z) {scope : Scope} (hk : scope.kind = .function) (s : Shared) (H : Hp) (ca : Addr) (cl : List (Str × Addr)) (fp : List Addr) : GoodC (X.blk s H scope (compEnvC scope cl ca X.env) fp) (S.blk scope) C Z0 :=
  ⟨G.g.blk hk s H ca cl fp, Z0_ok, fun n x h => G.fn0 (X.blk s H scope (compEnvC scope cl ca X.env) fp) ⟨rfl, rfl, rfl, rfl, rfl, rfl⟩ n x h, fun X' k n x h => G.fn0 X' ⟨k.prog, k.w, k.K, k.mg, k.base, k.A⟩ n x h⟩

/-! ### put together -/
theorem PW.mono {e : Expr} {t t' : TT} (h : PW X e t) (w : ∀ σ H Q, t' σ H Q → t σ H Q) : PW X e t' := ⟨fun wh pins s σ H Q I q => h.run wh pins s σ H Q I (w σ H Q q)⟩
structure SE (X : Cx) (C : Nat → List D → CR) (Z : ZW) (ie : E) (e : Expr) : Prop where
  pe : PE X e (tV X.K C Z ie)
  t : okT e = true → PT X e (tT X.K C Z ie)
  w : ∀ op es pos, e = .BoolOp op es pos → PW X e (tT X.K C Z ie)
def SC (X : Cx) (C : Nat → List D → CR) (Z : ZW) (ie : E) (os : List CmpOp) (es : List Expr) : Prop := PCh X os es (tC' X.K C Z ie) ∧ PCt X os es (tCt X.K C Z ie) ∧ lastMarks os es = false
structure Snd (C : Nat → List D → CR) (ie : E) : Prop where
  e : ∀ X S Z, GoodC X S C Z → ∀ e, chkE ie S e = true → SE X C Z ie e
  c : ∀ X S Z, GoodC X S C Z → ∀ os es, chkC ie S os es = true → SC X C Z ie os es
  a : ∀ X S Z, GoodC X S C Z → ∀ es, chkA ie S es = true → PA X es (tA X.K C Z ie)
  i : ∀ X S Z, GoodC X S C Z → ∀ tg e, chkIt ie S tg e = true → PI X tg e (tI X.K C Z ie)
theorem SE.plain {ie : E} {e : Expr} (h : PE X e (tV X.K C Z ie)) (hp : plainT e = true) : SE X C Z ie e :=
  ⟨h, fun _ => pt_plain h hp, fun op es pos q => by subst q; exact absurd hp Bool.false_ne_true⟩
theorem Snd.gen {ie : E} (he : ∀ X S Z, GoodC X S C Z → ∀ e, chkE ie S e = true → SE X C Z ie e) (hc : ∀ S a b, chkC ie S a b = false) (ha : ∀ S es, chkA ie S es = false)
    (hi : ∀ S tg e, chkIt ie S tg e = chkE ie S e) (hv : ∀ ρ, evI C ie ρ = (own ie (evE C ie ρ)).toL itemsR) : Snd C ie :=
  ⟨he, fun X S Z G os es h => (by rw [hc] at h; cases h), fun X S Z G es h => (by rw [ha] at h; cases h), fun X S Z G tg e h => (by rw [hi] at h; exact s_it G.z (he X S Z G e h).pe hv)⟩
/-- nothing by itself -/
theorem Snd.none {ie : E} (he : ∀ S e, chkE ie S e = false) (hc : ∀ S a b, chkC ie S a b = false) (ha : ∀ S es, chkA ie S es = false) (hi : ∀ S tg e, chkIt ie S tg e = chkE ie S e) (hv : ∀ ρ, evI C ie ρ = (own ie (evE C ie ρ)).toL itemsR) : Snd C ie :=
  Snd.gen (fun X S Z G e h => by rw [he] at h; cases h) hc ha hi hv
theorem bdT_of {S : Sc} {lo : E} {l : Option Expr} (G : GoodC X S C Z) (sl : Snd C lo) (h : (match l with | some g => chkE lo S g && !isN lo | none => isN lo) = true) : bdT X C Z l lo := by
  cases l with
  | none => exact h
  | some g =>
    simp only [Bool.and_eq_true, Bool.not_eq_true'] at h
    exact ⟨(sl.e X S Z G g h.1).pe, h.2⟩

section
variable {a b c e r : E}
theorem n_u {op : U} (sa : Snd C a) : Snd C (.u op a) := by
  refine .gen (fun X S Z G e h => ?_) (fun _ _ _ => rfl) (fun _ _ => rfl) (fun _ _ _ => rfl) fun _ => by simp only [evI]
  simp only [chkE] at h
  split at h
  · simp only [Bool.and_eq_true, decide_eq_true_eq] at h
    obtain ⟨rfl, h⟩ := h
    exact .plain (PE.mono (pe_un u_neg (sa.e X S Z G _ h).pe) fun σ H Q q => uV q) rfl
  · simp only [Bool.and_eq_true, Bool.or_eq_true] at h
    obtain ⟨⟨⟨h1 | h1, h2⟩, h3⟩, h4⟩ := h
    · exact .plain (s_uFn G.g h1 h2 (sa.e X S Z G _ h3).pe h4) rfl
    · exact .plain (s_uTy G.g h1 h2 (sa.e X S Z G _ h3).pe h4) rfl
  · simp only [Bool.and_eq_true, decide_eq_true_eq] at h
    obtain ⟨⟨⟨⟨⟨h1, h2⟩, h3⟩, h4⟩, h5⟩, h6⟩ := h
    exact .plain (s_uIsi G.g h1 h2 h3 h4 (sa.e X S Z G _ h5).pe h6) rfl
  · simp only [Bool.and_eq_true, Bool.or_eq_true, decide_eq_true_eq] at h
    obtain ⟨⟨rfl, rfl⟩ | ⟨rfl, rfl⟩, h3⟩ := h
    · obtain ⟨p1, p2⟩ := s_isN (X := X) (C := C) (Z := Z) (sa.e X S Z G _ h3).pe
      exact ⟨p1, fun _ => p2, fun _ _ _ q => by cases q⟩
    · obtain ⟨p1, p2⟩ := s_notN (X := X) (C := C) (Z := Z) (sa.e X S Z G _ h3).pe
      exact ⟨p1, fun _ => p2, fun _ _ _ q => by cases q⟩
  · cases h
theorem n_b {op : B} (sa : Snd C a) (sb : Snd C b) : Snd C (.b op a b) := by
  refine .gen (fun X S Z G e h => ?_) (fun _ _ _ => rfl) (fun _ _ => rfl) (fun _ _ _ => rfl) fun _ => by simp only [evI]
  simp only [chkE] at h
  split at h
  · simp only [Bool.and_eq_true] at h
    exact .plain (s_bin G.z h.1.1 (sa.e X S Z G _ h.1.2).pe (sb.e X S Z G _ h.2).pe) rfl
  · simp only [Bool.and_eq_true] at h
    obtain ⟨p1, p2⟩ := s_cmp (X := X) (C := C) (Z := Z) G.z G.g h.1.1.1 (sa.e X S Z G _ h.1.1.2).pe (sb.e X S Z G _ h.1.2).pe h.2
    exact ⟨p1, fun _ => p2, fun _ _ _ q => by cases q⟩
  · simp only [Bool.and_eq_true, decide_eq_true_eq] at h
    obtain ⟨⟨⟨rfl, h2⟩, h3⟩, h4⟩ := h
    exact .plain (s_ix G.z (sa.e X S Z G _ h2).pe (sb.e X S Z G _ h3).pe h4) rfl
  · simp only [Bool.and_eq_true] at h
    obtain ⟨⟨⟨⟨⟨h1, h2⟩, h3⟩, h4⟩, h5⟩, h6⟩ := h
    exact .plain (s_b2 G.z G.g h1 h2 (sa.e X S Z G _ h3).pe (sb.e X S Z G _ h4).pe h5 h6) rfl
  · cases h
theorem n_ixs {i : Nat} (sb : Snd C b) : Snd C (.ixs i b) := by
  refine .gen (fun X S Z G e h => ?_) (fun _ _ _ => rfl) (fun _ _ => rfl) (fun _ _ _ => rfl) fun _ => by simp only [evI]
  simp only [chkE] at h
  split at h
  · simp only [Bool.and_eq_true] at h
    exact .plain (s_ixs G.g h.1.1 (sb.e X S Z G _ h.1.2).pe h.2) rfl
  · cases h
theorem n_slc (sa : Snd C a) (sb : Snd C b) (sc : Snd C c) : Snd C (.slc a b c) := by
  refine .gen (fun X S Z G e h => ?_) (fun _ _ _ => rfl) (fun _ _ => rfl) (fun _ _ _ => rfl) fun _ => by simp only [evI]
  simp only [chkE] at h
  split at h
  · simp only [Bool.and_eq_true] at h
    exact .plain (s_slc G.z (sa.e X S Z G _ h.1.1).pe (bdT_of G sb h.1.2) (bdT_of G sc h.2)) rfl
  · cases h
theorem n_and (sa : Snd C a) (sb : Snd C b) : Snd C (.and a b) := by
  refine .gen (fun X S Z G e h => ?_) (fun _ _ _ => rfl) (fun _ _ => rfl) (fun _ _ _ => rfl) fun _ => by simp only [evI]
  simp only [chkE] at h
  split at h
  · simp only [Bool.and_eq_true] at h
    obtain ⟨⟨⟨h1, h2⟩, h3⟩, h4⟩ := h
    rename_i pos
    have w := PW.mono (pw_and (pos := pos) ((sa.e X S Z G _ h1).t h3) (pw_and1 ((sb.e X S Z G _ h2).t h4))) fun σ H Q q => andT (C := C) G.z q
    exact ⟨PE.mono (pe_and (sa.e X S Z G _ h1).pe (pe_one (pe_own (sb.e X S Z G _ h2).pe))) fun σ H Q q => andV G.z q, fun _ => w.pt, fun op es p q => by cases q; exact w⟩
  · simp only [Bool.and_eq_true] at h
    obtain ⟨⟨h1, h3⟩, h2⟩ := h
    have w := PW.mono (pw_and ((sa.e X S Z G _ h1).t h3) ((sb.e X S Z G _ h2).w _ _ _ rfl)) fun σ H Q q => andT (C := C) G.z q
    exact ⟨PE.mono (pe_and (sa.e X S Z G _ h1).pe (pe_own (sb.e X S Z G _ h2).pe)) fun σ H Q q => andV G.z q, fun _ => w.pt, fun op es p q => by cases q; exact w⟩
  · cases h
theorem n_or (sa : Snd C a) (sb : Snd C b) : Snd C (.or a b) := by
  refine .gen (fun X S Z G e h => ?_) (fun _ _ _ => rfl) (fun _ _ => rfl) (fun _ _ _ => rfl) fun _ => by simp only [evI]
  simp only [chkE] at h
  split at h
  · simp only [Bool.and_eq_true] at h
    obtain ⟨⟨⟨h1, h2⟩, h3⟩, h4⟩ := h
    rename_i pos
    have w := PW.mono (pw_or (pos := pos) ((sa.e X S Z G _ h1).t h3) (pw_or1 ((sb.e X S Z G _ h2).t h4))) fun σ H Q q => orT (C := C) G.z q
    exact ⟨PE.mono (pe_or (sa.e X S Z G _ h1).pe (pe_one (pe_own (sb.e X S Z G _ h2).pe))) fun σ H Q q => orV G.z q, fun _ => w.pt, fun op es p q => by cases q; exact w⟩
  · simp only [Bool.and_eq_true] at h
    obtain ⟨⟨h1, h3⟩, h2⟩ := h
    have w := PW.mono (pw_or ((sa.e X S Z G _ h1).t h3) ((sb.e X S Z G _ h2).w _ _ _ rfl)) fun σ H Q q => orT (C := C) G.z q
    exact ⟨PE.mono (pe_or (sa.e X S Z G _ h1).pe (pe_own (sb.e X S Z G _ h2).pe)) fun σ H Q q => orV G.z q, fun _ => w.pt, fun op es p q => by cases q; exact w⟩
  · cases h
theorem n_not (sa : Snd C a) : Snd C (.not a) := by
  refine .gen (fun X S Z G e h => ?_) (fun _ _ _ => rfl) (fun _ _ => rfl) (fun _ _ _ => rfl) fun _ => by simp only [evI]
  simp only [chkE] at h
  split at h
  · simp only [Bool.and_eq_true] at h
    exact ⟨PE.mono (pe_not (sa.e X S Z G _ h.1).pe) fun σ H Q q => notV q, fun _ => PT.mono (pt_not ((sa.e X S Z G _ h.1).t h.2)) fun σ H Q q => notT q, fun op es p q => by cases q⟩
  · cases h
theorem n_ite (sc : Snd C c) (sa : Snd C a) (sb : Snd C b) : Snd C (.ite c a b) := by
  refine .gen (fun X S Z G e h => ?_) (fun _ _ _ => rfl) (fun _ _ => rfl) (fun _ _ _ => rfl) fun _ => by simp only [evI]
  simp only [chkE] at h
  split at h
  · simp only [Bool.and_eq_true] at h
    obtain ⟨⟨⟨h1, h2⟩, h3⟩, h4⟩ := h
    exact ⟨PE.mono (pe_ifExp ((sc.e X S Z G _ h1).t h2) (pe_own (sa.e X S Z G _ h3).pe) (pe_own (sb.e X S Z G _ h4).pe)) fun σ H Q q => iteV G.z q, fun k => absurd k Bool.false_ne_true, fun op es p q => by cases q⟩
  · cases h
theorem n_chain (sa : Snd C a) (sr : Snd C r) : Snd C (.chain a r) := by
  refine .gen (fun X S Z G e h => ?_) (fun _ _ _ => rfl) (fun _ _ => rfl) (fun _ _ _ => rfl) fun _ => by simp only [evI]
  simp only [chkE] at h
  split at h
  · simp only [Bool.and_eq_true] at h
    obtain ⟨c1, c2, c3⟩ := sr.c X S Z G _ _ h.2
    exact ⟨PE.mono (pe_ch (pe_own (sa.e X S Z G _ h.1).pe) c1 c3) fun σ H Q q => chV G.z q, fun _ => PT.mono (pt_ch (pe_own (sa.e X S Z G _ h.1).pe) c2 c3) fun σ H Q q => chT G.z q, fun op es p q => by cases q⟩
  · cases h
theorem n_ck {op : B} (sa : Snd C e) (sr : Snd C r) : Snd C (.ck op e r) := by
  refine ⟨fun X S Z G e h => by simp [chkE] at h, fun X S Z G os es h => ?_, fun X S Z G es h => by simp [chkA] at h, fun X S Z G tg e h => by simp [chkIt, isW, chkE] at h⟩
  simp only [chkC] at h
  split at h
  · simp only [Bool.and_eq_true] at h
    obtain ⟨⟨⟨h1, h2⟩, h3⟩, h4⟩ := h
    have he := pe_own (sa.e X S Z G _ h2).pe
    refine ⟨PCh.mono (pch_last (cmpB_op G.g h1) he) fun x σ H Q q => ?_, PCt.mono (pct_last (cmpB_op G.g h1) he) fun x σ H Q q => ?_, behind_of h3⟩
    · refine tO_map (ckV G.z q) fun y H1 q => ?_
      obtain ⟨F, d1, d2, φ1, φ2, rr, w1, w2, w3, w4, q⟩ := q
      refine ⟨F, d1, d2, φ1, φ2, rr, w1, w2, w3, w4, fun v H' n => ?_⟩
      obtain ⟨k, rfl, q⟩ := q v H' n
      rw [if_pos h4] at q
      exact q
    · refine tO_map (ckT G.z q) fun y H1 q => ?_
      obtain ⟨F, d1, d2, φ1, φ2, rr, w1, w2, w3, w4, q⟩ := q
      refine ⟨F, d1, d2, φ1, φ2, rr, w1, w2, w3, w4, fun v H' n => ?_⟩
      obtain ⟨k, rfl, q⟩ := q v H' n
      rw [if_pos h4] at q
      exact ⟨k, rfl, q⟩
  · simp only [Bool.and_eq_true, Bool.not_eq_true'] at h
    obtain ⟨⟨⟨⟨h1, h2⟩, h3⟩, h4⟩, h5⟩ := h
    have he := pe_own (sa.e X S Z G _ h2).pe
    obtain ⟨c1, c2, c3⟩ := sr.c X S Z G _ _ h5
    refine ⟨PCh.mono (pch_link (cmpB_op G.g h1) he c1) fun x σ H Q q => ?_, PCt.mono (pct_link (cmpB_op G.g h1) he c2) fun x σ H Q q => ?_, c3⟩
    · refine tO_map (ckV G.z q) fun y H1 q => ?_
      obtain ⟨F, d1, d2, φ1, φ2, rr, w1, w2, w3, w4, q⟩ := q
      refine ⟨F, d1, d2, φ1, φ2, rr, w1, w2, w3, w4, fun v H' n => ?_⟩
      obtain ⟨k, rfl, q⟩ := q v H' n
      rw [h4, if_neg Bool.false_ne_true] at q
      exact ⟨k, rfl, q⟩
    · refine tO_map (ckT G.z q) fun y H1 q => ?_
      obtain ⟨F, d1, d2, φ1, φ2, rr, w1, w2, w3, w4, q⟩ := q
      refine ⟨F, d1, d2, φ1, φ2, rr, w1, w2, w3, w4, fun v H' n => ?_⟩
      obtain ⟨k, rfl, q⟩ := q v H' n
      rw [h4, if_neg Bool.false_ne_true] at q
      exact ⟨k, rfl, q⟩
  · cases h
theorem n_lstE (sa : Snd C a) : Snd C (.lstE a) := by
  refine .gen (fun X S Z G e h => ?_) (fun _ _ _ => rfl) (fun _ _ => rfl) (fun _ _ _ => rfl) fun _ => by simp only [evI]
  simp only [chkE] at h
  split at h
  · exact .plain (s_lstE (sa.a X S Z G _ h)) rfl
  · cases h
theorem n_tupE (sa : Snd C a) : Snd C (.tupE a) := by
  refine .gen (fun X S Z G e h => ?_) (fun _ _ _ => rfl) (fun _ _ => rfl) (fun _ _ _ => rfl) fun _ => by simp only [evI]
  simp only [chkE] at h
  split at h
  · exact .plain (s_tupE (sa.a X S Z G _ h)) rfl
  · cases h
theorem chkA_star : ∀ {a : E} {es : List Expr} {S : Sc}, chkA a S es = true → es.all noStar = true ∧ (es = [] → a = .nil) := by
  intro a
  induction a with
  | nil =>
    intro es S h
    cases es with
    | nil => exact ⟨rfl, fun _ => rfl⟩
    | cons e es => simp [chkA] at h
  | cons a r _ ih =>
    intro es S h
    cases es with
    | nil => simp [chkA] at h
    | cons e es =>
      simp only [chkA, Bool.and_eq_true] at h
      simp [h.1.2, (ih h.2).1]
  | _ => intro es S h; simp [chkA] at h
theorem n_call {f : Nat} (sa : Snd C a) : Snd C (.call f a) := by
  refine .gen (fun X S Z G e h => ?_) (fun _ _ _ => rfl) (fun _ _ => rfl) (fun _ _ _ => rfl) fun _ => by simp only [evI]
  simp only [chkE] at h
  split at h
  · rename_i x p es pos
    simp only [Bool.and_eq_true, decide_eq_true_eq] at h
    obtain ⟨⟨h1, h2⟩, h3⟩ := h
    obtain ⟨k1, k2⟩ := chkA_star h3
    cases es with
    | nil =>
      have := k2 rfl
      subst this
      exact .plain (s_call0 G.z G.g (G.fn f _ h1) h2) rfl
    | cons e es => exact .plain (s_call G.z G.g (G.fn f _ h1) h2 (sa.a X S Z G _ h3) k1) rfl
  · cases h
theorem n_nil : Snd C .nil := by
  refine ⟨fun X S Z G e h => by simp [chkE] at h, fun X S Z G os es h => by simp [chkC] at h, fun X S Z G es h => ?_, fun X S Z G tg e h => by simp [chkIt, isW, chkE] at h⟩
  cases es with
  | nil => exact tA_nil
  | cons e es => simp [chkA] at h
theorem n_cons (sa : Snd C a) (sr : Snd C r) : Snd C (.cons a r) := by
  refine ⟨fun X S Z G e h => by simp [chkE] at h, fun X S Z G os es h => by simp [chkC] at h, fun X S Z G es h => ?_, fun X S Z G tg e h => by simp [chkIt, isW, chkE] at h⟩
  cases es with
  | nil => simp [chkA] at h
  | cons e es =>
    simp only [chkA, Bool.and_eq_true] at h
    obtain ⟨⟨h1, h2⟩, h3⟩ := h
    have hr := sr.a X S Z G _ h3
    split at h1
    · cases a <;> first | (rename_i hio; exact absurd hio Bool.false_ne_true) | skip
      cases e <;> first | (exact absurd h1 Bool.false_ne_true) | skip
      exact tA_io G.z G.g h1 hr
    · rename_i hio
      exact tA_cons G.z (by simpa using hio) (sa.e X S Z G _ h1).pe hr h2
theorem n_var {i : Nat} : Snd C (.var i) := by
  refine .gen (fun X S Z G e h => ?_) (fun _ _ _ => rfl) (fun _ _ => rfl) (fun _ _ _ => rfl) fun _ => by simp only [evI]
  cases e <;> first
    | (simp [chkE] at h; done)
    | skip
  exact .plain (s_var G.g (by simpa only [chkE] using h)) rfl
theorem n_mv {i : Nat} : Snd C (.mv i) := by
  refine .gen (fun X S Z G e h => ?_) (fun _ _ _ => rfl) (fun _ _ => rfl) (fun _ _ _ => rfl) fun _ => by simp only [evI]
  cases e <;> first
    | (simp [chkE] at h; done)
    | skip
  exact .plain (s_mv G.g (by simpa only [chkE] using h)) rfl
theorem chkP_plain {a : P} {e : Expr} (h : chkP S a e = true) : plainT e = true := by
  cases a <;> cases e <;> first
    | rfl
    | exact absurd h Bool.false_ne_true
theorem n_p {a : P} : Snd C (.p a) := by
  refine .gen (fun X S Z G e h => ?_) (fun _ _ _ => rfl) (fun _ _ => rfl) (fun _ _ _ => rfl) fun _ => by simp only [evI]
  simp only [chkE] at h
  exact .plain (s_p G.g h) (chkP_plain h)
theorem n_io {i : Nat} : Snd C (.io i) :=
  .none (fun _ e => by simp [chkE]) (fun _ _ _ => rfl) (fun _ _ => rfl) (fun _ _ _ => rfl) fun _ => by simp only [evI]
end
end MV

set_option Elab.async false
set_option linter.all false
set_option maxRecDepth 100000
set_option autoImplicit false
set_option maxHeartbeats 4000000
/-! MV, part P: what is walked, comprehensions; expressions put together. -/
namespace MV
open PySem PySem.Spec PyProof.Rows L2
variable {X : Cx} {S : Sc} {C : Nat → List D → CR} {Z : ZW} {K : PySem.W.Frag} {F F' F2 H H' H2 : Hp} {φ φ' φ2 ψ χ χ' : AS} {v : V} {d r : D} {σ : L2.St} {ρ ρ' ρ2 : List D}
section
variable {a b c e r : E}
theorem isZ_eq {a : E} (h : isZ a = true) : a = .p (.lit (.int 0)) := by
  unfold isZ at h
  split at h
  · rfl
  · cases h
theorem n_rng (sa : Snd C a) (sb : Snd C b) : Snd C (.rng a b) := by
  refine ⟨fun X S Z G e h => by simp [chkE] at h, fun X S Z G os es h => by simp [chkC] at h, fun X S Z G es h => by simp [chkA] at h, fun X S Z G tg e h => ?_⟩
  simp only [chkIt, isW, if_true, chkI] at h
  split at h
  · simp only [Bool.and_eq_true, decide_eq_true_eq] at h
    obtain ⟨⟨⟨⟨rfl, h2⟩, h3⟩, h4⟩, h5⟩ := h
    have := isZ_eq h3
    subst this
    exact s_rng1 G.z G.g h2 (sb.e X S Z G _ h4).pe h5
  · simp only [Bool.and_eq_true, decide_eq_true_eq] at h
    obtain ⟨⟨⟨⟨⟨rfl, h2⟩, h3⟩, h4⟩, h5⟩, h6⟩ := h
    exact s_rng2 G.z G.g h2 (sa.e X S Z G _ h3).pe (sb.e X S Z G _ h4).pe h5 h6
  · cases h
theorem n_enm (sa : Snd C a) : Snd C (.enm a) := by
  refine ⟨fun X S Z G e h => by simp [chkE] at h, fun X S Z G os es h => by simp [chkC] at h, fun X S Z G es h => by simp [chkA] at h, fun X S Z G tg e h => ?_⟩
  simp only [chkIt, isW, if_true, chkI] at h
  split at h
  · simp only [Bool.and_eq_true, decide_eq_true_eq] at h
    obtain ⟨⟨⟨rfl, h2⟩, h3⟩, h4⟩ := h
    exact s_enm G.z G.g h2 (sa.e X S Z G _ h3).pe h4
  · cases h
theorem n_zp (sa : Snd C a) (sb : Snd C b) : Snd C (.zp a b) := by
  refine ⟨fun X S Z G e h => by simp [chkE] at h, fun X S Z G os es h => by simp [chkC] at h, fun X S Z G es h => by simp [chkA] at h, fun X S Z G tg e h => ?_⟩
  simp only [chkIt, isW, if_true, chkI] at h
  split at h
  · simp only [Bool.and_eq_true, decide_eq_true_eq] at h
    obtain ⟨⟨⟨⟨⟨rfl, h2⟩, h3⟩, h4⟩, h5⟩, h6⟩ := h
    exact s_zp G.z G.g h2 (sa.e X S Z G _ h3).pe (sb.e X S Z G _ h4).pe h5 h6
  · cases h
theorem blkC_kind {N : List Str} {sc scope : Scope} {own : List (Str × Nat)} (h : blkC N sc scope own = true) : scope.kind = .function := (blkOk_by h).kind
theorem BlkOk.sc {N : List Str} {sc sc' scope : Scope} {own : List (Str × Nat)} (h : BlkOk N sc scope own) (e : sc'.names = sc.names) : BlkOk N sc' scope own :=
  ⟨h.kind, h.uniq, h.ix, fun y hy k => by rw [e]; exact h.free y hy k, h.own⟩
theorem ownP_snd (S : Sc) (ow : List Nat) : (ownP S ow).map (·.2) = ow := by
  unfold ownP
  rw [List.map_map]
  exact List.map_id _
/-- what a comprehension is made of -/
structure LcOk (X : Cx) (S : Sc) (C : Nat → List D → CR) (Z : ZW) (ow : List Nat) (t : T) (it c el : E) (elt tg iter : Expr) (ifs : List Expr) (scope : Scope) : Prop where
  i : PI X tg iter (tI X.K C Z it)
  ok : BlkOk X.N X.env.scope scope (ownP S ow)
  g : ∀ (s : Shared) (H : Hp) (ca : Addr) (cl : List (Str × Addr)) (fp : List Addr), PG (X.blk s H scope (compEnvC scope cl ca X.env) fp) tg (tG X.K t)
  tt : ∀ (s : Shared) (H : Hp) (ca : Addr) (cl : List (Str × Addr)) (fp : List Addr), PTs (X.blk s H scope (compEnvC scope cl ca X.env) fp) ifs (ttC X.K C c)
  e : ∀ (s : Shared) (H : Hp) (ca : Addr) (cl : List (Str × Addr)) (fp : List Addr), PE (X.blk s H scope (compEnvC scope cl ca X.env) fp) elt (tO X.K C Z0 el)
  s : ∀ x, foldedSetIterable iter X.env x = pure x
  o : ∀ i ∈ tgts t, i ∈ ow
theorem lcOk {ow : List Nat} {t : T} {it el : E} (si : Snd C it) (sc : Snd C c) (sl : Snd C el) (G : GoodC X S C Z) {elt tg iter : Expr} {ifs : List Expr} {scope : Scope} {pos : Pos} (h : chkE (.lc ow t it c el) S (.ListComp elt [⟨tg, iter, ifs, 0⟩] scope pos) = true) :
    LcOk X S C Z ow t it c el elt tg iter ifs scope := by
  simp only [chkE, Bool.and_eq_true] at h
  obtain ⟨⟨⟨⟨⟨⟨h1, h2⟩, h3⟩, h4⟩, h5⟩, h6⟩, h7⟩ := h
  have hk := blkC_kind h1
  refine ⟨si.i X S Z G _ _ h3, ?_, fun s H ca cl fp => (s_T (G.g.blk hk s H ca cl fp) t).1 _ h5, fun s H ca cl fp => ?_, fun s H ca cl fp => pe_own (sl.e _ _ _ (G.blk hk s H ca cl fp) _ h6).pe, folded_of h4 X.env, fun i hi => ?_⟩
  · have := BlkOk.sc (sc' := X.env.scope) (blkOk_by h1) (by rw [G.g.sc]; rfl)
    rw [← G.g.N] at this
    exact this
  · unfold ttC
    split at h7
    · rw [if_pos h7]; exact pts_nil
    · simp only [Bool.and_eq_true, Bool.not_eq_true'] at h7
      rw [if_neg (by rw [h7.2]; exact Bool.false_ne_true)]
      exact pts_one ((sc.e _ _ _ (G.blk hk s H ca cl fp) _ h7.1.1).t h7.1.2)
    · cases h7
  · unfold allIn at h2
    exact List.contains_iff_mem.mp (List.all_eq_true.mp h2 i hi)
theorem n_lc {ow : List Nat} {t : T} {it el : E} (si : Snd C it) (sc : Snd C c) (sl : Snd C el) : Snd C (.lc ow t it c el) := by
  refine .gen (fun X S Z G e h => ?_) (fun _ _ _ => rfl) (fun _ _ => rfl) (fun _ _ _ => rfl) fun _ => by simp only [evI]
  have h' := h
  simp only [chkE] at h'
  split at h'
  · have k := lcOk si sc sl G h
    refine .plain (PE.mono (pe_lc G.g.calm (by rw [G.g.N]; exact G.g.nd) k.i k.ok k.g k.tt k.e k.s) fun σ H Q q => ?_) rfl
    rw [ownP_snd]
    exact lcV k.o q
  · cases h'
theorem snd_all (C : Nat → List D → CR) : ∀ ie : E, Snd C ie := by
  intro ie
  induction ie with
  | p a => exact n_p
  | var i => exact n_var
  | mv i => exact n_mv
  | u op a ha => exact n_u ha
  | b op a b ha hb => exact n_b ha hb
  | ixs i b hb => exact n_ixs hb
  | slc a b c ha hb hc => exact n_slc ha hb hc
  | and a b ha hb => exact n_and ha hb
  | or a b ha hb => exact n_or ha hb
  | not a ha => exact n_not ha
  | ite c a b hc ha hb => exact n_ite hc ha hb
  | chain a r ha hr => exact n_chain ha hr
  | ck op e r he hr => exact n_ck he hr
  | lstE a ha => exact n_lstE ha
  | tupE a ha => exact n_tupE ha
  | call f a ha => exact n_call ha
  | io i => exact n_io
  | lc ow t it c e hi hc he => exact n_lc hi hc he
  | rng a b ha hb => exact n_rng ha hb
  | enm a ha => exact n_enm ha
  | zp a b ha hb => exact n_zp ha hb
  | nil => exact n_nil
  | cons a r ha hr => exact n_cons ha hr
end
end MV

set_option Elab.async false
set_option linter.all false
set_option maxRecDepth 100000
set_option autoImplicit false
set_option maxHeartbeats 4000000
/-! MV, part Q: statements, their readings. -/
namespace MV
open PySem PySem.Spec PyProof.Rows L2
variable {X : Cx} {S : Sc} {C : Nat → List D → CR} {Z : ZW} {K : PySem.W.Frag} {F F' F2 H H' H2 : Hp} {φ φ' φ2 ψ χ χ' : AS} {v : V} {d r : D} {σ σ' σ2 : L2.St} {ρ ρ' ρ2 : List D} {W : Nat}

def Kept (keep : List Nat) (σ σ' : L2.St) : Prop := ∀ j ∈ keep, σ'[j]? = σ[j]?
theorem Kept.refl {keep : List Nat} (σ : L2.St) : Kept keep σ σ := fun _ _ => rfl
theorem Kept.trans {keep : List Nat} {a b c : L2.St} (h : Kept keep a b) (h' : Kept keep b c) : Kept keep a c := fun j q => (h' j q).trans (h j q)
theorem Kept.set {keep : List Nat} {i : Nat} {x : Option V} (h : i ∉ keep) : Kept keep σ (σ.set i x) := fun j q => List.getElem?_set_ne fun e => h (by rw [e]; exact q)
def ZSok (keep : List Nat) (Z : ZW) : Prop := ∀ F H φ F' H' φ' σ σ' x ρ, Ext F H φ F' H' φ' → Kept keep σ σ' → Z F H σ φ x ρ → Z F' H' σ' φ' x ρ
/-- behind a statement -/
def SPost (K : PySem.W.Frag) (Z : ZW) (keep : List Nat) (F H : Hp) (σ : L2.St) (φ : AS) (r : SR) (D : Ends) : Prop := match r with
  | .next ρ' => ∀ σ' F' H' φ', Ext F H φ F' H' φ' → Sep K F' H' σ' ρ' φ' → Kept keep σ σ' → D.nx σ' H'
  | .brk ρ' => ∀ σ' F' H' φ', Ext F H φ F' H' φ' → Sep K F' H' σ' ρ' φ' → Kept keep σ σ' → D.bk σ' H'
  | .cnt ρ' => ∀ σ' F' H' φ', Ext F H φ F' H' φ' → Sep K F' H' σ' ρ' φ' → Kept keep σ σ' → D.ct σ' H'
  | .ret d ρ' => ∀ v σ' F' H' φd φ', Ext F H φ F' H' (uni φd φ') → Tm K F' H' v d φd → Sep K F' H' σ' ρ' φ' → dsj φd φ' → Kept keep σ σ' → D.rt v H'
  | .exc x ρ' => Z F H σ φ x ρ'
  | .bad => False
def tM (K : PySem.W.Frag) (C : Nat → List D → CR) (Z : ZW) (W : Nat) (keep : List Nat) (s : MV.S) : TS := fun D σ H => ∃ F ρ φ, Sep K F H σ ρ φ ∧ SPost K Z keep F H σ φ (evS C W s ρ) D
variable {keep : List Nat} {D0 D1 : Ends}
theorem SPost.step {r : SR} (hZ : ZSok keep Z) (h : SPost K Z keep F H σ φ r D0) (x : Ext F H φ F' H' φ') (k : Kept keep σ σ') : SPost K Z keep F' H' σ' φ' r D0 := by
  cases r with
  | next ρ' => exact fun σ2 F2 H2 φ2 y s k2 => h σ2 F2 H2 φ2 (x.trans y) s (k.trans k2)
  | brk ρ' => exact fun σ2 F2 H2 φ2 y s k2 => h σ2 F2 H2 φ2 (x.trans y) s (k.trans k2)
  | cnt ρ' => exact fun σ2 F2 H2 φ2 y s k2 => h σ2 F2 H2 φ2 (x.trans y) s (k.trans k2)
  | ret d ρ' => exact fun v σ2 F2 H2 φd φ2 y t s n k2 => h v σ2 F2 H2 φd φ2 (x.trans y) t s n (k.trans k2)
  | exc e ρ' => exact hZ _ _ _ _ _ _ _ _ _ _ x k h
  | bad => exact h
theorem SPost.toS {r : ER} {f : D → List D → SR} (h : SPost K Z keep F H σ φ (r.toS f) D0) : (∃ d ρ, r = .ok d ρ ∧ SPost K Z keep F H σ φ (f d ρ) D0) ∨ (∃ x ρ, r = .exc x ρ ∧ Z F H σ φ x ρ) := by
  cases r with
  | ok d ρ => exact .inl ⟨d, ρ, rfl, h⟩
  | exc x ρ => exact .inr ⟨x, ρ, rfl, h⟩
  | bad => exact False.elim h
theorem SPost.toSL {r : LR} {f : List D → List D → SR} (h : SPost K Z keep F H σ φ (r.toS f) D0) : (∃ d ρ, r = .ok d ρ ∧ SPost K Z keep F H σ φ (f d ρ) D0) ∨ (∃ x ρ, r = .exc x ρ ∧ Z F H σ φ x ρ) := by
  cases r with
  | ok d ρ => exact .inl ⟨d, ρ, rfl, h⟩
  | exc x ρ => exact .inr ⟨x, ρ, rfl, h⟩
  | bad => exact False.elim h
theorem SPost.onOS {o : Option D} {f : D → SR} (h : SPost K Z keep F H σ φ (MV.onOS o f) D0) : ∃ x, o = some x ∧ SPost K Z keep F H σ φ (f x) D0 := by
  cases o with
  | some x => exact ⟨x, rfl, h⟩
  | none => exact False.elim h
theorem SPost.onRS {o : Option (List D)} {f : List D → SR} (h : SPost K Z keep F H σ φ (MV.onRS o f) D0) : ∃ x, o = some x ∧ SPost K Z keep F H σ φ (f x) D0 := by
  cases o with
  | some x => exact ⟨x, rfl, h⟩
  | none => exact False.elim h
theorem SPost.onBS {d : D} {t f : SR} (h : SPost K Z keep F H σ φ (MV.onBS d t f) D0) : ∃ k, d = .bl k ∧ SPost K Z keep F H σ φ (if k then t else f) D0 := by
  cases d with
  | bl k => cases k <;> exact ⟨_, rfl, h⟩
  | _ => exact False.elim h

structure GoodS (X : Cx) (S : Sc) (C : Nat → List D → CR) (Z : ZW) : Prop where
  c : GoodC X S C Z
  z : ZSok S.keep Z
  own : PassesOwn (model X.prog X.w) X.A X.env X.xe

/-! ### blocks -/
theorem q_skip : PSs X [] (tM X.K C Z W keep .skip) := PSs.mono pss_nil fun D σ H ⟨F, ρ, φ, z, h⟩ => by
  simp only [evS] at h
  exact h σ F H φ (Ext.refl z.le) z (Kept.refl σ)
theorem q_seq (hZ : ZSok keep Z) {a b : MV.S} {st : Stmt} {rest : List Stmt} (ha : PS X st (tM X.K C Z W keep a)) (hb : PSs X rest (tM X.K C Z W keep b)) : PSs X (st :: rest) (tM X.K C Z W keep (.seq a b)) :=
  PSs.mono (pss_cons ha hb) fun D σ H ⟨F, ρ, φ, z, h⟩ => by
    simp only [evS] at h
    refine ⟨F, ρ, φ, z, ?_⟩
    cases hr : evS C W a ρ with
    | next ρ1 => rw [hr] at h; exact fun σ' F' H' φ' x s k => ⟨F', ρ1, φ', s, SPost.step hZ h x k⟩
    | brk ρ1 => rw [hr] at h; exact h
    | cnt ρ1 => rw [hr] at h; exact h
    | ret d ρ1 => rw [hr] at h; exact h
    | exc x ρ1 => rw [hr] at h; exact h
    | bad => rw [hr] at h; exact h
theorem q_never {sts : List Stmt} : PSs X sts (tM X.K C Z W keep .never) := PSs.mono pss_never fun D σ H ⟨F, ρ, φ, z, h⟩ => by
  simp only [evS] at h
  exact h
theorem q_never1 {st : Stmt} : PS X st (tM X.K C Z W keep .never) := PS.mono ps_never fun D σ H ⟨F, ρ, φ, z, h⟩ => by
  simp only [evS] at h
  exact h
theorem skipS (D : Ends) (σ : L2.St) (H : Hp) (h : tM K C Z W keep .skip D σ H) : D.nx σ H := by
  obtain ⟨F, ρ, φ, z, h⟩ := h
  simp only [evS] at h
  exact h σ F H φ (Ext.refl z.le) z (Kept.refl σ)
/-! ### small statements -/
theorem retV {e : E} {D : Ends} (h : tM K C Z W keep (.ret e) D σ H) : tO K C Z e σ H D.rt := by
  obtain ⟨F, ρ, φ, z, h⟩ := h
  simp only [evS] at h
  refine ⟨F, ρ, φ, z, ?_⟩
  rcases h.toS with ⟨d, ρ1, he, h⟩ | ⟨x, ρ1, he, h⟩
  · rw [he]; exact fun v F1 H1 φd φ1 x t s n => h v σ F1 H1 φd φ1 x t s n (Kept.refl σ)
  · rw [he]; exact h
theorem asgV (hZ : ZSok keep Z) {t : T} {e : E} {D : Ends} (hk : ∀ i ∈ tgts t, i ∉ keep) (h : tM K C Z W keep (.asg t e) D σ H) : tO K C Z e σ H fun x H1 => tG K t x σ H1 D.nx := by
  obtain ⟨F, ρ, φ, z, h⟩ := h
  simp only [evS] at h
  refine ⟨F, ρ, φ, z, ?_⟩
  rcases h.toS with ⟨d, ρ1, he, h⟩ | ⟨x, ρ1, he, h⟩
  · rw [he]
    intro v F1 H1 φd φ1 x t s n
    obtain ⟨ρ2, hb, h⟩ := h.onRS
    exact ⟨F1, ρ1, φ1, d, φd, s, t, n, ρ2, hb, fun σ' F' H' φ' y s' k l => h σ' F' H' φ' (x.trans y) s' fun j hj => k j fun z => hk j z hj⟩
  · rw [he]; exact h
theorem iteS (hZ : ZSok keep Z) {c : E} {a b : MV.S} {D : Ends} (h : tM K C Z W keep (.ite c a b) D σ H) : tIfS (tT K C Z c) (tM K C Z W keep a) (tM K C Z W keep b) D σ H := by
  obtain ⟨F, ρ, φ, z, h⟩ := h
  simp only [evS] at h
  refine ⟨F, ρ, φ, z, ?_⟩
  rcases h.toS with ⟨d, ρ1, he, h⟩ | ⟨x, ρ1, he, h⟩
  · rw [he]
    obtain ⟨k, rfl, h⟩ := h.onBS
    refine ⟨k, rfl, fun F1 H1 φ1 x s => ?_⟩
    cases k with
    | true => exact ⟨F1, ρ1, φ1, s, SPost.step hZ h x (Kept.refl σ)⟩
    | false => exact ⟨F1, ρ1, φ1, s, SPost.step hZ h x (Kept.refl σ)⟩
  · rw [he]; exact h
theorem exV {e : E} {D : Ends} (h : tM K C Z W keep (.ex e) D σ H) : tV K C Z e σ H fun _ H1 => D.nx σ H1 := by
  obtain ⟨F, ρ, φ, z, h⟩ := h
  simp only [evS] at h
  refine ⟨F, ρ, φ, z, ?_⟩
  rcases h.toS with ⟨d, ρ1, he, h⟩ | ⟨x, ρ1, he, h⟩
  · rw [he]; exact fun v F1 H1 φd φ1 x t s n p => h σ F1 H1 φ1 x.mine s (Kept.refl σ)
  · rw [he]; exact h

/-! ### an owned list in a slot is written -/
theorem upd_list {i : Nat} {xs : List D} {dn : D} {vn : V} {φd : AS} (s : Sep K F H σ ρ φ) (hs : ρ[i]? = some (.lst true xs)) (t : Tm K F H vn dn φd) (n : dsj φd φ) :
    ∃ p vs, σ[i]? = some (some (.ref p)) ∧ H p = some (.lst vs) ∧ vs.length = xs.length ∧ ∀ (vs' : List V) (xs' : List D) (f : Nat → Option Nat), vs'.length = xs'.length →
      (∀ (k : Nat) (v : V) (d : D), vs'[k]? = some v → xs'[k]? = some d → (∃ j, f k = some j ∧ vs[j]? = some v ∧ xs[j]? = some d) ∨ (f k = none ∧ v = vn ∧ d = dn.fz)) → (∀ k l j, f k = some j → f l = some j → k = l) →
      ∃ F', Ext F H (uni φd φ) F' (upd H p (.lst vs')) φ ∧ Sep K F' (upd H p (.lst vs')) σ (ρ.set i (.lst true xs')) φ := by
  obtain ⟨v, φ1, φ2, e1, t1, s2, d1, k1, k2⟩ := s.take hs (fun z => by cases z)
  cases t1.ow with
  | lst1 ψ a f p l c dj sb =>
    rename_i p0 vs
    refine ⟨_, vs, e1, a, l, fun vs' xs' g hl hg inj => ?_⟩
    have n1 : dsj φd φ1 := fun b q w => n b q (k1 b w)
    have n2 : dsj φd φ2 := fun b q w => n b q (k2 b w)
    have fp : frz F H φd p0 = none := by rw [frz_out fun z => n1 _ z p]; exact f
    have w : Ext (frz F H φd) H (fun b => b = p0) (frz F H φd) (upd H p0 (.lst vs')) (fun b => b = p0) := Ext.write (frz_le s.le) fp a
    have np2 : ¬ φ2 p0 := d1 p0 p
    -- the rest
    obtain ⟨s3, _⟩ := s2.past (χ' := em) (Ext.freeze (ψ := φd) (φ' := em) s.le (fun a q => q) fun a q => q.elim) n2.symm
    obtain ⟨s4, _⟩ := s3.past w fun b q e => np2 (e ▸ q)
    -- the list
    have z : Ext F H (uni φd φ) (frz F H φd) (upd H p0 (.lst vs')) φ := by
      have z1 : Ext F H (uni φd φ) (frz F H φd) H φ := Ext.freeze s.le (fun _ q => .inl q) fun _ q => .inr q
      have z2 : Ext (frz F H φd) H φ (frz F H φd) (upd H p0 (.lst vs')) φ := ⟨w.f, w.le, fun b o q m => w.k b o q fun e => m (e ▸ k1 _ p), fun b o q m => w.n b o q fun e => m (e ▸ k1 _ p), fun b o q _ => q⟩
      exact z1.trans z2
    refine ⟨frz F H φd, z, ?_⟩
    have tl : Tm K (frz F H φd) (upd H p0 (.lst vs')) (.ref p0) (.lst true xs') φ1 := by
      refine ⟨.lst1 (fun k => match g k with | some j => ψ j | none => em) upd_same fp p hl (fun k v d hv hd => ?_) (fun k l kl b q w => ?_) (fun k b q => ?_), fun b q => ?_⟩
      · rcases hg k v d hv hd with ⟨j, e, h1, h2⟩ | ⟨e, rfl, rfl⟩
        · simp only [e]
          refine (c j v d h1 h2).keep (frz_ge s.le) (fun b o q w => ?_) (fun b o q w fb => ?_) fun _ q => q
          · rw [upd_ne (sb j b q).2]; exact w
          · rw [frz_out fun z => n1 b z (sb j b q).1]; exact fb
        · simp only [e]
          exact (t.ow.freeze s.le (fun _ q => q) em (upd H p0 (.lst vs')))
      · cases e : g k with
        | none => simp only [e] at q; exact q.elim
        | some j =>
          cases e' : g l with
          | none => simp only [e'] at w; exact w.elim
          | some j' =>
            simp only [e] at q
            simp only [e'] at w
            exact dj j j' (fun z => kl (inj k l j e (z ▸ e'))) b q w
      · cases e : g k with
        | none => simp only [e] at q; exact q.elim
        | some j => simp only [e] at q; exact sb j b q
      · by_cases hb : b = p0
        · exact ⟨_, by rw [hb]; exact upd_same⟩
        · rw [upd_ne hb]; exact t1.tr b q
    have s5 := s4.put tl d1 i
    rw [set_self e1, set_set] at s5
    exact s5.sub (fun b q => q.elim (k1 b) (k2 b)) fun b q => by
      by_cases hb : b = p0
      · exact ⟨_, by rw [hb]; exact upd_same⟩
      · rw [upd_ne hb]; exact s.tr b q
theorem setF_some {x d j r : D} (h : setF x d j = some r) : ∃ xs jj n, x = .lst true xs ∧ j = .int jj ∧ ixN xs.length jj = some n ∧ r = .lst true (xs.set n d) := by
  unfold setF at h
  split at h
  · obtain ⟨n, h1, h2⟩ := Option.map_eq_some_iff.mp h
    exact ⟨_, _, n, rfl, rfl, h1, h2.symm⟩
  · cases h
theorem appF_some {x d r : D} (h : appF x d = some r) : ∃ xs, x = .lst true xs ∧ xs.length < sizeLine ∧ r = .lst true (xs ++ [d]) := by
  unfold appF at h
  split at h
  · split at h
    · cases h; exact ⟨_, rfl, by assumption, rfl⟩
    · cases h
  · cases h
theorem at_set {α β : Type} {vs : List α} {xs : List β} {j : Nat} {v : α} {d : β} {k : Nat} {y : α} {e : β} (l : vs.length = xs.length) (hv : (vs.set j v)[k]? = some y) (hd : (xs.set j d)[k]? = some e) :
    (∃ j', (if k = j then (none : Option Nat) else some k) = some j' ∧ vs[j']? = some y ∧ xs[j']? = some e) ∨ ((if k = j then (none : Option Nat) else some k) = none ∧ y = v ∧ e = d) := by
  rcases set_at hv with ⟨h1, _, h2⟩ | ⟨h1, h2⟩
  · rcases set_at hd with ⟨_, _, h4⟩ | ⟨h3, _⟩
    · exact .inr ⟨if_pos h1, h2, h4⟩
    · exact absurd h1 h3
  · rcases set_at hd with ⟨h3, _, _⟩ | ⟨h3, h4⟩
    · exact absurd h3 h1
    · exact .inl ⟨k, if_neg h1, h2, h4⟩
/-- a turn of the list: set -/
theorem set_slot {i : Nat} {xs : List D} {dn : D} {vn : V} {φd : AS} {jj : Int} {j : Nat} (s : Sep K F H σ ρ φ) (hs : ρ[i]? = some (.lst true xs)) (t : Tm K F H vn dn φd) (n : dsj φd φ) (hj : ixN xs.length jj = some j) :
    ∃ p vs, σ[i]? = some (some (.ref p)) ∧ H p = some (.lst vs) ∧ ixN vs.length jj = some j ∧ ∃ F', Ext F H (uni φd φ) F' (upd H p (.lst (vs.set j vn))) φ ∧ Sep K F' (upd H p (.lst (vs.set j vn))) σ (ρ.set i (.lst true (xs.set j dn.fz))) φ := by
  obtain ⟨p, vs, h1, h2, h3, h4⟩ := upd_list s hs t n
  refine ⟨p, vs, h1, h2, by rw [h3]; exact hj, h4 _ _ (fun k => if k = j then none else some k) (by simp [h3]) (fun k v d hv hd => at_set h3 hv hd) fun k l m e e' => ?_⟩
  split at e
  · cases e
  · split at e'
    · cases e'
    · cases e; cases e'; rfl
theorem app_slot {i : Nat} {xs : List D} {dn : D} {vn : V} {φd : AS} (s : Sep K F H σ ρ φ) (hs : ρ[i]? = some (.lst true xs)) (t : Tm K F H vn dn φd) (n : dsj φd φ) :
    ∃ p vs, σ[i]? = some (some (.ref p)) ∧ H p = some (.lst vs) ∧ vs.length = xs.length ∧ ∃ F', Ext F H (uni φd φ) F' (upd H p (.lst (vs ++ [vn]))) φ ∧ Sep K F' (upd H p (.lst (vs ++ [vn]))) σ (ρ.set i (.lst true (xs ++ [dn.fz]))) φ := by
  obtain ⟨p, vs, h1, h2, h3, h4⟩ := upd_list s hs t n
  refine ⟨p, vs, h1, h2, h3, h4 _ _ (fun k => if k < xs.length then some k else none) (by simp [h3]) (fun k v d hv hd => ?_) fun k l m e e' => ?_⟩
  · rcases cat_at hv with ⟨g1, g2⟩ | ⟨g1, g2⟩
    · rcases cat_at hd with ⟨g3, g4⟩ | ⟨g3, g4⟩
      · exact .inl ⟨k, if_pos g3, g2, g4⟩
      · omega
    · rcases cat_at hd with ⟨g3, g4⟩ | ⟨g3, g4⟩
      · omega
      · have e1 : k - vs.length = 0 := by
          have := (List.getElem?_eq_some_iff.mp g2).1
          simp at this
          omega
        have e2 : k - xs.length = 0 := by omega
        rw [e1] at g2
        rw [e2] at g4
        cases (Option.some.inj g2)
        cases (Option.some.inj g4)
        exact .inr ⟨if_neg (by omega), rfl, rfl⟩
  · split at e
    · split at e'
      · cases e; cases e'; rfl
      · cases e'
    · cases e
end MV

set_option Elab.async false
set_option linter.all false
set_option maxRecDepth 100000
set_option autoImplicit false
set_option maxHeartbeats 4000000
/-! MV, part R: statements that write lists, loops. -/
namespace MV
open PySem PySem.Spec PyProof.Rows L2
variable {X : Cx} {S : Sc} {C : Nat → List D → CR} {Z : ZW} {K : PySem.W.Frag} {F F' F2 H H' H2 : Hp} {φ φ' φ2 ψ χ χ' : AS} {v : V} {d r : D} {σ σ' σ2 : L2.St} {ρ ρ' ρ2 : List D} {W : Nat}
variable {keep : List Nat} {D0 D1 : Ends}

theorem get_list : PGet X (rIxL X.K) := by
  intro pins s σ H x y v u Q I rx ry h
  obtain ⟨p, xs, i, z, rfl, rfl, hq, he, q⟩ := h
  cases rx
  obtain ⟨t, rfl⟩ := ry
  obtain ⟨its, r, pl, hz⟩ := I.list hq
  obtain ⟨j, h1, h2, h3, h4, h5⟩ := atI_get he
  obtain ⟨w, ew, rw'⟩ := r.get h2
  have hl := r.length
  have hn := line63
  have fin : EP X pins σ Q w s := ⟨z, H, I, rw', q⟩
  by_cases h0 : 0 ≤ i
  · have hj : i.toNat = j := by
      rw [seqIndex_of h0 h5] at h1
      exact Option.some.inj h1
    exact wpAny_getItem_list pl.isList h0 (by omega) (by rw [hj]; simpa using ew) fin
  · have hj : (i + (its.toArray.size : Int)).toNat = j := by
      rw [seqIndex_neg (by omega) h4] at h1
      rw [List.size_toArray, ← hl]
      exact Option.some.inj h1
    exact wpAny_getItem_list_neg pl.isList (by omega) (by rw [List.size_toArray]; omega) (by omega) (by rw [hj]; simpa using ew) fin

/-! ### lists -/
theorem isL_some {x y : D} (h : isL x = some y) : ∃ o xs, x = .lst o xs := by
  cases x <;> first | exact ⟨_, _, rfl⟩ | cases h
theorem intF_some {x y : D} (h : intF x = some y) : ∃ i, x = .int i := by
  cases x <;> first | exact ⟨_, rfl⟩ | cases h
theorem q_app (hZ : ZSok keep Z) (G : Good X S) {i : Nat} {x : Str} {e : E} {f : Expr} {p ap cp pos : Pos} (hv : S.vis i x = true) (he : PE X f (tV X.K C Z e)) (hs : noStar f = true) (hl : (ap.endLine == cp.line) = true) :
    PS X (.Expr (.Call (.Attribute (.Name x p) "append" ap) [f] [] cp) pos) (tM X.K C Z W keep (.app i e)) := by
  obtain ⟨h1, h2, h3, h4⟩ := vis_of G hv
  refine PS.mono (ps_expr (pe_bm PySem.F.plainAttrs_list PySem.F.slot_list_append PySem.F.type_list_append mt_append (pe_var h1 h2 h3 h4) (pa_cons (pe_own he) pa_nil (star_of hs X.env)) rfl (by rw [star_of hs]; rfl) hl (star_of hs X.env) (by rfl))) fun D σ H ⟨F, ρ, φ, z, h⟩ => ?_
  simp only [evS] at h
  obtain ⟨dx, hx, h⟩ := h.onOS
  obtain ⟨_, hil, h⟩ := h.onOS
  obtain ⟨o, xs, rfl⟩ := isL_some hil
  obtain ⟨hx, nu⟩ := slot_some hx
  obtain ⟨vx, e1, ox⟩ := z.get hx nu
  obtain ⟨a, vs, rfl, ha, _⟩ := ox.lst z.le
  refine ⟨_, e1, .inl ⟨rfl, vs, .of ha⟩, F, ρ, φ, z, ?_⟩
  rcases h.toS with ⟨d, ρ1, ho, h⟩ | ⟨x, ρ', ho, h⟩
  · rw [ho]
    intro v F1 H1 φd φ1 x1 t s n
    obtain ⟨x1', hx1, h⟩ := h.onOS
    obtain ⟨w, hw, h⟩ := h.onOS
    obtain ⟨ys, rfl, hy, rfl⟩ := appF_some hw
    obtain ⟨hx1, _⟩ := slot_some hx1
    obtain ⟨q, ws, g1, g2, g3, F2, x2, s2⟩ := app_slot s hx1 t n
    rw [e1] at g1
    cases g1
    exact ⟨a, ws, v, rfl, rfl, g2, by rw [g3]; exact hy, h σ _ _ _ (x1.trans x2) s2 (Kept.refl σ)⟩
  · rw [ho]; exact h
theorem q_setIx (hZ : ZSok keep Z) (hz : Zok Z) (G : Good X S) {i : Nat} {x : Str} {k e : E} {f g : Expr} {p tp pos : Pos} (hv : S.vis i x = true) (hk : PE X f (tV X.K C Z k)) (hs : noSlice f = true) (he : PE X g (tV X.K C Z e)) :
    PS X (.Assign [.Subscript (.Name x p) f tp] g pos) (tM X.K C Z W keep (.setIx i k e)) := by
  obtain ⟨h1, h2, h3, h4⟩ := vis_of G hv
  refine PS.mono (ps_asg (pe_own he) (pg_sub (pe_var h1 h2 h3 h4) (pe_own hk) set_list (by intro v; cases f <;> first | rfl | exact absurd hs Bool.false_ne_true)) (by cases g <;> rfl) (by cases g <;> rfl)) fun D σ H ⟨F, ρ, φ, z, h⟩ => ?_
  simp only [evS] at h
  refine ⟨F, ρ, φ, z, ?_⟩
  rcases h.toS with ⟨d, ρ1, ho, h⟩ | ⟨x, ρ', ho, h⟩
  · rw [ho]
    intro v F1 H1 φd φ1 x1 t s n
    rcases h.toS with ⟨j, ρ2, hj, h⟩ | ⟨x, ρ', hj, h⟩
    · cases hsl : slot ρ1 i with
      | none => rw [hsl] at hj; cases hj
      | some dx =>
        rw [hsl] at hj
        obtain ⟨hsl, nu⟩ := slot_some hsl
        obtain ⟨vx, e1, _⟩ := s.get hsl nu
        refine ⟨vx, e1, F1, ρ1, φ1, s, ?_⟩
        have hj' : own k (evE C k ρ1) = .ok j ρ2 := hj
        rw [hj']
        intro y F2 H2 φy φ2 x2 t2 s2 n2
        obtain ⟨t', nt⟩ := t.past x2 n
        obtain ⟨dx2, hx2, h⟩ := h.onOS
        obtain ⟨w, hw, h⟩ := h.onOS
        obtain ⟨xs, jj, m, rfl, rfl, hm, rfl⟩ := setF_some hw
        obtain ⟨hx2, _⟩ := slot_some hx2
        cases t2.ow
        obtain ⟨q, ws, g1, g2, g3, F3, x3, s3⟩ := set_slot s2 hx2 t' (fun a q w => nt a q (.inr w)) hm
        rw [e1] at g1
        cases g1
        refine ⟨q, ws, jj, m, rfl, rfl, g2, g3, h σ _ _ φ2 ?_ s3 (Kept.refl σ)⟩
        have a1 : Ext F H φ F2 H2 (uni φd φ2) := by
          have a0 := x1.mine.trans x2.mine
          refine ⟨a0.f, a0.le, a0.k, a0.n, fun a o z w => z.elim (fun z => ?_) fun z => a0.s a o z w⟩
          obtain ⟨o', e'⟩ := t.tr a z
          by_cases p : φ a
          · exact p
          · exact x1.s a o (.inl z) w
        exact a1.trans x3
    · cases hsl : slot ρ1 i with
      | none => rw [hsl] at hj; cases hj
      | some dx =>
        rw [hsl] at hj
        obtain ⟨hsl, nu⟩ := slot_some hsl
        obtain ⟨vx, e1, _⟩ := s.get hsl nu
        refine ⟨vx, e1, F1, ρ1, φ1, s, ?_⟩
        have hj' : own k (evE C k ρ1) = .exc x ρ' := hj
        rw [hj']
        exact hz _ _ _ _ _ _ _ _ _ x1.mine h
  · rw [ho]; exact h
theorem tip_of {op : B} {o : Operator} (h : (match op, o with | .add, .Add => true | .sub, .Sub => true | _, _ => false) = true) : ∃ g : Int → Int → Int, PIp X o (ipI g) ∧ ∀ i j z k, bF op (.int i) j = some z → intF z = some k → ∃ m, j = .int m ∧ z = .int (g i m) := by
  cases op <;> cases o <;> first | exact absurd h Bool.false_ne_true | skip
  · refine ⟨_, ip_add, fun i j z k h _ => ?_⟩
    cases j <;> first | (cases h; done) | skip
    cases h; exact ⟨_, rfl, rfl⟩
  · refine ⟨_, ip_sub, fun i j z k h _ => ?_⟩
    cases j <;> first | (cases h; done) | skip
    cases h; exact ⟨_, rfl, rfl⟩
theorem q_aug (hZ : ZSok S.keep Z) (G : Good X S) {i : Nat} {x : Str} {e : E} {f : Expr} {op : B} {o : Operator} {p pos : Pos} (hv : S.loc i x = true) (ho : (match op, o with | .add, .Add => true | .sub, .Sub => true | _, _ => false) = true) (he : PE X f (tV X.K C Z e)) :
    PS X (.AugAssign (.Name x p) o f pos) (tM X.K C Z W S.keep (.aug i op e)) := by
  obtain ⟨h1, h2, h3, h4⟩ := loc_of G hv
  obtain ⟨g, hp, hg⟩ := tip_of (X := X) ho
  refine PS.mono (ps_aug (by rw [G.N]; exact G.nd) h1 h2 (pe_own he) hp h3) fun D σ H ⟨F, ρ, φ, z, h⟩ => ?_
  simp only [evS] at h
  obtain ⟨dx, hx, h⟩ := h.onOS
  obtain ⟨_, hi, h⟩ := h.onOS
  obtain ⟨ii, rfl⟩ := intF_some hi
  obtain ⟨hx, nu⟩ := slot_some hx
  obtain ⟨vx, e1, ox⟩ := z.get hx nu
  cases ox
  refine ⟨_, e1, F, ρ, φ, z, ?_⟩
  rcases h.toS with ⟨d, ρ1, ho, h⟩ | ⟨x, ρ', ho, h⟩
  · rw [ho]
    intro v F1 H1 φd φ1 x1 t s n
    obtain ⟨zz, hb, h⟩ := h.onOS
    obtain ⟨_, hi2, h⟩ := h.onOS
    obtain ⟨m, rfl, rfl⟩ := hg _ _ _ _ hb hi2
    cases t.ow
    refine ⟨ii, m, rfl, rfl, ?_⟩
    have sp := s.put (v := .int (g ii m)) (d := .int (g ii m)) (ψ := em) ⟨.int _, fun _ q => q.elim⟩ em_dsj i
    exact h _ _ _ φ1 x1.mine (sp.sub (fun a q => q.elim (fun z => z.elim) id) s.tr) (Kept.set h4)
  · rw [ho]; exact h
theorem q_augIx (hZ : ZSok keep Z) (G : Good X S) {i : Nat} {x : Str} {k : P} {e : E} {f g : Expr} {op : B} {o : Operator} {p tp pos : Pos} (hv : S.vis i x = true) (hk : chkP S k f = true) (hs : noSlice f = true) (ho : (match op, o with | .add, .Add => true | .sub, .Sub => true | _, _ => false) = true) (he : PE X g (tV X.K C Z e)) :
    PS X (.AugAssign (.Subscript (.Name x p) f tp) o g pos) (tM X.K C Z W keep (.augIx i k op e)) := by
  obtain ⟨h1, h2, h3, h4⟩ := vis_of G hv
  obtain ⟨gg, hp, hg⟩ := tip_of (X := X) ho
  refine PS.mono (ps_augS (pe_var h1 h2 h3 h4) (sound_P G k f hk) get_list (pe_own he) hp set_list (by intro ov iv new; cases f <;> first | rfl | exact absurd hs Bool.false_ne_true)) fun D σ H ⟨F, ρ, φ, z, h⟩ => ?_
  simp only [evS] at h
  obtain ⟨dx, hx, h⟩ := h.onOS
  obtain ⟨j, hj, h⟩ := h.onOS
  obtain ⟨_, hil, h⟩ := h.onOS
  obtain ⟨y, hy, h⟩ := h.onOS
  obtain ⟨_, hi, h⟩ := h.onOS
  obtain ⟨oo, xs, rfl⟩ := isL_some hil
  obtain ⟨ii, rfl⟩ := intF_some hi
  obtain ⟨hx, nu⟩ := slot_some hx
  obtain ⟨vx, e1, ox⟩ := z.get hx nu
  obtain ⟨a, vs, rfl, ha, hl, hc⟩ := ox.lst z.le
  have hj' : ∃ jj, j = .int jj ∧ atI xs jj = some (.int ii) := by
    clear h hj
    simp only [bF] at hy
    cases j with
    | int jj =>
      refine ⟨jj, rfl, ?_⟩
      split at hy
      · rename_i d hd
        split at hy
        · cases hy; exact hd
        · cases hy
      · cases hy
    | _ => exact absurd hy (by simp [ixF])
  obtain ⟨jj, rfl, hat⟩ := hj'
  obtain ⟨m, u, m1, m2, m3⟩ := atI_len hl hat
  have hu := hc m u _ m1 m2
  cases hu
  refine ⟨_, e1, F, ρ, φ, z, _, hj, fun vj oj => ?_⟩
  cases oj
  refine ⟨a, vs, jj, _, rfl, rfl, .of ha, m3, F, ρ, φ, z, ?_⟩
  rcases h.toS with ⟨d, ρ1, ho, h⟩ | ⟨x, ρ', ho, h⟩
  · rw [ho]
    intro v F1 H1 φd φ1 x1 t s n
    obtain ⟨zz, hb, h⟩ := h.onOS
    obtain ⟨_, hi2, h⟩ := h.onOS
    obtain ⟨mm, rfl, rfl⟩ := hg _ _ _ _ hb hi2
    obtain ⟨dx1, hx1, h⟩ := h.onOS
    obtain ⟨w, hw, h⟩ := h.onOS
    obtain ⟨ys, jj', n', rfl, e2, hm, rfl⟩ := setF_some hw
    cases e2
    obtain ⟨hx1, _⟩ := slot_some hx1
    cases t.ow
    refine ⟨ii, mm, rfl, rfl, ?_⟩
    obtain ⟨q, ws, g1, g2, g3, F3, x3, s3⟩ := set_slot (dn := .int (gg ii mm)) (vn := .int (gg ii mm)) (φd := em) s hx1 ⟨.int _, fun _ q => q.elim⟩ em_dsj hm
    rw [e1] at g1
    cases g1
    refine ⟨a, ws, jj, n', rfl, rfl, g2, g3, h σ _ _ φ1 (x1.mine.trans (x3.sup (ψ := φ1) fun a q => ?_)) s3 (Kept.refl σ)⟩
    exact q.elim (fun z => z.elim) id
  · rw [ho]; exact h
end MV

set_option Elab.async false
set_option linter.all false
set_option maxRecDepth 100000
set_option autoImplicit false
set_option maxHeartbeats 4000000
/-! MV, part S: loops; the check of statements is sound. -/
namespace MV
open PySem PySem.Spec PyProof.Rows L2
variable {X : Cx} {S : Sc} {C : Nat → List D → CR} {Z : ZW} {K : PySem.W.Frag} {F F' F2 H H' H2 : Hp} {φ φ' φ2 ψ χ χ' : AS} {v : V} {d r : D} {σ σ' σ2 : L2.St} {ρ ρ' ρ2 : List D} {W : Nat}
variable {keep : List Nat} {D0 D1 : Ends}

theorem SPost.mono {r : SR} (h : SPost K Z keep F H σ φ r D0) (a : ∀ ρ1, r = .next ρ1 → ∀ σ' F' H' φ', Ext F H φ F' H' φ' → Sep K F' H' σ' ρ1 φ' → Kept keep σ σ' → D1.nx σ' H')
    (b : ∀ ρ1, r = .brk ρ1 → ∀ σ' F' H' φ', Ext F H φ F' H' φ' → Sep K F' H' σ' ρ1 φ' → Kept keep σ σ' → D1.bk σ' H')
    (c : ∀ ρ1, r = .cnt ρ1 → ∀ σ' F' H' φ', Ext F H φ F' H' φ' → Sep K F' H' σ' ρ1 φ' → Kept keep σ σ' → D1.ct σ' H') (e : D1.rt = D0.rt) : SPost K Z keep F H σ φ r D1 := by
  cases r with
  | next ρ' => exact a ρ' rfl
  | brk ρ' => exact b ρ' rfl
  | cnt ρ' => exact c ρ' rfl
  | ret d ρ' => intro v σ2 F2 H2 φd φ2 y t s n k2; rw [e]; exact h v σ2 F2 H2 φd φ2 y t s n k2
  | exc e ρ' => exact h
  | bad => exact h
/-- what a body is to do: r behind it is what the loop does -/
theorem SPost.loop {r : SR} {f : List D → SR} {N : L2.St → Hp → Prop} (h : SPost K Z keep F H σ φ (r.again f) D0)
    (n : ∀ ρ1 σ' F' H' φ', Ext F H φ F' H' φ' → Sep K F' H' σ' ρ1 φ' → Kept keep σ σ' → SPost K Z keep F H σ φ (f ρ1) D0 → N σ' H') : SPost K Z keep F H σ φ r { D0 with nx := N, ct := N, bk := D0.nx } := by
  cases r with
  | next ρ' => exact fun σ' F' H' φ' x s k => n ρ' σ' F' H' φ' x s k h
  | brk ρ' => exact h
  | cnt ρ' => exact fun σ' F' H' φ' x s k => n ρ' σ' F' H' φ' x s k h
  | ret d ρ' => exact h
  | exc e ρ' => exact h
  | bad => exact h
theorem forL_cons {body : D → List D → SR} {d : D} {r ρ : List D} : forL body (d :: r) ρ = (body d ρ).again (forL body r) := by
  simp only [forL, SR.again]
theorem forV (hZ : ZSok keep Z) {t : T} {it : E} {b : MV.S} {D : Ends} (hk : ∀ i ∈ tgts t, i ∉ keep) (h : tM K C Z W keep (.for_ t it b) D σ H) : tFor (tI K C Z it) (tG K t) (tM K C Z W keep b) D σ H := by
  obtain ⟨F, ρ, φ, z, h⟩ := h
  simp only [evS] at h
  refine ⟨F, ρ, φ, z, ?_⟩
  rcases h.toSL with ⟨ds, ρ1, he, h⟩ | ⟨x, ρ1, he, h⟩
  · rw [he]
    intro J F1 H1 φ1 x1 s1 zf wk
    generalize hbody : (fun d ρ => onRS (bindT t d ρ) (evS C W b)) = body at h
    refine ⟨fun i m σ H => m = ds.length - i ∧ i ≤ ds.length ∧ ∃ F ρ φ, Same F1 F ∧ Sep K F H σ ρ φ ∧ SPost K Z keep F H σ φ (forL body (ds.drop i) ρ) D, ⟨ds.length, by simp, Nat.zero_le _, F1, ρ1, φ1, Same.refl _, s1, SPost.step hZ h x1 (Kept.refl σ)⟩, ?_⟩
    rintro i m σ2 H2 ⟨rfl, hi, F2, ρ2, φ2, sm, s2, h2⟩
    obtain ⟨wk1, wk2⟩ := wk F2 H2 i sm s2.le
    by_cases hlt : i < ds.length
    · have hd : ds[i]? = some ds[i] := List.getElem?_eq_getElem hlt
      obtain ⟨go, yl⟩ := wk1 _ hd
      refine .inr ⟨go, fun σ H => ∃ F ρ φ, Same F1 F ∧ Sep K F H σ ρ φ ∧ SPost K Z keep F H σ φ (forL body (ds.drop (i + 1)) ρ) D, fun σ' H' n => ⟨ds.length - (i + 1), by omega, rfl, hlt, n⟩, fun x H3 y => ?_⟩
      obtain ⟨F3, x3, ox⟩ := yl x H3 y
      rw [List.drop_eq_getElem_cons hlt, forL_cons] at h2
      obtain ⟨s3, _⟩ := s2.past (x3 em) dsj_em
      have hb : body ds[i] ρ2 = onRS (bindT t ds[i] ρ2) (evS C W b) := by rw [← hbody]
      cases hbt : bindT t ds[i] ρ2 with
      | none => rw [hb, hbt] at h2; exact False.elim h2
      | some ρ5 =>
        rw [hb, hbt] at h2
        refine ⟨F3, ρ2, φ2, ds[i], em, s3, ⟨ox, fun _ q => q.elim⟩, em_dsj, ρ5, hbt, fun σ4 F4 H4 φ4 x4 s4 k4 l4 => ⟨F4, ρ5, φ4, s4, ?_⟩⟩
        have x24 : Ext F2 H2 φ2 F4 H4 φ4 := (x3 φ2).trans (x4.sup (ψ := φ2) fun a q => q.elim (fun q => q.elim) id)
        have h3 := SPost.step hZ h2 x24 (σ' := σ4) fun j hj => k4 j fun z => hk j z hj
        exact SPost.loop h3 fun ρ6 σ6 F6 H6 φ6 x6 s6 k6 h6 => ⟨F6, ρ6, φ6, (sm.trans x24.f).trans x6.f, s6, SPost.step hZ h6 x6 k6⟩
    · have e : i = ds.length := by omega
      subst e
      refine .inl ⟨wk2 (Nat.le_refl _), ?_⟩
      rw [List.drop_length] at h2
      simp only [forL] at h2
      exact h2 σ2 F2 H2 φ2 (Ext.refl s2.le) s2 (Kept.refl σ2)
  · rw [he]; exact h
theorem whlV (hZ : ZSok keep Z) {c : E} {b : MV.S} {D : Ends} (h : tM K C Z W keep (.whl c b) D σ H) : tWhile (tT K C Z c) (tM K C Z W keep b) D σ H := by
  obtain ⟨F, ρ, φ, z, h⟩ := h
  simp only [evS] at h
  refine ⟨fun m σ H => ∃ F ρ φ, Sep K F H σ ρ φ ∧ SPost K Z keep F H σ φ (whlL (evE C c) (evS C W b) m ρ) D, ⟨W, F, ρ, φ, z, h⟩, ?_⟩
  rintro m σ1 H1 ⟨F1, ρ1, φ1, s1, h1⟩
  cases m with
  | zero => simp only [whlL] at h1; exact False.elim h1
  | succ m =>
    simp only [whlL] at h1
    refine ⟨F1, ρ1, φ1, s1, ?_⟩
    rcases h1.toS with ⟨d, ρ2, he, h⟩ | ⟨x, ρ2, he, h⟩
    · rw [he]
      obtain ⟨k, rfl, h⟩ := h.onBS
      refine ⟨k, rfl, fun F2 H2 φ2 x s => ?_⟩
      have h2 := SPost.step hZ h x (Kept.refl σ1)
      cases k with
      | true =>
        refine ⟨fun σ H => ∃ F ρ φ, Sep K F H σ ρ φ ∧ SPost K Z keep F H σ φ (whlL (evE C c) (evS C W b) m ρ) D, fun σ' H' n => ⟨m, by omega, n⟩, F2, ρ2, φ2, s, ?_⟩
        exact SPost.loop h2 fun ρ6 σ6 F6 H6 φ6 x6 s6 k6 h6 => ⟨F6, ρ6, φ6, s6, SPost.step hZ h6 x6 k6⟩
      | false => exact h2 σ1 F2 H2 φ2 (Ext.refl s.le) s (Kept.refl σ1)
    · rw [he]; exact h

/-! ### the check -/
def noComp : Expr → Bool
  | .ListComp _ _ _ _ => false
  | .SetComp _ _ _ _ => false
  | .DictComp _ _ _ _ _ => false
  | _ => true
def noTup : Expr → Bool
  | .Tuple _ _ _ => false
  | _ => true
def isLcE : E → Bool
  | .lc _ _ _ _ _ => true
  | _ => false
def isTsl : T → Option Nat
  | .sl i => some i
  | _ => none
/-- how a name or names are given a value: plainly, or a comprehension to a local of its own line -/
def okAsg (S : Sc) : Expr → Expr → Bool
  | .Name x _, v => noComp v || decide (S.lk.lookup x = some .cell)
  | .Tuple _ _ _, v => noTup v
  | _, _ => false
def okLc (S : Sc) : Expr → Expr → Bool
  | .Name x py, .ListComp _ _ scope pos => decide (S.lk.lookup x = some .local) && (py.line == pos.line) && !(scope.names.any fun (n, k) => n == x && (k == .local || k == .cell))
  | _, _ => false
def okIp (op : B) (o : Operator) : Bool := match op, o with
  | .add, .Add => true
  | .sub, .Sub => true
  | _, _ => false
mutual
def chkS : MV.S → Sc → Stmt → Bool
  | .skip, _, st => match st with
    | .Pass _ => true
    | .Expr (.Constant (.str _) _ _) _ => true
    | _ => false
  | .seq _ _, _, _ => false
  | .asg t e, S, st => match st with
    | .Assign [tg] v _ => chkT S t tg && chkE e S v && (okAsg S tg v || (okLc S tg v && isLcE e))
    | _ => false
  | .setIx i k e, S, st => match st with
    | .Assign [.Subscript (.Name x _) f _] v _ => S.vis i x && chkE k S f && noSlice f && chkE e S v
    | _ => false
  | .augIx i k op e, S, st => match st with
    | .AugAssign (.Subscript (.Name x _) f _) o v _ => S.vis i x && chkP S k f && noSlice f && okIp op o && chkE e S v
    | _ => false
  | .aug i op e, S, st => match st with
    | .AugAssign (.Name x _) o v _ => S.loc i x && okIp op o && chkE e S v
    | _ => false
  | .app i e, S, st => match st with
    | .Expr (.Call (.Attribute (.Name x _) m ap) [v] [] cp) _ => decide (m = "append") && S.vis i x && chkE e S v && noStar v && (ap.endLine == cp.line)
    | _ => false
  | .ex e, S, st => match st with
    | .Expr v _ => chkE e S v && noComp v
    | _ => false
  | .ret e, S, st => match st with
    | .Return (some v) _ => chkE e S v
    | _ => false
  | .retN, _, st => match st with
    | .Return none _ => true
    | _ => false
  | .ite c a b, S, st => match st with
    | .If t xs ys _ => chkE c S t && okT t && chkB a S xs && chkB b S ys
    | _ => false
  | .for_ t it b, S, st => match st with
    | .For tg iter body [] _ => chkIt it S tg iter && chkT S t tg && noSet iter && chkB b S body
    | _ => false
  | .whl c b, S, st => match st with
    | .While t body [] _ => chkE c S t && okT t && chkB b S body
    | _ => false
  | .brk, _, st => match st with
    | .Break _ => true
    | _ => false
  | .cnt, _, st => match st with
    | .Continue _ => true
    | _ => false
  | .never, _, _ => true
termination_by structural x => x
def chkB : MV.S → Sc → List Stmt → Bool
  | .skip, _, sts => sts.isEmpty
  | .seq a b, S, sts => match sts with
    | [] => false
    | st :: rest => chkS a S st && chkB b S rest
  | .never, _, _ => true
  | _, _, _ => false
termination_by structural x => x
end
theorem chkT_keep : ∀ (t : T), (∀ e : Expr, chkT S t e = true → ∀ i ∈ tgts t, i ∉ S.keep) ∧ (∀ es : List Expr, chkTs S t es = true → ∀ i ∈ tgts t, i ∉ S.keep) := by
  intro t
  induction t with
  | sl i =>
    refine ⟨fun e h j hj => ?_, fun es h => by cases es <;> exact absurd h Bool.false_ne_true⟩
    cases e with
    | Name x p =>
      simp only [tgts, List.mem_singleton] at hj
      subst hj
      have h' : S.loc j x = true := h
      unfold Sc.loc at h'
      simp only [Bool.and_eq_true, Bool.not_eq_true'] at h'
      exact fun z => by rw [List.contains_iff_mem.mpr z] at h'; cases h'.2
    | _ => exact absurd h Bool.false_ne_true
  | nil => exact ⟨fun e h => by cases e <;> exact absurd h Bool.false_ne_true, fun es h i hi => by simp [tgts] at hi⟩
  | cons t r ht hr =>
    refine ⟨fun e h => by cases e <;> exact absurd h Bool.false_ne_true, fun es h i hi => ?_⟩
    cases es with
    | nil => exact absurd h Bool.false_ne_true
    | cons e es =>
      simp only [chkTs, Bool.and_eq_true] at h
      simp only [tgts, List.mem_append] at hi
      exact hi.elim (ht.1 e h.1.1 i) (hr.2 es h.2 i)
  | tup t ht =>
    refine ⟨fun e h => ?_, fun es h => by cases es <;> exact absurd h Bool.false_ne_true⟩
    cases e with
    | Tuple es k p => exact ht.2 es h
    | _ => exact absurd h Bool.false_ne_true
end MV

set_option Elab.async false
set_option linter.all false
set_option maxRecDepth 100000
set_option autoImplicit false
set_option maxHeartbeats 4000000
/-! MV, part T: the check of statements is sound. -/
namespace MV
open PySem PySem.Spec PyProof.Rows L2
variable {X : Cx} {S : Sc} {C : Nat → List D → CR} {Z : ZW} {K : PySem.W.Frag} {F F' F2 H H' H2 : Hp} {φ φ' φ2 ψ χ χ' : AS} {v : V} {d r : D} {σ σ' σ2 : L2.St} {ρ ρ' ρ2 : List D} {W : Nat}
variable {keep : List Nat} {D0 D1 : Ends}

structure SndS (C : Nat → List D → CR) (W : Nat) (s : MV.S) : Prop where
  st : ∀ X S Z, GoodS X S C Z → ∀ st, chkS s S st = true → PS X st (tM X.K C Z W S.keep s)
  bl : ∀ X S Z, GoodS X S C Z → ∀ sts, chkB s S sts = true → PSs X sts (tM X.K C Z W S.keep s)
theorem SndS.one {s : MV.S} (h : ∀ X S Z, GoodS X S C Z → ∀ st, chkS s S st = true → PS X st (tM X.K C Z W S.keep s)) (hb : ∀ S sts, chkB s S sts = false) : SndS C W s :=
  ⟨h, fun X S Z G sts q => by rw [hb] at q; cases q⟩
theorem m_skip : SndS C W .skip := by
  refine ⟨fun X S Z G st h => ?_, fun X S Z G sts h => ?_⟩
  · simp only [chkS] at h
    split at h
    · exact PS.mono ps_pass skipS
    · exact PS.mono ps_doc skipS
    · cases h
  · cases sts with
    | nil => exact q_skip
    | cons st sts => simp [chkB] at h
theorem m_seq {a b : MV.S} (ha : SndS C W a) (hb : SndS C W b) : SndS C W (.seq a b) := by
  refine ⟨fun X S Z G st h => by simp [chkS] at h, fun X S Z G sts h => ?_⟩
  simp only [chkB] at h
  split at h
  · cases h
  · simp only [Bool.and_eq_true] at h
    exact q_seq G.z (ha.st X S Z G _ h.1) (hb.bl X S Z G _ h.2)
theorem isLcE_of {e : E} (h : isLcE e = true) : ∃ ow t it c el, e = .lc ow t it c el := by
  cases e <;> first | exact ⟨_, _, _, _, _, rfl⟩ | exact absurd h Bool.false_ne_true
theorem sole_of {t : T} (G : Good X S) {tg v : Expr} (h : okAsg S tg v = true) (hc : chkT S t tg = true) (l : Nat) : swapsWithSole [tg] v l X.env = pure false ∧ swappedStores [tg] v X.env = pure none ∧ (assignEach [tg] X.env).map (·.2) = [assign tg X.env] := by
  cases tg <;> first | exact absurd h Bool.false_ne_true | skip
  · rename_i x p
    refine ⟨?_, by cases v <;> rfl, rfl⟩
    simp only [okAsg, Bool.or_eq_true, decide_eq_true_eq] at h
    rcases h with h | h
    · cases v <;> first | rfl | exact absurd h Bool.false_ne_true
    · have hk : X.env.kindOf x = some .cell := by
        have := ((G.lk x).2 h).1
        unfold Env.kindOf
        exact this
      cases v <;> first | rfl | skip
      all_goals
        unfold swapsWithSole swapsWith
        simp only [hk, show (some NameKind.cell == some NameKind.local) = false from rfl, Bool.and_false, Bool.false_and, pure_bind]
  · refine ⟨by cases v <;> rfl, ?_, rfl⟩
    cases v <;> first | rfl | exact absurd h Bool.false_ne_true
theorem m_asg {t : T} {e : E} : SndS C W (.asg t e) := by
  refine .one (fun X S Z G st h => ?_) fun S sts => by simp only [chkB]
  simp only [chkS] at h
  split at h
  · rename_i tg v pos
    simp only [Bool.and_eq_true, Bool.or_eq_true] at h
    obtain ⟨⟨h1, h2⟩, h3⟩ := h
    have hk := (chkT_keep (S := S) t).1 tg h1
    rcases h3 with h3 | ⟨h3, h4⟩
    · obtain ⟨s1, s2, s3⟩ := sole_of (t := t) G.c.g h3 h1 pos.line
      exact PS.mono (ps_asg (pe_own ((snd_all C e).e X S Z G.c _ h2).pe) ((s_T G.c.g t).1 _ h1) s1 s2 s3) fun D σ H q => asgV G.z hk q
    · obtain ⟨ow, t', it, c, el, rfl⟩ := isLcE_of h4
      have h2' := h2
      simp only [chkE] at h2'
      split at h2'
      · rename_i elt tg' iter ifs scope p
        cases tg <;> first | exact absurd h3 Bool.false_ne_true | skip
        rename_i x px
        simp only [okLc, Bool.and_eq_true, decide_eq_true_eq, Bool.not_eq_true'] at h3
        obtain ⟨⟨h5, h6⟩, h7⟩ := h3
        cases t <;> first | exact absurd h1 Bool.false_ne_true | skip
        rename_i i
        obtain ⟨k1, k2, k3, k4⟩ := loc_of G.c.g (show S.loc i x = true from h1)
        have k := lcOk (snd_all C it) (snd_all C c) (snd_all C el) G.c h2
        have hl := ((G.c.g.lk x).1 h5)
        refine PS.mono (ps_setLc G.c.g.calm (by rw [G.c.g.N]; exact G.c.g.nd) k1 hl (sw_true G.c.g.kind hl h6 h7) k.i k.ok k.g k.tt k.e k.s) fun D σ H q => ?_
        rw [ownP_snd]
        show tLc _ _ _ _ _ σ H fun x H1 => gName i x σ H1 D.nx
        refine lcV k.o ?_
        obtain ⟨F, ρ, φ, z, q⟩ := q
        simp only [evS] at q
        refine ⟨F, ρ, φ, z, ?_⟩
        rcases q.toS with ⟨d, ρ1, he, q⟩ | ⟨x, ρ1, he, q⟩
        · cases hr : evE C (.lc ow t' it c el) ρ with
          | ok d' ρ1' =>
            rw [hr] at he
            have he' : ER.ok d' ρ1' = ER.ok d ρ1 := he
            cases he'
            intro v F1 H1 φd φ1 x1 t s n _
            obtain ⟨ρ2, hb, q⟩ := q.onRS
            simp only [bindT] at hb
            split at hb
            · cases hb
              exact q _ F1 H1 _ x1 (s.put t (n rfl) i) (Kept.set k4)
            · cases hb
          | exc x ρ' => rw [hr] at he; cases he
          | bad => rw [hr] at he; cases he
        · cases hr : evE C (.lc ow t' it c el) ρ with
          | ok d' ρ1' => rw [hr] at he; cases he
          | exc x ρ' => rw [hr] at he; cases he; exact q
          | bad => rw [hr] at he; cases he
      · cases h2'
  · cases h
theorem m_setIx {i : Nat} {k e : E} : SndS C W (.setIx i k e) := by
  refine .one (fun X S Z G st h => ?_) fun S sts => by simp only [chkB]
  simp only [chkS] at h
  split at h
  · simp only [Bool.and_eq_true] at h
    obtain ⟨⟨⟨h1, h2⟩, h3⟩, h4⟩ := h
    exact q_setIx G.z G.c.z G.c.g h1 ((snd_all C k).e X S Z G.c _ h2).pe h3 ((snd_all C e).e X S Z G.c _ h4).pe
  · cases h
theorem m_augIx {i : Nat} {k : P} {op : B} {e : E} : SndS C W (.augIx i k op e) := by
  refine .one (fun X S Z G st h => ?_) fun S sts => by simp only [chkB]
  simp only [chkS] at h
  split at h
  · simp only [Bool.and_eq_true] at h
    obtain ⟨⟨⟨⟨h1, h2⟩, h3⟩, h4⟩, h5⟩ := h
    exact q_augIx G.z G.c.g h1 h2 h3 h4 ((snd_all C e).e X S Z G.c _ h5).pe
  · cases h
theorem m_aug {i : Nat} {op : B} {e : E} : SndS C W (.aug i op e) := by
  refine .one (fun X S Z G st h => ?_) fun S sts => by simp only [chkB]
  simp only [chkS] at h
  split at h
  · simp only [Bool.and_eq_true] at h
    obtain ⟨⟨h1, h2⟩, h3⟩ := h
    exact q_aug G.z G.c.g h1 h2 ((snd_all C e).e X S Z G.c _ h3).pe
  · cases h
theorem m_app {i : Nat} {e : E} : SndS C W (.app i e) := by
  refine .one (fun X S Z G st h => ?_) fun S sts => by simp only [chkB]
  simp only [chkS] at h
  split at h
  · simp only [Bool.and_eq_true, decide_eq_true_eq] at h
    obtain ⟨⟨⟨⟨rfl, h2⟩, h3⟩, h4⟩, h5⟩ := h
    exact q_app G.z G.c.g h2 ((snd_all C e).e X S Z G.c _ h3).pe h4 h5
  · cases h
theorem m_ex {e : E} : SndS C W (.ex e) := by
  refine .one (fun X S Z G st h => ?_) fun S sts => by simp only [chkB]
  simp only [chkS] at h
  split at h
  · simp only [Bool.and_eq_true] at h
    rename_i v pos
    exact PS.mono (ps_expr ((snd_all C e).e X S Z G.c _ h.1).pe (by have h' := h.2; clear h; cases v <;> first | rfl | exact absurd h' Bool.false_ne_true)) fun D σ H q => exV q
  · cases h
theorem m_ret {e : E} : SndS C W (.ret e) := by
  refine .one (fun X S Z G st h => ?_) fun S sts => by simp only [chkB]
  simp only [chkS] at h
  split at h
  · exact PS.mono (ps_ret (pe_own ((snd_all C e).e X S Z G.c _ h).pe)) fun D σ H q => retV q
  · cases h
theorem m_retN : SndS C W .retN := by
  refine .one (fun X S Z G st h => ?_) fun S sts => by simp only [chkB]
  simp only [chkS] at h
  split at h
  · refine PS.mono ps_retN fun D σ H ⟨F, ρ, φ, z, q⟩ => ?_
    simp only [evS] at q
    exact q .non σ F H em φ ((Ext.refl z.le).sub fun a q => q.elim (fun z => z.elim) id) ⟨.non, fun _ z => z.elim⟩ z em_dsj (Kept.refl σ)
  · cases h
theorem m_ite {c : E} {a b : MV.S} (ha : SndS C W a) (hb : SndS C W b) : SndS C W (.ite c a b) := by
  refine .one (fun X S Z G st h => ?_) fun S sts => by simp only [chkB]
  simp only [chkS] at h
  split at h
  · simp only [Bool.and_eq_true] at h
    obtain ⟨⟨⟨h1, h2⟩, h3⟩, h4⟩ := h
    exact PS.mono (ps_if (((snd_all C c).e X S Z G.c _ h1).t h2) (ha.bl X S Z G _ h3) (hb.bl X S Z G _ h4)) fun D σ H q => iteS G.z q
  · cases h
theorem m_for {t : T} {it : E} {b : MV.S} (hb : SndS C W b) : SndS C W (.for_ t it b) := by
  refine .one (fun X S Z G st h => ?_) fun S sts => by simp only [chkB]
  simp only [chkS] at h
  split at h
  · simp only [Bool.and_eq_true] at h
    obtain ⟨⟨⟨h1, h2⟩, h3⟩, h4⟩ := h
    exact PS.mono (ps_for G.own G.c.g.calm ((snd_all C it).i X S Z G.c _ _ h1) ((s_T G.c.g t).1 _ h2) (hb.bl X S Z G _ h4) (folded_of h3 X.env)) fun D σ H q => forV G.z ((chkT_keep t).1 _ h2) q
  · cases h
theorem m_whl {c : E} {b : MV.S} (hb : SndS C W b) : SndS C W (.whl c b) := by
  refine .one (fun X S Z G st h => ?_) fun S sts => by simp only [chkB]
  simp only [chkS] at h
  split at h
  · simp only [Bool.and_eq_true] at h
    obtain ⟨⟨h1, h2⟩, h4⟩ := h
    exact PS.mono (ps_while G.own (((snd_all C c).e X S Z G.c _ h1).t h2) (hb.bl X S Z G _ h4)) fun D σ H q => whlV G.z q
  · cases h
theorem m_brk : SndS C W .brk := by
  refine .one (fun X S Z G st h => ?_) fun S sts => by simp only [chkB]
  simp only [chkS] at h
  split at h
  · refine PS.mono ps_break fun D σ H ⟨F, ρ, φ, z, q⟩ => ?_
    simp only [evS] at q
    exact q σ F H φ (Ext.refl z.le) z (Kept.refl σ)
  · cases h
theorem m_cnt : SndS C W .cnt := by
  refine .one (fun X S Z G st h => ?_) fun S sts => by simp only [chkB]
  simp only [chkS] at h
  split at h
  · refine PS.mono ps_continue fun D σ H ⟨F, ρ, φ, z, q⟩ => ?_
    simp only [evS] at q
    exact q σ F H φ (Ext.refl z.le) z (Kept.refl σ)
  · cases h
theorem sndS_all (C : Nat → List D → CR) (W : Nat) : ∀ s : MV.S, SndS C W s := by
  intro s
  induction s with
  | skip => exact m_skip
  | seq a b ha hb => exact m_seq ha hb
  | asg t e => exact m_asg
  | setIx i k e => exact m_setIx
  | augIx i k op e => exact m_augIx
  | aug i op e => exact m_aug
  | app i e => exact m_app
  | ex e => exact m_ex
  | ret e => exact m_ret
  | retN => exact m_retN
  | ite c a b ha hb => exact m_ite ha hb
  | for_ t it b hb => exact m_for hb
  | whl c b hb => exact m_whl hb
  | brk => exact m_brk
  | cnt => exact m_cnt
  | never => exact ⟨fun X S Z G st h => q_never1, fun X S Z G sts h => q_never⟩
end MV

set_option Elab.async false
set_option linter.all false
set_option maxRecDepth 100000
set_option autoImplicit false
set_option maxHeartbeats 4000000
/-! MV, part U: functions. -/
namespace MV
open PySem PySem.Spec PyProof.Rows L2
variable {X : Cx} {S : Sc} {C : Nat → List D → CR} {Z : ZW} {K : PySem.W.Frag} {F F' F2 H H' H2 : Hp} {φ φ' φ2 ψ χ χ' : AS} {v : V} {d r : D} {σ σ' σ2 : L2.St} {ρ ρ' ρ2 : List D} {W : Nat}
variable {P : Program} {w : World} {mg : Str → Option Value} {base : Heap}

/-- what a def promises, where nothing guards the stack -/
structure FnG (P : Program) (w : World) (K : PySem.W.Frag) (mg : Str → Option Value) (base : Heap) (k : Nat) (f : Addr) (fd : FuncData) (ps : List Str) (sp : List V → Hp → VK → Prop) : Prop where
  len : ∀ vs H Q, sp vs H Q → vs.length = ps.length
  run : ∀ (A : Around) (out : List Env) (s : Shared) (H : Hp) (args : Args) (us : List Value) (vs : List V) (Q : VK), Room k A → A.guards = some [] → Env0 P w K mg base A out s H →
    BindsTo s fd args (ps.zip us) → Vals vs us → sp vs H Q → codeAny (model P w) A (.call (.ref f) args) (L2.CR (fun _ _ _ _ _ _ => False) out P w H s Q fun _ _ _ => False) s
theorem FnG.lift {j k : Nat} {f : Addr} {fd : FuncData} {ps : List Str} {sp : List V → Hp → VK → Prop} (h : FnG P w K mg base j f fd ps sp) (l : j ≤ k) : FnG P w K mg base k f fd ps sp :=
  ⟨h.len, fun A out s H args us vs Q r => h.run A out s H args us vs Q (r.mono l)⟩
/-- the context of a body that raises nothing -/
def bodyX (P : Program) (w : World) (K : PySem.W.Frag) (mg : Str → Option Value) (base : Heap) (N : List Str) (x : Str) (sc : Scope) (f : Addr) (cd : Value) (A : Around) (out : List Env) (s : Shared) (H : Hp) : Cx :=
  (cxOf (fun _ _ _ _ _ _ => False) P w K mg base N x sc f cd A out s H fun _ _ _ => False).nox
theorem fnG_of {k : Nat} {f : Addr} {x : Str} {st : Stmt} {fd : FuncData} {N ps : List Str} {sp : List V → Hp → VK → Prop} (Fn : L2.Fun K x x st f fd) (Sc : FnScope N ps (defScope st))
    (len : ∀ vs H Q, sp vs H Q → vs.length = ps.length)
    (hb : ∀ (cd : Value) (A : Around) (out : List Env) (s : Shared) (H : Hp) (vs : List V) (Q : VK), Room k (A.deeper (envOfC x (defScope st) s.heap.objs.size f cd)) → A.guards = some [] → sp vs H Q →
      ∃ t, PSs (bodyX P w K mg base N x (defScope st) f cd A out s H) (defBody st) t ∧ t { nx := fun _ H' => Q .non H', rt := Q } (start N vs) H) : FnG P w K mg base (k + 1) f fd ps sp := by
  obtain ⟨oc, od, kV, doc, pm, an, cd, ct, osl, rfl, lk, hcd⟩ := Fn.ex
  refine ⟨len, fun A out s H args us vs Q room guards e0 bd rv hsp => ?_⟩
  have hl := len vs H Q hsp
  have inK : K.In s.heap := e0.mod.kin.keeps fun b o q => (e0.bs b o q).1
  have noLim : s.heap.NoLimit := e0.mod.nolimit.keeps fun b o q => (e0.bs b o q).1
  refine codeAny_call_function room.depth (inK _ _ lk) rfl Sc.co Sc.gen rfl (PySem.W.codeRec_of inK hcd) (bd _ _ _ _ ?_)
  refine wpAny_newFunctionEnv_cells Sc.kind (fun y hy => ?_) fun env he s1 ic => ?_
  · rcases Sc.par y.1 (List.of_mem_zip (show (y.1, y.2) ∈ ps.zip us from hy)).1 with q | q
    · exact Or.inl q
    · exact Or.inr ⟨q, PySem.W.cellsFrom_some _ _ _ (Or.inl q)⟩
  · subst he
    refine ⟨noLim.keeps ic.toInCall.keep, codeAny_func ?_⟩
    obtain ⟨t, ht, q⟩ := hb cd A out s H vs Q (room.deeper _) guards hsp
    have I0 := inv_start (CX := fun _ _ _ _ _ _ => False) (E := fun _ _ _ => False) (f := f) (qual := x) (cd := cd) Sc room.hd e0 hl rv ic
    have ht' : PSs (cxOf (fun _ _ _ _ _ _ => False) P w K mg base N x (defScope st) f cd A out s H fun _ _ _ => False) (defBody st) t := PSs.nox ht
    refine wpAny_mono (ht'.run [] s1 (start N vs) H _ I0 q) (fun fl s' hs => ?_) fun e s' hs => hs
    cases fl with
    | ret u => obtain ⟨v, _, H', J, rv', q'⟩ := hs; exact ⟨v, H', J.os, J.bare, J.base, J.hok, rv', q'⟩
    | next => obtain ⟨_, H', J, q'⟩ := hs; exact ⟨.non, H', J.os, J.bare, J.base, J.hok, rfl, q'⟩
    | brk => obtain ⟨_, _, _, q'⟩ := hs; exact q'.elim
    | cont => obtain ⟨_, _, _, q'⟩ := hs; exact q'.elim
/-- no exception -/
def ZC0 : Hp → Hp → List V → AS → D → List D → Prop := fun _ _ _ _ _ _ => False
def spF (K : PySem.W.Frag) (C : Nat → List D → CR) (f : Nat) (vs : List V) (H : Hp) (Q : VK) : Prop := spC K C ZC0 f vs H Q
theorem callOk_of {k : Nat} {n : Nat} {x : Str} {f : Addr} {fd : FuncData} {ps : List Str} (Fn : FnG X.prog X.w X.K X.mg X.base k f fd ps (spF X.K C n)) (hm : X.mg x = some (.ref f)) (hk : PySem.W.keepIn X.K (.ref f) = true)
    (hb : Binds X.K fd ps []) (hr : Room k X.A) (hg : X.A.guards = some []) : CallOk X C Z0 n x := by
  refine ⟨f, hm, hk, ZC0, fun _ _ _ _ _ _ _ _ _ _ _ _ _ _ _ _ _ _ _ _ h => h, fun pins s σ H us vs Q I r h => ?_⟩
  have hl : (us ++ []).length = ps.length := by rw [List.append_nil, ← r.length]; exact Fn.len _ _ _ h
  have b := hb s us I.kIn hl
  rw [List.append_nil] at b
  refine wpAny_call (codeAny_mono (Fn.run X.A X.stack s H ⟨us, []⟩ us vs Q hr hg I.env0 b r h) fun res s' hq => ?_)
  cases res with
  | error e => exact False.elim hq
  | ok fl =>
    cases fl with
    | ret u => exact I.after hq
    | next => exact False.elim hq
    | brk => exact False.elim hq
    | cont => exact False.elim hq

/-! ### the slots at the start and at the end -/
theorem Sep.start {vs : List V} {as : List D} {N : List Str} (z : Sep K F H (vs.map some) as φ) (h : vs.length ≤ N.length) : Sep K F H (L2.start N vs) (as ++ List.replicate (N.length - as.length) .un) φ := by
  obtain ⟨ψ, h1, h2, h3⟩ := z.env
  have hl : vs.length = as.length := by have := z.len; simpa using this
  refine ⟨z.le, by unfold L2.start; simp [hl], z.tr, ψ, fun i d q n => ?_, h2, h3⟩
  by_cases hi : i < as.length
  · rw [List.getElem?_append_left hi] at q
    obtain ⟨v, e, o⟩ := h1 i d q n
    refine ⟨v, ?_, o⟩
    unfold L2.start
    rw [List.getElem?_append_left (by simp; omega)]
    exact e
  · rw [List.getElem?_append_right (by omega), List.getElem?_replicate] at q
    split at q
    · cases q; exact absurd rfl n
    · cases q
/-- what comes back -/
def outs (np : Nat) (io : List Nat) (ρ : List D) : List D := (List.range np).map fun i => if i ∈ io then ρ.getD i .un else .un
theorem outs_at {np : Nat} {io : List Nat} {i : Nat} (h : (outs np io ρ)[i]? = some d) (n : d ≠ .un) : i < np ∧ i ∈ io ∧ ρ[i]? = some d := by
  unfold outs at h
  rw [List.getElem?_map] at h
  obtain ⟨j, h1, h2⟩ := Option.map_eq_some_iff.mp h
  obtain ⟨h3, h4⟩ := List.getElem?_eq_some_iff.mp h1
  have hj : j = i := by simpa using h4.symm
  subst hj
  have hn : j < np := by simpa using h3
  split at h2
  · rename_i hm
    refine ⟨hn, hm, ?_⟩
    rw [List.getD_eq_getElem?_getD] at h2
    cases e : ρ[j]? with
    | none => rw [e] at h2; exact absurd h2.symm n
    | some x => rw [e] at h2; exact congrArg some h2
  · exact absurd h2.symm n
theorem Sep.finish {vs : List V} {N : List Str} {np : Nat} {io : List Nat} (z : Sep K F H σ ρ φ) (k : Kept io (L2.start N vs) σ) (hl : vs.length = np) : Sep K F H (vs.map some) (outs np io ρ) φ := by
  obtain ⟨ψ, h1, h2, h3⟩ := z.env
  refine ⟨z.le, by unfold outs; simp [hl], z.tr, ψ, fun i d q n => ?_, h2, h3⟩
  obtain ⟨g1, g2, g3⟩ := outs_at q n
  obtain ⟨v, e, o⟩ := h1 i d g3 n
  refine ⟨v, ?_, o⟩
  rw [k i g2] at e
  unfold L2.start at e
  rw [List.getElem?_append_left (by simp; omega)] at e
  exact e

/-! ### the table -/
/-- a def's text, its names by slot -/
def scC (N P : List Str) (sc : Scope) : Bool := (match sc.kind with | .function => true | _ => false) && !sc.isCoroutine && !sc.isGenerator && decide N.Nodup && decide (N.take P.length = P) &&
    (P.all fun x => match sc.names.lookup x with | some .local => true | some .cell => true | _ => false) && (sc.names.all fun y => match y.2 with | .free => false | _ => true)
theorem scC_by {N P : List Str} {sc : Scope} (h : scC N P sc = true) : FnScope N P sc := by
  unfold scC at h
  simp only [Bool.and_eq_true, Bool.not_eq_true', decide_eq_true_eq, List.all_eq_true] at h
  obtain ⟨⟨⟨⟨⟨⟨g1, g2⟩, g3⟩, g4⟩, g5⟩, g6⟩, g7⟩ := h
  refine ⟨?_, g2, g3, g4, g5, fun x hx => ?_, fun y hy e => ?_⟩
  · split at g1
    · assumption
    · cases g1
  · have q := g6 x hx
    split at q <;> first | exact .inl (by assumption) | exact .inr (by assumption) | cases q
  · have q := g7 y hy
    rw [e] at q
    cases q
structure DT where
  x : Str
  st : Stmt
  N : List Str
  ps : List Str
def DT.sc (t : DT) (fns bl : List Str) (io : List Nat) : Sc := { N := t.N, names := (defScope t.st).names, lk := (defScope t.st).names, fns := fns, bl := bl, keep := io }
def chkD (fns bl : List Str) (t : DT) (fn : Fn) : Bool := scC t.N t.ps (defScope t.st) && decide (fn.n = t.N.length) && decide (fn.np = t.ps.length) && chkB fn.body (t.sc fns bl fn.io) (defBody t.st)
def chkTab (fns bl : List Str) : List DT → List Fn → Bool
  | [], [] => true
  | t :: ts, fn :: r => chkD fns bl t fn && chkTab fns bl ts r
  | _, _ => false
theorem chkTab_at {fns bl : List Str} : ∀ {ts : List DT} {tab : List Fn} {i : Nat} {t : DT} {fn : Fn}, chkTab fns bl ts tab = true → ts[i]? = some t → tab[i]? = some fn → chkD fns bl t fn = true
  | [], _, i, t, fn, _, h, _ => by simp at h
  | t :: ts, [], i, _, fn, h, _, _ => absurd h Bool.false_ne_true
  | t :: ts, fn :: r, 0, t', fn', h, h1, h2 => by
    simp only [chkTab, Bool.and_eq_true] at h
    cases (Option.some.inj h1); cases (Option.some.inj h2); exact h.1
  | t :: ts, fn :: r, i + 1, t', fn', h, h1, h2 => by
    simp only [chkTab, Bool.and_eq_true] at h
    exact chkTab_at h.2 (by simpa using h1) (by simpa using h2)
theorem chkTab_len {fns bl : List Str} : ∀ {ts : List DT} {tab : List Fn}, chkTab fns bl ts tab = true → ts.length = tab.length
  | [], [], _ => rfl
  | [], _ :: _, h => absurd h Bool.false_ne_true
  | _ :: _, [], h => absurd h Bool.false_ne_true
  | t :: ts, fn :: r, h => by
    simp only [chkTab, Bool.and_eq_true] at h
    simp [chkTab_len h.2]
/-- a def as it stands behind the top -/
structure DefOk (K : PySem.W.Frag) (mg : Str → Option Value) (t : DT) (f : Addr) (fd : FuncData) : Prop where
  fn : L2.Fun K t.x t.x t.st f fd
  mgf : mg t.x = some (.ref f)
  bd : Binds K fd t.ps []
theorem goodS_body {t : DT} {fns bl : List Str} {io : List Nat} {f : Addr} {cd : Value} {A : Around} {out : List Env} {s : Shared} {k : Nat} (Sc : FnScope t.N t.ps (defScope t.st)) (hbl : ∀ y, bl.contains y = true → mg y = none)
    (hr : Room k (A.deeper (envOfC t.x (defScope t.st) s.heap.objs.size f cd))) (hg : A.guards = some [])
    (hc : ∀ n x, fns[n]? = some x → ∃ f fd ps, FnG P w K mg base k f fd ps (spF K C n) ∧ mg x = some (.ref f) ∧ PySem.W.keepIn K (.ref f) = true ∧ Binds K fd ps []) :
    GoodS (bodyX P w K mg base t.N t.x (defScope t.st) f cd A out s H) (t.sc fns bl io) C Z0 := by
  refine ⟨⟨⟨rfl, Sc.nd, rfl, Sc.kind, rfl, fun x => ⟨fun h => h, fun h => ⟨h, rfl⟩⟩, hbl, hg, ?_⟩, Z0_ok, fun n x h => ?_, fun X' kin n x h => ?_⟩, fun _ _ _ _ _ _ _ _ _ _ _ _ h => h, PassesOwn.never⟩
  · have := hr.un
    show (A.deeper _).units + 65 < cLine
    omega
  · obtain ⟨g, fd, ps, h1, h2, h3, h4⟩ := hc n x h
    exact callOk_of (X := bodyX P w K mg base t.N t.x (defScope t.st) f cd A out s H) h1 h2 h3 h4 hr hg
  · obtain ⟨g, fd, ps, h1, h2, h3, h4⟩ := hc n x h
    refine callOk_of (X := X') (k := k) (fd := fd) (ps := ps) (f := g) ?_ ?_ ?_ ?_ ?_ ?_
    · rw [kin.prog, kin.w, kin.K, kin.mg, kin.base]; exact h1
    · rw [kin.mg]; exact h2
    · rw [kin.K]; exact h3
    · rw [kin.K]; exact h4
    · rw [kin.A]; exact hr
    · rw [kin.A]; exact hg
theorem calls_ok {W : Nat} {tab : List Fn} {ts : List DT} {bl : List Str} (hchk : chkTab (ts.map (·.x)) bl ts tab = true) (hbl : ∀ y, bl.contains y = true → mg y = none)
    (hd : ∀ (i : Nat) (t : DT), ts[i]? = some t → ∃ f fd, DefOk K mg t f fd) : ∀ (k : Nat) (i : Nat) (t : DT) (fn : Fn) (f : Addr) (fd : FuncData), ts[i]? = some t → tab[i]? = some fn → DefOk K mg t f fd → FnG P w K mg base k f fd t.ps (spF K (calls W tab k) i) := by
  intro k
  induction k with
  | zero =>
    intro i t fn f fd h1 h2 D
    have no : ∀ vs H Q, ¬ spF K (calls W tab 0) i vs H Q := fun vs H Q ⟨F, ds, φ, z, h⟩ => by
      simp only [calls] at h
    exact ⟨fun vs H Q h => (no _ _ _ h).elim, fun A out s H args us vs Q _ _ _ _ _ h => (no _ _ _ h).elim⟩
  | succ k ih =>
    intro i t fn f fd h1 h2 D
    have ck := chkTab_at hchk h1 h2
    unfold chkD at ck
    simp only [Bool.and_eq_true, decide_eq_true_eq] at ck
    obtain ⟨⟨⟨c1, c2⟩, c3⟩, c4⟩ := ck
    have Sc := scC_by c1
    have len : ∀ vs H Q, spF K (calls W tab (k + 1)) i vs H Q → vs.length = t.ps.length := fun vs H Q ⟨F, ds, φ, z, h⟩ => by
      simp only [calls, h2] at h
      by_cases hl : ds.length = fn.np
      · have := z.len
        simp at this
        omega
      · rw [if_neg hl] at h; exact False.elim h
    refine fnG_of D.fn Sc len fun cd A out s H vs Q room guards hsp => ?_
    have hl := len _ _ _ hsp
    have G : GoodS (bodyX P w K mg base t.N t.x (defScope t.st) f cd A out s H) (t.sc (ts.map (·.x)) bl fn.io) (calls W tab k) Z0 := by
      refine goodS_body Sc hbl room guards fun n x hx => ?_
      rw [List.getElem?_map] at hx
      obtain ⟨t', h3, rfl⟩ := Option.map_eq_some_iff.mp hx
      obtain ⟨f', fd', D'⟩ := hd n t' h3
      have hn : ∃ fn', tab[n]? = some fn' := by
        have e := chkTab_len hchk
        have l := (List.getElem?_eq_some_iff.mp h3).1
        exact ⟨tab[n]'(by omega), List.getElem?_eq_getElem (by omega)⟩
      obtain ⟨fn', h4⟩ := hn
      exact ⟨f', fd', t'.ps, ih n t' fn' f' fd' h3 h4 D', D'.mgf, D'.fn.kp, D'.bd⟩
    refine ⟨_, (sndS_all (calls W tab k) W fn.body).bl _ _ _ G _ c4, ?_⟩
    obtain ⟨F, as, φ, z, h⟩ := hsp
    have hla : as.length = fn.np := by have := z.len; simp at this; omega
    have hN : vs.length ≤ t.N.length := by
      have := congrArg List.length Sc.pre
      rw [List.length_take] at this
      omega
    have z0 := z.start (N := t.N) hN
    refine ⟨F, _, φ, z0, ?_⟩
    simp only [calls, h2, if_pos hla] at h
    rw [hla, ← c2]
    show SPost K Z0 fn.io F H (L2.start t.N vs) φ (evS (calls W tab k) W fn.body (as ++ List.replicate (fn.n - fn.np) .un)) _
    generalize evS (calls W tab k) W fn.body (as ++ List.replicate (fn.n - fn.np) .un) = r at h
    have hlv : vs.length = fn.np := by omega
    cases r with
    | next ρ1 => exact fun σ' F' H' φ' x s k => h .non F' H' em φ' (x.sub fun a q => q.elim (fun z => z.elim) id) ⟨.non, fun _ q => q.elim⟩ (s.finish k hlv) em_dsj
    | ret d ρ1 => exact fun v σ' F' H' φd φ' x t s n k => h v F' H' φd φ' x t (s.finish k hlv) n
    | exc x ρ1 => exact h
    | brk ρ1 => exact False.elim h
    | cnt ρ1 => exact False.elim h
    | bad => exact h
end MV

set_option Elab.async false
set_option linter.all false
set_option maxRecDepth 100000
set_option autoImplicit false
set_option maxHeartbeats 4000000
/-! MV, part V: the law's head. -/
namespace MV
open PySem PySem.Spec PyProof.Rows L2
variable {P : Program} {w : World} {K : PySem.W.Frag} {mg mb : Str → Option Value}

/-- the law's call, from its promise -/
theorem law_callG {k : Nat} {fa a : Addr} {fd : FuncData} {x : Str} {sp : List V → Hp → VK → Prop} {s₁ : Shared} {vs : List Value} {ns : List Int}
    (inK : K.In s₁.heap) (gns : s₁.heap.Ns mainGlobals mg) (bns : s₁.heap.Ns builtinsNs mb) (bbt : ∀ x : Str, x ≠ "__name__" → mb x = bootBuiltins x) (nolim : s₁.heap.NoLimit) (nogen : s₁.gens = #[])
    (obj : s₁.heap.get? a = some { cls := .type "list", data := .seq vs.toArray }) (are : IntsAre vs ns) (short : ns.length ≤ sizeLine) (room : Room k callerA)
    (F : ∀ base : Heap, K.In base → base.Ns mainGlobals mg → FnG P w K mg base k fa fd [x] sp) (bind : ∀ u : Value, BindsTo s₁ fd ⟨[u], []⟩ [(x, u)])
    (hsp : ∀ H : Hp, SqL K H a (ns.map V.int) → sp [.ref a] H fun v _ => v = .bl true) :
    codeAny (model P w) callerA (.call (.ref fa) ⟨[.ref a], []⟩) (fun r s' => r = .ok (.ret (.bool true)) ∧ OldK s₁.heap s'.heap ∧ s'.os = s₁.os ∧ AllBare s'.gens) s₁ := by
  have rel := vals_ints are
  have same := are.length
  have main : ∀ H : Hp, SqL K H a (ns.map V.int) → HOk P w H s₁.heap → (∀ b u, H b = some u → b = a ∧ ∃ o xs, u = .frz o (.lst xs)) → (∀ u, H a = some u → K.lookup a = none) →
      codeAny (model P w) callerA (.call (.ref fa) ⟨[.ref a], []⟩) (fun r s' => r = .ok (.ret (.bool true)) ∧ OldK s₁.heap s'.heap ∧ s'.os = s₁.os ∧ AllBare s'.gens) s₁ := by
    intro H sq ok one new
    have dictFree : ∀ {b : Addr} {o : Obj} {es : Array DictEntry} {m : Nat}, s₁.heap.get? b = some o → o.data = .dict es m → H b = none := by
      intro b o es m e1 e2
      cases q : H b with
      | none => rfl
      | some u =>
        obtain ⟨rfl, _⟩ := one b u q
        cases obj.symm.trans e1
        have : Data.seq vs.toArray _ = Data.dict es m := e2
        cases this
    have low : ∀ {b : Addr} {m : Str → Option Value}, s₁.heap.Ns b m → (hidT s₁.heap H).Ns b m := by
      rintro b m ⟨o, es, ep, e1, e2, e3⟩
      exact ⟨o, es, ep, hidT_get e1 (dictFree e1 e2), e2, e3⟩
    have lowK : K.In (hidT s₁.heap H) := by
      intro b o e
      refine hidT_get (inK b o e) ?_
      cases q : H b with
      | none => rfl
      | some u =>
        obtain ⟨rfl, _⟩ := one b u q
        rw [new u q] at e
        cases e
    have md : Mod K mg (hidT s₁.heap H) := by
      obtain ⟨mc, n1, n2⟩ := nolim
      exact ⟨lowK, low gns, ⟨mb, low bns, bbt⟩, ⟨mc, low n1, n2⟩⟩
    have e0 : Env0 P w K mg (hidT s₁.heap H) callerA [] s₁ H := by
      refine ⟨rfl, md, fun b o e => of_hidT e, Nat.le_of_eq (hidT_size _ _), trivial, fun b q => ?_, ok, .of_eq nogen⟩
      have q' : b ∈ ([] : List Addr) := q
      cases q'
    refine codeAny_mono ((F _ lowK (low gns)).run callerA [] s₁ H ⟨[.ref a], []⟩ [.ref a] [.ref a] _ room rfl e0 (bind (.ref a)) (.cons rfl .nil) (hsp H sq)) fun r s' h => ?_
    cases r with
    | error e => exact False.elim h
    | ok fl =>
      cases fl <;> first | exact False.elim h | skip
      rename_i u
      obtain ⟨v, H', os, bare, un, ok', rv, q⟩ := h
      have qv : v = .bl true := q
      subst qv
      have qu : u = Value.bool true := rv
      subst qu
      refine ⟨rfl, OldK.of_keep fun b o e => ?_, os, bare⟩
      cases q : H b with
      | none => exact un.keep b o e q (fun z => by have z' : b ∈ ([] : List Addr) := z; cases z') (by simp)
      | some u =>
        obtain ⟨rfl, ob, xs, rfl⟩ := one b u q
        have q2 := un.frzs _ ob _ q
        obtain ⟨g1, _⟩ := ok _ _ q
        obtain ⟨g2, _⟩ := ok' _ _ q2
        cases e.symm.trans g1
        exact g2
  cases hk : K.lookup a with
  | some o =>
    cases obj.symm.trans (inK a o hk)
    exact main (fun _ => none) (.inr ⟨_, vs.toArray, _, hk, rfl, rfl, rfl, by rw [List.size_toArray, same]; exact short, by simpa using rel⟩) (fun b u q => by cases (show (none : Option HO) = some u from q)) (fun b u q => by cases (show (none : Option HO) = some u from q))
      fun u q => by cases (show (none : Option HO) = some u from q)
  | none =>
    refine main (upd (fun _ => none) a (.frz { cls := .type "list", data := .seq vs.toArray } (.lst (ns.map V.int)))) (.inl (.inr ⟨{ cls := .type "list", data := .seq vs.toArray }, upd_same⟩)) (fun b u q => ?_) (fun b u q => ?_) fun _ _ => hk
    · by_cases hb : b = a
      · subst hb
        rw [upd_same] at q
        cases q
        exact ⟨obj, by rw [List.length_map]; exact short, vs, _, rel, obj⟩
      · rw [upd_ne hb] at q
        cases q
    · by_cases hb : b = a
      · subst hb
        rw [upd_same] at q
        cases q
        exact ⟨rfl, _, _, rfl⟩
      · rw [upd_ne hb] at q
        cases q

/-- every def of the table stands -/
def AllDef (K : PySem.W.Frag) (mg : Str → Option Value) (ts : List DT) : Prop := ∀ t ∈ ts, ∃ f fd, DefOk K mg t f fd
theorem AllDef.nil : AllDef K mg [] := fun _ h => by cases h
theorem AllDef.cons {t : DT} {ts : List DT} (h : ∃ f fd, DefOk K mg t f fd) (r : AllDef K mg ts) : AllDef K mg (t :: ts) := fun u hu => by
  rcases List.mem_cons.mp hu with rfl | hu
  · exact h
  · exact r u hu
theorem def_mk {h : Heap} {t : DT} {f : Addr} {oc : Value} {od an : Option Addr} {osl : Array (Option Value)} {kV doc pm cdv ct : Value} (X : K.In h) (G : h.Ns mainGlobals mg) (a : PySem.W.nsIn K mainGlobals t.x = some (some (.ref f)))
    (l : K.lookup f = some ⟨oc, od, .func (PySem.W.fnOf t.x t.x (defArgs t.st) (defBody t.st) (defScope t.st) .none kV doc pm an cdv ct), osl⟩) (c : PySem.W.codeIn K cdv t.x = true) (k : PySem.W.keepIn K (.ref f) = true)
    (b : ∀ (kV doc pm : Value) (an : Option Addr) (cdv ct : Value) (us : List Value), us.length = t.ps.length → bindArgs (PySem.W.fnOf t.x t.x (defArgs t.st) (defBody t.st) (defScope t.st) .none kV doc pm an cdv ct) ⟨us, []⟩ = pure (t.ps.zip us)) :
    ∃ f fd, DefOk K mg t f fd :=
  ⟨f, _, ⟨fun_mk l c k, PySem.W.mg_of X G a, (fun_mk l c k).binds b⟩⟩
def NoneIn (mg : Str → Option Value) (bl : List Str) : Prop := ∀ y, bl.contains y = true → mg y = none
theorem NoneIn.nil : NoneIn mg [] := fun y h => by cases h
theorem NoneIn.cons {h : Heap} {x : Str} {bl : List Str} (X : K.In h) (G : h.Ns mainGlobals mg) (z : PySem.W.nsIn K mainGlobals x = some none) (r : NoneIn mg bl) : NoneIn mg (x :: bl) := fun y hy => by
  simp only [List.contains_cons, Bool.or_eq_true] at hy
  rcases hy with hy | hy
  · rw [eq_of_beq hy]; exact PySem.W.mg_none_of X G z
  · exact r y hy
/-- THE HEAD -/
theorem walk_mv {l : PySem.W.OpenLaw} {n k W i : Nat} {q : Program} {loose : List Str} {XP : (Str → Option Value) → Heap → Prop} {YP : World → Heap → Prop} {d : DefRec} {K : Params → PySem.W.Frag} {ts : List DT} {tab : List Fn} {bl : List Str} {t : DT} {x : Str}
    (hn : l.most = some n) (hn2 : n ≤ sizeLine) (hdf : d.params.defaults = []) (room : Room k callerA) (hY : ∀ (w : World) (h : Heap), YP w h → (K w.params).In h)
    (chk : chkTab (ts.map (·.x)) bl ts tab = true) (hi : ts[i]? = some t) (ht : t.x = d.name) (hp : t.ps = [x])
    (facts : ∀ (w : World) (mg : Str → Option Value) (h : Heap), (K w.params).In h → h.Ns mainGlobals mg → AllDef (K w.params) mg ts ∧ NoneIn mg bl)
    (law : ∀ ns : List Int, ns.length ≤ n → (∀ m ∈ ns, Builtin.Int.intBits m ≤ 1048576) → ∃ os, calls W tab k i [.scr ns] = .ok (.bl true) os) :
    PySem.W.WalkO q loose XP YP l.row.toRowW d [] (fun f vs => PySem.call f vs) := by
  refine Att.attach_callB hn hdf fun w s₀ s₁ mg mb fa o pm cd doc a vs ns G Y ho hd hcd hmg hobj hints hlen hbits hg => ?_
  have inK := hY w _ Y
  obtain ⟨defs, bls⟩ := facts w mg _ inK G.T.g
  obtain ⟨f, fd, D⟩ := defs t (List.mem_of_getElem? hi)
  have ef : f = fa := by
    have e1 := D.mgf
    rw [ht, hmg] at e1
    cases e1
    rfl
  subst ef
  have htab : ∃ fn, tab[i]? = some fn := by
    have e := chkTab_len chk
    have l := (List.getElem?_eq_some_iff.mp hi).1
    exact ⟨tab[i]'(by omega), List.getElem?_eq_getElem (by omega)⟩
  obtain ⟨fn, hfn⟩ := htab
  refine law_callG (k := k) (x := x) (fd := fd) (sp := spF (K w.params) (calls W tab k) i) inK G.T.g G.T.b G.T.builtins G.T.nolimit hg hobj hints (Nat.le_trans hlen hn2) room (fun base hb hns => ?_) (fun u => ?_) fun H sq => ?_
  · have := calls_ok (P := l.prog) (w := w) (mg := mg) (base := base) (W := W) chk bls (fun j t' h' => defs t' (List.mem_of_getElem? h')) k i t fn f fd hi hfn D
    rw [hp] at this
    exact this
  · have b := D.bd s₁ [u] inK (by rw [hp]; rfl)
    rw [hp] at b
    exact b
  · obtain ⟨os, e⟩ := law ns hlen hbits
    refine ⟨H, [.scr ns], em, ⟨Same.refl H, rfl, fun _ z => z.elim, fun _ => em, fun j dd q nu => ?_, fun _ _ _ _ z => z.elim, fun _ _ z => z.elim⟩, ?_⟩
    · match j with
      | 0 => cases (Option.some.inj q); exact ⟨_, rfl, .scr ns sq⟩
      | j + 1 => simp at q
    · rw [e]
      intro v F' H' φd φ' x t s n
      cases t.ow
      rfl
end MV

set_option Elab.async false
set_option linter.all false
set_option maxRecDepth 100000
set_option autoImplicit false
set_option maxHeartbeats 4000000
/-! MV, part W: what the evaluator answers, by what is wanted behind it. -/
namespace MV
open PySem L2
variable {C : Nat → List D → CR} {W : Nat}

def wE (r : ER) (Q : D → List D → Prop) : Prop := match r with
  | .ok d ρ => Q d ρ
  | _ => False
def wL (r : LR) (Q : List D → List D → Prop) : Prop := match r with
  | .ok d ρ => Q d ρ
  | _ => False
def wA (r : AR) (Q : List (Option Nat × D) → List D → Prop) : Prop := match r with
  | .ok d ρ => Q d ρ
  | _ => False
def wC (r : CR) (Q : D → List D → Prop) : Prop := match r with
  | .ok d ρ => Q d ρ
  | _ => False
def wS (r : SR) (N : List D → Prop) (R : D → List D → Prop) : Prop := match r with
  | .next ρ => N ρ
  | .ret d ρ => R d ρ
  | _ => False
def oP {α : Type} (o : Option α) (P : α → Prop) : Prop := match o with
  | some d => P d
  | none => False
theorem wE_mono {r : ER} {Q Q' : D → List D → Prop} (h : wE r Q) (w : ∀ d ρ, Q d ρ → Q' d ρ) : wE r Q' := by
  cases r <;> first | exact w _ _ h | exact h
theorem wL_mono {r : LR} {Q Q' : List D → List D → Prop} (h : wL r Q) (w : ∀ d ρ, Q d ρ → Q' d ρ) : wL r Q' := by
  cases r <;> first | exact w _ _ h | exact h
theorem wC_mono {r : CR} {Q Q' : D → List D → Prop} (h : wC r Q) (w : ∀ d ρ, Q d ρ → Q' d ρ) : wC r Q' := by
  cases r <;> first | exact w _ _ h | exact h
theorem wS_mono {r : SR} {N N' : List D → Prop} {R R' : D → List D → Prop} (h : wS r N R) (w : ∀ ρ, N ρ → N' ρ) (w' : ∀ d ρ, R d ρ → R' d ρ) : wS r N' R' := by
  cases r <;> first | exact w _ h | exact w' _ _ h | exact h
section
variable {Q : D → List D → Prop} {ρ : List D} {d : D}
@[simp] theorem wE_ok : wE (.ok d ρ) Q ↔ Q d ρ := Iff.rfl
@[simp] theorem wE_bad : wE .bad Q ↔ False := Iff.rfl
@[simp] theorem wE_bind {r : ER} {f : D → List D → ER} : wE (r.bind f) Q ↔ wE r fun d ρ => wE (f d ρ) Q := by cases r <;> exact Iff.rfl
@[simp] theorem wE_own {e : E} {r : ER} : wE (own e r) Q ↔ wE r fun d ρ => (e.isP = true → d.isFz = true) ∧ Q d ρ := by
  cases r with
  | ok d ρ =>
    simp only [own, wE_ok]
    cases h1 : e.isP <;> cases h2 : d.isFz <;> simp [wE]
  | exc => exact Iff.rfl
  | bad => exact Iff.rfl
@[simp] theorem wE_ofO {o : Option D} : wE (ofO o ρ) Q ↔ oP o fun d => Q d ρ := by cases o <;> exact Iff.rfl
@[simp] theorem wE_onO {o : Option D} {f : D → ER} : wE (onO o f) Q ↔ oP o fun d => wE (f d) Q := by cases o <;> exact Iff.rfl
@[simp] theorem wE_onR {o : Option (List D)} {f : List D → ER} : wE (onR o f) Q ↔ oP o fun d => wE (f d) Q := by cases o <;> exact Iff.rfl
@[simp] theorem wE_onB {b : Bool} {t f : ER} : wE (onB (.bl b) t f) Q ↔ (b = true → wE t Q) ∧ (b = false → wE f Q) := by cases b <;> simp [onB]
@[simp] theorem wE_backC {as : List (Option Nat × D)} {r : CR} : wE (backC as ρ r) Q ↔ wC r fun d os => Q d (back as os ρ) := by cases r <;> exact Iff.rfl
@[simp] theorem wE_toE {r : AR} {f : List (Option Nat × D) → List D → ER} : wE (r.toE f) Q ↔ wA r fun d ρ => wE (f d ρ) Q := by cases r <;> exact Iff.rfl
@[simp] theorem wE_toEL {r : LR} {f : List D → List D → ER} : wE (r.toE f) Q ↔ wL r fun d ρ => wE (f d ρ) Q := by cases r <;> exact Iff.rfl
@[simp] theorem wE_ite {c : Prop} [Decidable c] {a b : ER} : wE (if c then a else b) Q ↔ (c → wE a Q) ∧ (¬ c → wE b Q) := by
  by_cases h : c <;> simp [h]
@[simp] theorem wE_one {ow : List Nat} {r : ER} : wE (one ow r) Q ↔ wE r fun y ρ => Q (.lst true [y.fz]) (unS ow ρ) := by cases r <;> exact Iff.rfl
@[simp] theorem oP_some {α : Type} {a : α} {P : α → Prop} : oP (some a) P ↔ P a := Iff.rfl
@[simp] theorem oP_none {α : Type} {P : α → Prop} : oP none P ↔ False := Iff.rfl
@[simp] theorem oP_ite {α : Type} {c : Prop} [Decidable c] {a : Option α} {P : α → Prop} : oP (if c then a else none) P ↔ c ∧ oP a P := by
  by_cases h : c <;> simp [h]
@[simp] theorem oP_map {α β : Type} {o : Option α} {f : α → β} {P : β → Prop} : oP (o.map f) P ↔ oP o fun a => P (f a) := by cases o <;> exact Iff.rfl
end
section
variable {Q : List (Option Nat × D) → List D → Prop} {ρ : List D}
@[simp] theorem wA_ok {d : List (Option Nat × D)} : wA (.ok d ρ) Q ↔ Q d ρ := Iff.rfl
@[simp] theorem wA_bind {r : AR} {f : List (Option Nat × D) → List D → AR} : wA (r.bind f) Q ↔ wA r fun d ρ => wA (f d ρ) Q := by cases r <;> exact Iff.rfl
@[simp] theorem wA_toA {r : ER} {f : D → List D → AR} : wA (r.toA f) Q ↔ wE r fun d ρ => wA (f d ρ) Q := by cases r <;> exact Iff.rfl
end
section
variable {Q : List D → List D → Prop} {ρ : List D}
@[simp] theorem wL_ok {d : List D} : wL (.ok d ρ) Q ↔ Q d ρ := Iff.rfl
@[simp] theorem wL_toL {r : ER} {f : D → List D → LR} : wL (r.toL f) Q ↔ wE r fun d ρ => wL (f d ρ) Q := by cases r <;> exact Iff.rfl
@[simp] theorem wL_ite {c : Prop} [Decidable c] {a b : LR} : wL (if c then a else b) Q ↔ (c → wL a Q) ∧ (¬ c → wL b Q) := by
  by_cases h : c <;> simp [h]
@[simp] theorem wL_bad : wL .bad Q ↔ False := Iff.rfl
end
section
variable {N : List D → Prop} {R : D → List D → Prop} {ρ : List D} {d : D}
@[simp] theorem wS_next : wS (.next ρ) N R ↔ N ρ := Iff.rfl
@[simp] theorem wS_ret : wS (.ret d ρ) N R ↔ R d ρ := Iff.rfl
@[simp] theorem wS_bad : wS .bad N R ↔ False := Iff.rfl
@[simp] theorem wS_toS {r : ER} {f : D → List D → SR} : wS (r.toS f) N R ↔ wE r fun d ρ => wS (f d ρ) N R := by cases r <;> exact Iff.rfl
@[simp] theorem wS_toSL {r : LR} {f : List D → List D → SR} : wS (r.toS f) N R ↔ wL r fun d ρ => wS (f d ρ) N R := by cases r <;> exact Iff.rfl
@[simp] theorem wS_toSret {r : ER} : wS (r.toS .ret) N R ↔ wE r R := by cases r <;> exact Iff.rfl
@[simp] theorem wS_onOS {o : Option D} {f : D → SR} : wS (onOS o f) N R ↔ oP o fun d => wS (f d) N R := by cases o <;> exact Iff.rfl
@[simp] theorem wS_onRS {o : Option (List D)} {f : List D → SR} : wS (onRS o f) N R ↔ oP o fun d => wS (f d) N R := by cases o <;> exact Iff.rfl
@[simp] theorem wS_onBS {b : Bool} {t f : SR} : wS (onBS (.bl b) t f) N R ↔ (b = true → wS t N R) ∧ (b = false → wS f N R) := by cases b <;> simp [onBS]
@[simp] theorem wS_bind {r : SR} {f : List D → SR} : wS (r.bind f) N R ↔ wS r (fun ρ => wS (f ρ) N R) R := by cases r <;> exact Iff.rfl
/-- a loop: what stands ahead of the items that are left -/
theorem for_inv {body : D → List D → SR} (I : List D → List D → Prop) (hs : ∀ d r ρ, I (d :: r) ρ → wS (body d ρ) (I r) R) (he : ∀ ρ, I [] ρ → N ρ) : ∀ {ds : List D} {ρ : List D}, I ds ρ → wS (forL body ds ρ) N R
  | [], ρ, h => he ρ h
  | d :: r, ρ, h => by
    have q := hs d r ρ h
    simp only [forL]
    cases e : body d ρ with
    | next ρ1 => rw [e] at q; exact for_inv I hs he q
    | ret v ρ1 => rw [e] at q; exact q
    | brk ρ1 => rw [e] at q; exact q.elim
    | cnt ρ1 => rw [e] at q; exact q.elim
    | exc x ρ1 => rw [e] at q; exact q.elim
    | bad => rw [e] at q; exact q.elim
/-- a comprehension -/
theorem lc_inv {turn : D → List D → ER} {Q : D → List D → Prop} (I : List D → List D → List D → Prop)
    (hs : ∀ d r acc ρ, I (d :: r) acc ρ → wE (turn d ρ) fun x ρ' => ∃ es, x = .lst true es ∧ acc.length + es.length ≤ sizeLine ∧ I r (acc ++ es) ρ') (he : ∀ acc ρ, I [] acc ρ → Q (.lst true acc) ρ) :
    ∀ {ds acc ρ : List D}, I ds acc ρ → wE (lcL turn ds acc ρ) Q
  | [], acc, ρ, h => he acc ρ h
  | d :: r, acc, ρ, h => by
    have q := hs d r acc ρ h
    simp only [lcL]
    cases e : turn d ρ with
    | ok x ρ1 =>
      rw [e] at q
      obtain ⟨es, rfl, hl, q⟩ := q
      simp only
      rw [if_pos hl]
      exact lc_inv I hs he q
    | exc x ρ1 => rw [e] at q; exact q.elim
    | bad => rw [e] at q; exact q.elim
end
/-- a def is called -/
theorem call_w {tab : List Fn} {k f : Nat} {as : List D} {fn : Fn} {Q : D → List D → Prop} (h : tab[f]? = some fn) (hl : as.length = fn.np)
    (q : wS (evS (calls W tab k) W fn.body (as ++ List.replicate (fn.n - fn.np) .un)) (fun ρ => Q .non (outs fn.np fn.io ρ)) fun d ρ => Q d (outs fn.np fn.io ρ)) : wC (calls W tab (k + 1) f as) Q := by
  simp only [calls, h, if_pos hl]
  cases e : evS (calls W tab k) W fn.body (as ++ List.replicate (fn.n - fn.np) .un) <;> (rw [e] at q; exact q)

/-! ### the evaluator's rows -/
section
variable {ρ : List D}
def okD (d : D) : Option D := match d with
  | .un => none
  | d => some d
@[simp] theorem okD_int {i : Int} : okD (.int i) = some (.int i) := rfl
@[simp] theorem okD_bl {i : Bool} : okD (.bl i) = some (.bl i) := rfl
@[simp] theorem okD_str {i : Str} : okD (.str i) = some (.str i) := rfl
@[simp] theorem okD_non : okD .non = some .non := rfl
@[simp] theorem okD_un : okD .un = none := rfl
@[simp] theorem okD_lst {o : Bool} {xs : List D} : okD (.lst o xs) = some (.lst o xs) := rfl
@[simp] theorem okD_tup {o : Bool} {xs : List D} : okD (.tup o xs) = some (.tup o xs) := rfl
@[simp] theorem okD_scr {ns : List Int} : okD (.scr ns) = some (.scr ns) := rfl
theorem okD_of {d : D} (h : d ≠ .un) : okD d = some d := by cases d <;> first | rfl | exact absurd rfl h
@[simp] theorem slot_z {d : D} : slot (d :: ρ) 0 = okD d := by cases d <;> rfl
@[simp] theorem slot_s {d : D} {i : Nat} : slot (d :: ρ) (i + 1) = slot ρ i := rfl
@[simp] theorem evP_sl {i : Nat} : evP (.sl i) ρ = slot ρ i := rfl
@[simp] theorem evP_lit {d : D} : evP (.lit d) ρ = some d := rfl
@[simp] theorem evP_ix {a b : P} {P : D → Prop} : oP (evP (.ix a b) ρ) P ↔ oP (evP a ρ) fun x => oP (evP b ρ) fun y => oP (ixF x y) P := by
  simp only [evP]
  cases evP a ρ <;> cases evP b ρ <;> exact Iff.rfl
def addP : D → D → Option D
  | .int i, .int j => some (.int (i + j))
  | _, _ => none
def subP : D → D → Option D
  | .int i, .int j => some (.int (i - j))
  | _, _ => none
@[simp] theorem addP_int {i j : Int} : addP (.int i) (.int j) = some (.int (i + j)) := rfl
@[simp] theorem subP_int {i j : Int} : subP (.int i) (.int j) = some (.int (i - j)) := rfl
@[simp] theorem evP_add {a b : P} {P : D → Prop} : oP (evP (.add a b) ρ) P ↔ oP (evP a ρ) fun x => oP (evP b ρ) fun y => oP (addP x y) P := by
  simp only [evP]
  cases evP a ρ with
  | none => exact Iff.rfl
  | some x => cases evP b ρ with
    | none => cases x <;> exact Iff.rfl
    | some y => cases x <;> cases y <;> exact Iff.rfl
@[simp] theorem evP_sub {a b : P} {P : D → Prop} : oP (evP (.sub a b) ρ) P ↔ oP (evP a ρ) fun x => oP (evP b ρ) fun y => oP (subP x y) P := by
  simp only [evP]
  cases evP a ρ with
  | none => exact Iff.rfl
  | some x => cases evP b ρ with
    | none => cases x <;> exact Iff.rfl
    | some y => cases x <;> cases y <;> exact Iff.rfl
@[simp] theorem ev_p {a : P} : evE C (.p a) ρ = ofO (evP a ρ) ρ := by simp only [evE]
@[simp] theorem ev_var {i : Nat} : evE C (.var i) ρ = onO (slot ρ i) fun d => .ok d.fz (ρ.set i d.fz) := by simp only [evE]
@[simp] theorem ev_mv {i : Nat} : evE C (.mv i) ρ = onO (slot ρ i) fun d => .ok d (ρ.set i .un) := by simp only [evE]
@[simp] theorem ev_u {op : U} {a : E} : evE C (.u op a) ρ = (evE C a ρ).bind fun d ρ1 => ofO (uF op d) ρ1 := by simp only [evE]
@[simp] theorem ev_b {op : B} {a b : E} : evE C (.b op a b) ρ = (if b.isP then evE C a ρ else own a (evE C a ρ)).bind fun x ρ1 => (evE C b ρ1).bind fun y ρ2 => ofO (bF op x y) ρ2 := by simp only [evE]
@[simp] theorem ev_ixs {i : Nat} {b : E} : evE C (.ixs i b) ρ = onO (slot ρ i) fun _ => (own b (evE C b ρ)).bind fun y ρ1 => onO (slot ρ1 i) fun x => ofO (bF .ix x y) ρ1 := by simp only [evE]
@[simp] theorem ev_slc {a lo hi : E} : evE C (.slc a lo hi) ρ = (if lo.isP && hi.isP then evE C a ρ else own a (evE C a ρ)).bind fun x ρ1 => (own lo (evE C lo ρ1)).bind fun l ρ2 => onO (bndO (isN lo) l) fun _ => (own hi (evE C hi ρ2)).bind fun h ρ3 => sliceF (isN lo) (isN hi) x l h ρ3 := by simp only [evE]
@[simp] theorem ev_and {a b : E} : evE C (.and a b) ρ = (evE C a ρ).bind fun x ρ1 => onB x (own b (evE C b ρ1)) (.ok (.bl false) ρ1) := by simp only [evE]
@[simp] theorem ev_or {a b : E} : evE C (.or a b) ρ = (evE C a ρ).bind fun x ρ1 => onB x (.ok (.bl true) ρ1) (own b (evE C b ρ1)) := by simp only [evE]
@[simp] theorem ev_not {a : E} : evE C (.not a) ρ = (evE C a ρ).bind fun x ρ1 => onB x (.ok (.bl false) ρ1) (.ok (.bl true) ρ1) := by simp only [evE]
@[simp] theorem ev_ite {c a b : E} : evE C (.ite c a b) ρ = (evE C c ρ).bind fun x ρ1 => onB x (own a (evE C a ρ1)) (own b (evE C b ρ1)) := by simp only [evE]
@[simp] theorem ev_chain {a r : E} : evE C (.chain a r) ρ = (own a (evE C a ρ)).bind fun x ρ1 => evC C r x ρ1 := by simp only [evE]
@[simp] theorem ev_lstE {a : E} : evE C (.lstE a) ρ = (evA C a ρ).toE (mkL true) := by simp only [evE]
@[simp] theorem ev_tupE {a : E} : evE C (.tupE a) ρ = (evA C a ρ).toE (mkL false) := by simp only [evE]
@[simp] theorem ev_call {f : Nat} {a : E} : evE C (.call f a) ρ = (evA C a ρ).toE fun as ρ1 => if (slotsOf as).Nodup then onR (fill ρ1 as) fun ds => backC as ρ1 (C f ds) else .bad := by simp only [evE]
@[simp] theorem ev_lc {ow : List Nat} {t : T} {it c e : E} : evE C (.lc ow t it c e) ρ = (evI C it ρ).toE fun ds ρ1 => lcL (turnF C ow t c e) ds [] (unS ow ρ1) := by simp only [evE]; rfl
@[simp] theorem ev_ck {op : B} {e r : E} {x : D} : evC C (.ck op e r) x ρ = (own e (evE C e ρ)).bind fun y ρ1 => onO (bF op x y) fun z => if r.isNil then onB z (.ok (.bl true) ρ1) (.ok (.bl false) ρ1) else onB z (evC C r y ρ1) (.ok (.bl false) ρ1) := by simp only [evC]
@[simp] theorem ev_nil : evA C .nil ρ = .ok [] ρ := by simp only [evA]
@[simp] theorem ev_io {i : Nat} {r : E} : evA C (.cons (.io i) r) ρ = (onO (slot ρ i) fun d => .ok .un ρ).toA fun _ ρ1 => (evA C r ρ1).bind fun ds ρ2 => .ok ((some i, .un) :: ds) ρ2 := by simp only [evA]
theorem ev_cons {a r : E} (h : isIo a = false) : evA C (.cons a r) ρ = (own a (evE C a ρ)).toA fun d ρ1 => (evA C r ρ1).bind fun ds ρ2 => .ok ((none, d) :: ds) ρ2 := evA_cons h ρ
@[simp] theorem ev_cons_p {a : P} {zz : E} : evA C (.cons (.p a) zz) ρ = (own (.p a) (evE C (.p a) ρ)).toA fun d ρ1 => (evA C zz ρ1).bind fun ds ρ2 => .ok ((none, d) :: ds) ρ2 := ev_cons rfl
@[simp] theorem ev_cons_var {a : Nat} {zz : E} : evA C (.cons (.var a) zz) ρ = (own (.var a) (evE C (.var a) ρ)).toA fun d ρ1 => (evA C zz ρ1).bind fun ds ρ2 => .ok ((none, d) :: ds) ρ2 := ev_cons rfl
@[simp] theorem ev_cons_mv {a : Nat} {zz : E} : evA C (.cons (.mv a) zz) ρ = (own (.mv a) (evE C (.mv a) ρ)).toA fun d ρ1 => (evA C zz ρ1).bind fun ds ρ2 => .ok ((none, d) :: ds) ρ2 := ev_cons rfl
@[simp] theorem ev_cons_u {o : U} {a : E} {zz : E} : evA C (.cons (.u o a) zz) ρ = (own (.u o a) (evE C (.u o a) ρ)).toA fun d ρ1 => (evA C zz ρ1).bind fun ds ρ2 => .ok ((none, d) :: ds) ρ2 := ev_cons rfl
@[simp] theorem ev_cons_b {o : B} {a b : E} {zz : E} : evA C (.cons (.b o a b) zz) ρ = (own (.b o a b) (evE C (.b o a b) ρ)).toA fun d ρ1 => (evA C zz ρ1).bind fun ds ρ2 => .ok ((none, d) :: ds) ρ2 := ev_cons rfl
@[simp] theorem ev_cons_ixs {o : Nat} {a : E} {zz : E} : evA C (.cons (.ixs o a) zz) ρ = (own (.ixs o a) (evE C (.ixs o a) ρ)).toA fun d ρ1 => (evA C zz ρ1).bind fun ds ρ2 => .ok ((none, d) :: ds) ρ2 := ev_cons rfl
@[simp] theorem ev_cons_slc {a b c : E} {zz : E} : evA C (.cons (.slc a b c) zz) ρ = (own (.slc a b c) (evE C (.slc a b c) ρ)).toA fun d ρ1 => (evA C zz ρ1).bind fun ds ρ2 => .ok ((none, d) :: ds) ρ2 := ev_cons rfl
@[simp] theorem ev_cons_and {a b : E} {zz : E} : evA C (.cons (.and a b) zz) ρ = (own (.and a b) (evE C (.and a b) ρ)).toA fun d ρ1 => (evA C zz ρ1).bind fun ds ρ2 => .ok ((none, d) :: ds) ρ2 := ev_cons rfl
@[simp] theorem ev_cons_or {a b : E} {zz : E} : evA C (.cons (.or a b) zz) ρ = (own (.or a b) (evE C (.or a b) ρ)).toA fun d ρ1 => (evA C zz ρ1).bind fun ds ρ2 => .ok ((none, d) :: ds) ρ2 := ev_cons rfl
@[simp] theorem ev_cons_not {a : E} {zz : E} : evA C (.cons (.not a) zz) ρ = (own (.not a) (evE C (.not a) ρ)).toA fun d ρ1 => (evA C zz ρ1).bind fun ds ρ2 => .ok ((none, d) :: ds) ρ2 := ev_cons rfl
@[simp] theorem ev_cons_ite {a b c : E} {zz : E} : evA C (.cons (.ite a b c) zz) ρ = (own (.ite a b c) (evE C (.ite a b c) ρ)).toA fun d ρ1 => (evA C zz ρ1).bind fun ds ρ2 => .ok ((none, d) :: ds) ρ2 := ev_cons rfl
@[simp] theorem ev_cons_chain {a b : E} {zz : E} : evA C (.cons (.chain a b) zz) ρ = (own (.chain a b) (evE C (.chain a b) ρ)).toA fun d ρ1 => (evA C zz ρ1).bind fun ds ρ2 => .ok ((none, d) :: ds) ρ2 := ev_cons rfl
@[simp] theorem ev_cons_lstE {a : E} {zz : E} : evA C (.cons (.lstE a) zz) ρ = (own (.lstE a) (evE C (.lstE a) ρ)).toA fun d ρ1 => (evA C zz ρ1).bind fun ds ρ2 => .ok ((none, d) :: ds) ρ2 := ev_cons rfl
@[simp] theorem ev_cons_tupE {a : E} {zz : E} : evA C (.cons (.tupE a) zz) ρ = (own (.tupE a) (evE C (.tupE a) ρ)).toA fun d ρ1 => (evA C zz ρ1).bind fun ds ρ2 => .ok ((none, d) :: ds) ρ2 := ev_cons rfl
@[simp] theorem ev_cons_call {f : Nat} {a : E} {zz : E} : evA C (.cons (.call f a) zz) ρ = (own (.call f a) (evE C (.call f a) ρ)).toA fun d ρ1 => (evA C zz ρ1).bind fun ds ρ2 => .ok ((none, d) :: ds) ρ2 := ev_cons rfl
@[simp] theorem ev_cons_lc {a : List Nat} {t : T} {b c d : E} {zz : E} : evA C (.cons (.lc a t b c d) zz) ρ = (own (.lc a t b c d) (evE C (.lc a t b c d) ρ)).toA fun d ρ1 => (evA C zz ρ1).bind fun ds ρ2 => .ok ((none, d) :: ds) ρ2 := ev_cons rfl
@[simp] theorem ev_rng {a b : E} : evI C (.rng a b) ρ = (own a (evE C a ρ)).toL fun x ρ1 => (own b (evE C b ρ1)).toL fun y ρ2 => rngR x y ρ2 := by simp only [evI]
@[simp] theorem ev_enm {a : E} : evI C (.enm a) ρ = (own a (evE C a ρ)).toL enmR := by simp only [evI]
@[simp] theorem ev_zp {a b : E} : evI C (.zp a b) ρ = (own a (evE C a ρ)).toL fun x ρ1 => (own b (evE C b ρ1)).toL fun y ρ2 => zpR x y ρ2 := by simp only [evI]
@[simp] theorem ev_ivar {i : Nat} : evI C (.var i) ρ = (own (.var i) (evE C (.var i) ρ)).toL itemsR := by simp only [evI]
@[simp] theorem ev_ip {i : P} : evI C (.p i) ρ = (own (.p i) (evE C (.p i) ρ)).toL itemsR := by simp only [evI]
@[simp] theorem ev_ilst {i : E} : evI C (.lstE i) ρ = (own (.lstE i) (evE C (.lstE i) ρ)).toL itemsR := by simp only [evI]
@[simp] theorem ev_itup {i : E} : evI C (.tupE i) ρ = (own (.tupE i) (evE C (.tupE i) ρ)).toL itemsR := by simp only [evI]
@[simp] theorem ev_icall {f : Nat} {i : E} : evI C (.call f i) ρ = (own (.call f i) (evE C (.call f i) ρ)).toL itemsR := by simp only [evI]
@[simp] theorem ev_islc {a b c : E} : evI C (.slc a b c) ρ = (own (.slc a b c) (evE C (.slc a b c) ρ)).toL itemsR := by simp only [evI]
@[simp] theorem sv_skip : evS C W .skip ρ = .next ρ := by simp only [evS]
@[simp] theorem sv_seq {a b : MV.S} : evS C W (.seq a b) ρ = (evS C W a ρ).bind (evS C W b) := by simp only [evS]
@[simp] theorem sv_asg {t : T} {e : E} : evS C W (.asg t e) ρ = (own e (evE C e ρ)).toS fun d ρ1 => onRS (bindT t d ρ1) .next := by simp only [evS]
@[simp] theorem sv_setIx {i : Nat} {k e : E} : evS C W (.setIx i k e) ρ = (own e (evE C e ρ)).toS fun d ρ1 => (onO (slot ρ1 i) fun _ => own k (evE C k ρ1)).toS fun j ρ2 => onOS (slot ρ2 i) fun x => onOS (setF x d.fz j) fun y => .next (ρ2.set i y) := by simp only [evS]
@[simp] theorem sv_augIx {i : Nat} {k : P} {op : B} {e : E} : evS C W (.augIx i k op e) ρ = onOS (slot ρ i) fun x => onOS (evP k ρ) fun j => onOS (isL x) fun _ => onOS (bF .ix x j) fun y => onOS (intF y) fun _ => (own e (evE C e ρ)).toS fun d ρ1 => onOS (bF op y d) fun z => onOS (intF z) fun _ =>
      onOS (slot ρ1 i) fun x1 => onOS (setF x1 z j) fun w => .next (ρ1.set i w) := by simp only [evS]
@[simp] theorem sv_aug {i : Nat} {op : B} {e : E} : evS C W (.aug i op e) ρ = onOS (slot ρ i) fun x => onOS (intF x) fun _ => (own e (evE C e ρ)).toS fun d ρ1 => onOS (bF op x d) fun z => onOS (intF z) fun _ => .next (ρ1.set i z) := by simp only [evS]
@[simp] theorem sv_app {i : Nat} {e : E} : evS C W (.app i e) ρ = onOS (slot ρ i) fun x => onOS (isL x) fun _ => (own e (evE C e ρ)).toS fun d ρ1 => onOS (slot ρ1 i) fun x1 => onOS (appF x1 d.fz) fun w => .next (ρ1.set i w) := by simp only [evS]
@[simp] theorem sv_ex {e : E} : evS C W (.ex e) ρ = (evE C e ρ).toS fun _ ρ1 => .next ρ1 := by simp only [evS]
@[simp] theorem sv_ret {e : E} : evS C W (.ret e) ρ = (own e (evE C e ρ)).toS .ret := by simp only [evS]
@[simp] theorem sv_retN : evS C W .retN ρ = .ret .non ρ := by simp only [evS]
@[simp] theorem sv_ite {c : E} {a b : MV.S} : evS C W (.ite c a b) ρ = (evE C c ρ).toS fun x ρ1 => onBS x (evS C W a ρ1) (evS C W b ρ1) := by simp only [evS]
@[simp] theorem sv_for {t : T} {it : E} {b : MV.S} : evS C W (.for_ t it b) ρ = (evI C it ρ).toS fun ds ρ1 => forL (fun d ρ => onRS (bindT t d ρ) (evS C W b)) ds ρ1 := by simp only [evS]
/-! ### small things -/
@[simp] theorem bT_sl {i : Nat} {d : D} {P : List D → Prop} : oP (bindT (.sl i) d ρ) P ↔ i < ρ.length ∧ P (ρ.set i d) := by
  simp only [bindT, oP_ite, oP_some]
@[simp] theorem bT_nil {o : Bool} : bindT .nil (.tup o []) ρ = some ρ := rfl
@[simp] theorem bT_cons {t r : T} {o : Bool} {d : D} {ds : List D} {P : List D → Prop} : oP (bindT (.cons t r) (.tup o (d :: ds)) ρ) P ↔ oP (bindT t d ρ) fun ρ1 => oP (bindT r (.tup o ds) ρ1) P := by
  simp only [bindT]
  cases bindT t d ρ <;> exact Iff.rfl
@[simp] theorem bT_tup {t : T} {o : Bool} {ds : List D} : bindT (.tup t) (.tup o ds) ρ = bindT t (.tup false (fzs ds)) ρ := by
  simp only [bindT, D.fz]
@[simp] theorem fz_int {i : Int} : (D.int i).fz = .int i := by simp only [D.fz]
@[simp] theorem fz_bl {i : Bool} : (D.bl i).fz = .bl i := by simp only [D.fz]
@[simp] theorem fz_str {i : Str} : (D.str i).fz = .str i := by simp only [D.fz]
@[simp] theorem fz_non : D.non.fz = .non := by simp only [D.fz]
@[simp] theorem fz_lst {o : Bool} {xs : List D} : (D.lst o xs).fz = .lst false (fzs xs) := by simp only [D.fz]
@[simp] theorem fz_tup {o : Bool} {xs : List D} : (D.tup o xs).fz = .tup false (fzs xs) := by simp only [D.fz]
@[simp] theorem fzs_nil : fzs [] = [] := by simp only [fzs]
@[simp] theorem fzs_cons {d : D} {r : List D} : fzs (d :: r) = d.fz :: fzs r := by simp only [fzs]
theorem fzs_app : ∀ (a b : List D), fzs (a ++ b) = fzs a ++ fzs b
  | [], b => rfl
  | d :: r, b => by simp [fzs_app r b]
@[simp] theorem isFz_int {i : Int} : (D.int i).isFz = true := by simp only [D.isFz]
@[simp] theorem isFz_bl {i : Bool} : (D.bl i).isFz = true := by simp only [D.isFz]
@[simp] theorem isFz_str {i : Str} : (D.str i).isFz = true := by simp only [D.isFz]
@[simp] theorem isFz_non : D.non.isFz = true := by simp only [D.isFz]
@[simp] theorem isFz_lst {o : Bool} {xs : List D} : (D.lst o xs).isFz = (!o && isFzs xs) := by simp only [D.isFz]
@[simp] theorem isFz_tup {o : Bool} {xs : List D} : (D.tup o xs).isFz = (!o && isFzs xs) := by simp only [D.isFz]
@[simp] theorem isFzs_nil : isFzs [] = true := by simp only [isFzs]
@[simp] theorem isFzs_cons {d : D} {r : List D} : isFzs (d :: r) = (d.isFz && isFzs r) := by simp only [isFzs]
/-- whole numbers as data -/
def ints_ (ns : List Int) : List D := ns.map .int
@[simp] theorem isFzs_ints {ns : List Int} : isFzs (ns.map D.int) = true := isFzs_of fun i d h => by
  rw [List.getElem?_map] at h
  obtain ⟨n, _, rfl⟩ := Option.map_eq_some_iff.mp h
  simp
@[simp] theorem fzs_ints {ns : List Int} : fzs (ns.map D.int) = ns.map D.int := fzs_of _ isFzs_ints
@[simp] theorem E_isP_p {a : P} : E.isP (.p a) = true := rfl
@[simp] theorem range1 : List.range 1 = [0] := rfl
@[simp] theorem range2 : List.range 2 = [0, 1] := rfl
@[simp] theorem range3 : List.range 3 = [0, 1, 2] := rfl
@[simp] theorem range4 : List.range 4 = [0, 1, 2, 3] := rfl
@[simp] theorem range5 : List.range 5 = [0, 1, 2, 3, 4] := rfl
@[simp] theorem isP_u {o : U} {a : E} : E.isP (.u o a) = false := rfl
@[simp] theorem isNil_u {o : U} {a : E} : E.isNil (.u o a) = false := rfl
@[simp] theorem isN_u {o : U} {a : E} : isN (.u o a) = false := rfl
@[simp] theorem isP_b {o : B} {a b : E} : E.isP (.b o a b) = false := rfl
@[simp] theorem isNil_b {o : B} {a b : E} : E.isNil (.b o a b) = false := rfl
@[simp] theorem isN_b {o : B} {a b : E} : isN (.b o a b) = false := rfl
@[simp] theorem isP_ixs {i : Nat} {a : E} : E.isP (.ixs i a) = false := rfl
@[simp] theorem isNil_ixs {i : Nat} {a : E} : E.isNil (.ixs i a) = false := rfl
@[simp] theorem isN_ixs {i : Nat} {a : E} : isN (.ixs i a) = false := rfl
@[simp] theorem isP_slc {a b c : E} : E.isP (.slc a b c) = false := rfl
@[simp] theorem isNil_slc {a b c : E} : E.isNil (.slc a b c) = false := rfl
@[simp] theorem isN_slc {a b c : E} : isN (.slc a b c) = false := rfl
@[simp] theorem isP_and {a b : E} : E.isP (.and a b) = false := rfl
@[simp] theorem isNil_and {a b : E} : E.isNil (.and a b) = false := rfl
@[simp] theorem isN_and {a b : E} : isN (.and a b) = false := rfl
@[simp] theorem isP_or {a b : E} : E.isP (.or a b) = false := rfl
@[simp] theorem isNil_or {a b : E} : E.isNil (.or a b) = false := rfl
@[simp] theorem isN_or {a b : E} : isN (.or a b) = false := rfl
@[simp] theorem isP_not {a : E} : E.isP (.not a) = false := rfl
@[simp] theorem isNil_not {a : E} : E.isNil (.not a) = false := rfl
@[simp] theorem isN_not {a : E} : isN (.not a) = false := rfl
@[simp] theorem isP_ite {a b c : E} : E.isP (.ite a b c) = false := rfl
@[simp] theorem isNil_ite {a b c : E} : E.isNil (.ite a b c) = false := rfl
@[simp] theorem isN_ite {a b c : E} : isN (.ite a b c) = false := rfl
@[simp] theorem isP_chain {a b : E} : E.isP (.chain a b) = false := rfl
@[simp] theorem isNil_chain {a b : E} : E.isNil (.chain a b) = false := rfl
@[simp] theorem isN_chain {a b : E} : isN (.chain a b) = false := rfl
@[simp] theorem isP_lstE {a : E} : E.isP (.lstE a) = false := rfl
@[simp] theorem isNil_lstE {a : E} : E.isNil (.lstE a) = false := rfl
@[simp] theorem isN_lstE {a : E} : isN (.lstE a) = false := rfl
@[simp] theorem isP_tupE {a : E} : E.isP (.tupE a) = false := rfl
@[simp] theorem isNil_tupE {a : E} : E.isNil (.tupE a) = false := rfl
@[simp] theorem isN_tupE {a : E} : isN (.tupE a) = false := rfl
@[simp] theorem isP_call {f : Nat} {a : E} : E.isP (.call f a) = false := rfl
@[simp] theorem isNil_call {f : Nat} {a : E} : E.isNil (.call f a) = false := rfl
@[simp] theorem isN_call {f : Nat} {a : E} : isN (.call f a) = false := rfl
@[simp] theorem isP_lc {w : List Nat} {t : T} {a b c : E} : E.isP (.lc w t a b c) = false := rfl
@[simp] theorem isNil_lc {w : List Nat} {t : T} {a b c : E} : E.isNil (.lc w t a b c) = false := rfl
@[simp] theorem isN_lc {w : List Nat} {t : T} {a b c : E} : isN (.lc w t a b c) = false := rfl
@[simp] theorem isP_var {i : Nat} : E.isP (.var i) = false := rfl
@[simp] theorem isNil_var {i : Nat} : E.isNil (.var i) = false := rfl
@[simp] theorem isN_var {i : Nat} : isN (.var i) = false := rfl
@[simp] theorem isP_mv {i : Nat} : E.isP (.mv i) = false := rfl
@[simp] theorem isNil_mv {i : Nat} : E.isNil (.mv i) = false := rfl
@[simp] theorem isN_mv {i : Nat} : isN (.mv i) = false := rfl
@[simp] theorem isNil_nil : E.isNil .nil = true := rfl
@[simp] theorem isNil_ck {o : B} {a b : E} : E.isNil (.ck o a b) = false := rfl
@[simp] theorem isNil_p {a : P} : E.isNil (.p a) = false := rfl
@[simp] theorem isN_non : isN (.p (.lit .non)) = true := rfl
@[simp] theorem isN_int {i : Int} : isN (.p (.lit (.int i))) = false := rfl
@[simp] theorem isN_sl {i : Nat} : isN (.p (.sl i)) = false := rfl
@[simp] theorem isN_ix {a b : P} : isN (.p (.ix a b)) = false := rfl
@[simp] theorem bndF_non : bndF true .non = some none := rfl
@[simp] theorem bndF_int {i : Int} : bndF false (.int i) = some (some i) := rfl
@[simp] theorem bndO_non : bndO true .non = some .non := rfl
@[simp] theorem bndO_int {i : Int} : bndO false (.int i) = some (.int i) := rfl
@[simp] theorem u_neg_ {i : Int} : uF .neg (.int i) = some (.int (-i)) := rfl
@[simp] theorem u_len_l {o : Bool} {xs : List D} : uF .len (.lst o xs) = some (.int xs.length) := rfl
@[simp] theorem u_len_t {o : Bool} {xs : List D} : uF .len (.tup o xs) = some (.int xs.length) := rfl
@[simp] theorem u_int_i {i : Int} : uF .int (.int i) = some (.int i) := rfl
@[simp] theorem u_abs_i {i : Int} : uF .abs (.int i) = some (.int (if i < 0 then -i else i)) := rfl
@[simp] theorem u_str_i {i : Int} : uF .str (.int i) = if i.natAbs.log2 < 1920 then some (.str (toString i)) else none := rfl
@[simp] theorem u_list_l {o : Bool} {xs : List D} : uF .list (.lst o xs) = if isFzs xs then some (.lst true xs) else none := rfl
@[simp] theorem u_list_t {o : Bool} {xs : List D} : uF .list (.tup o xs) = if isFzs xs then some (.lst true xs) else none := rfl
@[simp] theorem u_list_s {ns : List Int} : uF .list (.scr ns) = some (.lst true (ns.map .int)) := rfl
@[simp] theorem u_tuple_l {o : Bool} {xs : List D} : uF .tuple (.lst o xs) = if isFzs xs then some (.tup true xs) else none := rfl
@[simp] theorem u_sum_l {o : Bool} {xs : List D} : uF .sum (.lst o xs) = (intsD xs).map fun ns => .int ns.sum := rfl
@[simp] theorem u_isInt_int {i : Int} : uF .isInt (.int i) = some (.bl true) := rfl
@[simp] theorem u_isInt_bl {b : Bool} : uF .isInt (.bl b) = some (.bl true) := rfl
@[simp] theorem u_isInt_str {s : Str} : uF .isInt (.str s) = some (.bl false) := rfl
@[simp] theorem u_isInt_non : uF .isInt (.non) = some (.bl false) := rfl
@[simp] theorem u_isInt_lst {o : Bool} {xs : List D} : uF .isInt (.lst o xs) = some (.bl false) := rfl
@[simp] theorem u_isInt_tup {o : Bool} {xs : List D} : uF .isInt (.tup o xs) = some (.bl false) := rfl
@[simp] theorem u_isBool_int {i : Int} : uF .isBool (.int i) = some (.bl false) := rfl
@[simp] theorem u_isBool_bl {b : Bool} : uF .isBool (.bl b) = some (.bl true) := rfl
@[simp] theorem u_isBool_str {s : Str} : uF .isBool (.str s) = some (.bl false) := rfl
@[simp] theorem u_isBool_non : uF .isBool (.non) = some (.bl false) := rfl
@[simp] theorem u_isBool_lst {o : Bool} {xs : List D} : uF .isBool (.lst o xs) = some (.bl false) := rfl
@[simp] theorem u_isBool_tup {o : Bool} {xs : List D} : uF .isBool (.tup o xs) = some (.bl false) := rfl
@[simp] theorem u_isList_int {i : Int} : uF .isList (.int i) = some (.bl false) := rfl
@[simp] theorem u_isList_bl {b : Bool} : uF .isList (.bl b) = some (.bl false) := rfl
@[simp] theorem u_isList_str {s : Str} : uF .isList (.str s) = some (.bl false) := rfl
@[simp] theorem u_isList_non : uF .isList (.non) = some (.bl false) := rfl
@[simp] theorem u_isList_lst {o : Bool} {xs : List D} : uF .isList (.lst o xs) = some (.bl true) := rfl
@[simp] theorem u_isList_tup {o : Bool} {xs : List D} : uF .isList (.tup o xs) = some (.bl false) := rfl
@[simp] theorem u_isTuple_int {i : Int} : uF .isTuple (.int i) = some (.bl false) := rfl
@[simp] theorem u_isTuple_bl {b : Bool} : uF .isTuple (.bl b) = some (.bl false) := rfl
@[simp] theorem u_isTuple_str {s : Str} : uF .isTuple (.str s) = some (.bl false) := rfl
@[simp] theorem u_isTuple_non : uF .isTuple (.non) = some (.bl false) := rfl
@[simp] theorem u_isTuple_lst {o : Bool} {xs : List D} : uF .isTuple (.lst o xs) = some (.bl false) := rfl
@[simp] theorem u_isTuple_tup {o : Bool} {xs : List D} : uF .isTuple (.tup o xs) = some (.bl true) := rfl
@[simp] theorem u_isStr_int {i : Int} : uF .isStr (.int i) = some (.bl false) := rfl
@[simp] theorem u_isStr_bl {b : Bool} : uF .isStr (.bl b) = some (.bl false) := rfl
@[simp] theorem u_isStr_str {s : Str} : uF .isStr (.str s) = some (.bl true) := rfl
@[simp] theorem u_isStr_non : uF .isStr (.non) = some (.bl false) := rfl
@[simp] theorem u_isStr_lst {o : Bool} {xs : List D} : uF .isStr (.lst o xs) = some (.bl false) := rfl
@[simp] theorem u_isStr_tup {o : Bool} {xs : List D} : uF .isStr (.tup o xs) = some (.bl false) := rfl
@[simp] theorem u_isN_int {i : Int} : uF .isN (.int i) = some (.bl false) := rfl
@[simp] theorem u_notN_int {i : Int} : uF .notN (.int i) = some (.bl true) := rfl
@[simp] theorem u_isN_bl {b : Bool} : uF .isN (.bl b) = some (.bl false) := rfl
@[simp] theorem u_notN_bl {b : Bool} : uF .notN (.bl b) = some (.bl true) := rfl
@[simp] theorem u_isN_str {s : Str} : uF .isN (.str s) = some (.bl false) := rfl
@[simp] theorem u_notN_str {s : Str} : uF .notN (.str s) = some (.bl true) := rfl
@[simp] theorem u_isN_non : uF .isN (.non) = some (.bl true) := rfl
@[simp] theorem u_notN_non : uF .notN (.non) = some (.bl false) := rfl
@[simp] theorem u_isN_lst {o : Bool} {xs : List D} : uF .isN (.lst o xs) = some (.bl false) := rfl
@[simp] theorem u_notN_lst {o : Bool} {xs : List D} : uF .notN (.lst o xs) = some (.bl true) := rfl
@[simp] theorem u_isN_tup {o : Bool} {xs : List D} : uF .isN (.tup o xs) = some (.bl false) := rfl
@[simp] theorem u_notN_tup {o : Bool} {xs : List D} : uF .notN (.tup o xs) = some (.bl true) := rfl
@[simp] theorem b_add_i {i j : Int} : bF .add (.int i) (.int j) = some (.int (i + j)) := rfl
@[simp] theorem b_add_l {o p : Bool} {xs ys : List D} : bF .add (.lst o xs) (.lst p ys) = if isFzs xs && isFzs ys && decide (xs.length + ys.length ≤ sizeLine) then some (.lst true (xs ++ ys)) else none := rfl
@[simp] theorem b_add_s {x y : Str} : bF .add (.str x) (.str y) = if x.length + y.length ≤ sizeLine then some (.str (x ++ y)) else none := rfl
@[simp] theorem b_sub_i {i j : Int} : bF .sub (.int i) (.int j) = some (.int (i - j)) := rfl
@[simp] theorem b_mul_i {i j : Int} : bF .mul (.int i) (.int j) = if i.natAbs.log2 + j.natAbs.log2 < 1000000 then some (.int (i * j)) else none := rfl
@[simp] theorem b_fdiv_i {i j : Int} : bF .fdiv (.int i) (.int j) = if 0 < j ∧ j.natAbs.log2 < 9000 then some (.int (i / j)) else none := rfl
@[simp] theorem b_mod_i {i j : Int} : bF .mod (.int i) (.int j) = if 0 < j then some (.int (i % j)) else none := rfl
@[simp] theorem b_pow_i {i j : Int} : bF .pow (.int i) (.int j) = if 0 ≤ j ∧ j ≤ 1000000 ∧ i.natAbs < 2 ^ 64 then some (.int (i ^ j.toNat)) else none := rfl
@[simp] theorem b_lt_i {i j : Int} : bF .lt (.int i) (.int j) = some (.bl (decide (i < j))) := rfl
@[simp] theorem b_le_i {i j : Int} : bF .le (.int i) (.int j) = some (.bl (decide (i ≤ j))) := rfl
@[simp] theorem b_gt_i {i j : Int} : bF .gt (.int i) (.int j) = some (.bl (decide (j < i))) := rfl
@[simp] theorem b_ge_i {i j : Int} : bF .ge (.int i) (.int j) = some (.bl (decide (j ≤ i))) := rfl
@[simp] theorem b_eq_ {a b : D} : bF .eq a b = (eqF a b).map .bl := rfl
@[simp] theorem b_ne_ {a b : D} : bF .ne a b = (eqF a b).map fun k => .bl !k := rfl
@[simp] theorem b_min2_i {i j : Int} : bF .min2 (.int i) (.int j) = some (.int (if j < i then j else i)) := rfl
@[simp] theorem b_max2_i {i j : Int} : bF .max2 (.int i) (.int j) = some (.int (if j > i then j else i)) := rfl
@[simp] theorem ixF_l {o : Bool} {xs : List D} {i : Int} : ixF (.lst o xs) (.int i) = atI xs i := rfl
@[simp] theorem ixF_t {o : Bool} {xs : List D} {i : Int} : ixF (.tup o xs) (.int i) = atI xs i := rfl
@[simp] theorem isL_l {o : Bool} {xs : List D} : isL (.lst o xs) = some (.lst o xs) := rfl
@[simp] theorem intF_i {i : Int} : intF (.int i) = some (.int i) := rfl
@[simp] theorem setF_l {xs : List D} {d : D} {j : Int} : setF (.lst true xs) d (.int j) = (ixN xs.length j).map fun n => .lst true (xs.set n d) := rfl
@[simp] theorem appF_l {xs : List D} {d : D} : appF (.lst true xs) d = if xs.length < sizeLine then some (.lst true (xs ++ [d])) else none := rfl
@[simp] theorem plainA_nil : plainA [] = some [] := rfl
@[simp] theorem plainA_cons {d : D} {r : List (Option Nat × D)} : plainA ((none, d) :: r) = (plainA r).map (d :: ·) := rfl
@[simp] theorem slotsOf_nil : slotsOf [] = [] := rfl
@[simp] theorem slotsOf_n {d : D} {r : List (Option Nat × D)} : slotsOf ((none, d) :: r) = slotsOf r := rfl
@[simp] theorem slotsOf_s {i : Nat} {d : D} {r : List (Option Nat × D)} : slotsOf ((some i, d) :: r) = i :: slotsOf r := rfl
@[simp] theorem back_nil_ {os ρ : List D} : back [] os ρ = ρ := rfl
@[simp] theorem back_n {d o : D} {r : List (Option Nat × D)} {os ρ : List D} : back ((none, d) :: r) (o :: os) ρ = back r os ρ := rfl
@[simp] theorem back_s {i : Nat} {d o : D} {r : List (Option Nat × D)} {os ρ : List D} : back ((some i, d) :: r) (o :: os) ρ = back r os (ρ.set i o) := rfl
@[simp] theorem fill_nil {ρ : List D} : fill ρ [] = some [] := rfl
@[simp] theorem fill_n {ρ : List D} {d : D} {r : List (Option Nat × D)} : fill ρ ((none, d) :: r) = (fill ρ r).map (d :: ·) := rfl
@[simp] theorem unS_nil {ρ : List D} : unS [] ρ = ρ := rfl
@[simp] theorem unS_cons {i : Nat} {r : List Nat} {ρ : List D} : unS (i :: r) ρ = unS r (ρ.set i .un) := rfl
@[simp] theorem intsD_nil : intsD [] = some [] := rfl
@[simp] theorem intsD_cons {i : Int} {r : List D} : intsD (.int i :: r) = (intsD r).map (i :: ·) := rfl
@[simp] theorem wL_rngR {i j : Int} {ρ : List D} {Q : List D → List D → Prop} : wL (rngR (.int i) (.int j) ρ) Q ↔ (-(2 ^ 62) ≤ i ∧ i < 2 ^ 62 ∧ -(2 ^ 62) ≤ j ∧ j < 2 ^ 62) ∧ Q (rngF i (j - i).toNat) ρ := by
  show wL (if -(2 ^ 62) ≤ i ∧ i < 2 ^ 62 ∧ -(2 ^ 62) ≤ j ∧ j < 2 ^ 62 then .ok (rngF i (j - i).toNat) ρ else .bad) Q ↔ _
  by_cases h : -(2 ^ 62) ≤ i ∧ i < 2 ^ 62 ∧ -(2 ^ 62) ≤ j ∧ j < 2 ^ 62
  · rw [if_pos h, wL_ok]; exact ⟨fun q => ⟨h, q⟩, fun q => q.2⟩
  · rw [if_neg h, wL_bad]; exact ⟨fun q => q.elim, fun q => h q.1⟩
@[simp] theorem cutF_l {o : Bool} {xs : List D} {lo hi : Option Int} : cutF (.lst o xs) lo hi = if isFzs xs then some (.lst true ((xs.drop (HT.sIx xs.length 0 lo)).take (HT.sIx xs.length xs.length hi - HT.sIx xs.length 0 lo))) else none := rfl
@[simp] theorem b_ix_w {a b : D} {P : D → Prop} : oP (bF .ix a b) P ↔ oP (ixF a b) fun d => d.isFz = true ∧ P d := by
  simp only [bF]
  cases ixF a b with
  | none => exact Iff.rfl
  | some d => by_cases h : d.isFz = true <;> simp [h]
@[simp] theorem fill_s {ρ : List D} {i : Nat} {d : D} {r : List (Option Nat × D)} {P : List D → Prop} : oP (fill ρ ((some i, d) :: r)) P ↔ oP (slot ρ i) fun x => oP (fill ρ r) fun l => P (x :: l) := by
  simp only [fill]
  cases slot ρ i with
  | none => exact Iff.rfl
  | some x => simp
@[simp] theorem wE_mkL {o : Bool} {as : List (Option Nat × D)} {ρ : List D} {Q : D → List D → Prop} : wE (mkL o as ρ) Q ↔ oP (plainA as) fun ds => ds.length ≤ sizeLine ∧ Q (if o then .lst true (fzs ds) else .tup false (fzs ds)) ρ := by
  unfold mkL
  cases plainA as with
  | none => exact Iff.rfl
  | some ds => by_cases h : ds.length ≤ sizeLine <;> simp [h]
@[simp] theorem wL_enmR {o : Bool} {xs : List D} {ρ : List D} {Q : List D → List D → Prop} : wL (enmR (.lst o xs) ρ) Q ↔ Q (enumF 0 (fzs xs)) ρ := by
  simp [enmR]
@[simp] theorem wL_itemsR_l {o : Bool} {xs : List D} {ρ : List D} {Q : List D → List D → Prop} : wL (itemsR (.lst o xs) ρ) Q ↔ Q (fzs xs) ρ := by
  simp [itemsR, itemsF]
@[simp] theorem wL_itemsR_t {o : Bool} {xs : List D} {ρ : List D} {Q : List D → List D → Prop} : wL (itemsR (.tup o xs) ρ) Q ↔ Q (fzs xs) ρ := by
  simp [itemsR, itemsF]
@[simp] theorem wE_sliceF {a b : Bool} {x l h : D} {ρ : List D} {Q : D → List D → Prop} : wE (sliceF a b x l h ρ) Q ↔ oP (bndF a l) fun l => oP (bndF b h) fun h => oP (cutF x l h) fun d => Q d ρ := by
  unfold sliceF
  cases bndF a l <;> cases bndF b h <;> simp
@[simp] theorem intsD_ints {ns : List Int} : intsD (ns.map D.int) = some ns := by
  induction ns with
  | nil => rfl
  | cons n r ih => simp [ih]
theorem atI_map {α : Type} {xs : List α} {f : α → D} {i : Int} (h0 : 0 ≤ i) (h : i < xs.length) : ∃ x, x ∈ xs ∧ xs[i.toNat]? = some x ∧ atI (xs.map f) i = some (f x) := by
  have hn : i.toNat < xs.length := by omega
  refine ⟨xs[i.toNat], List.getElem_mem hn, List.getElem?_eq_getElem hn, ?_⟩
  unfold atI ixN
  simp [h0, h, hn]
theorem atI_of {xs : List D} {i : Int} {d : D} (h0 : 0 ≤ i) (h : xs[i.toNat]? = some d) : atI xs i = some d := by
  have hn := (List.getElem?_eq_some_iff.mp h).1
  unfold atI ixN
  have : i < xs.length := by omega
  rw [if_pos h0, if_pos this]
  exact h
@[simp] theorem eqF_i {i j : Int} : eqF (.int i) (.int j) = some (decide (i = j)) := by
  have h : ∀ n : Int, SeqAt.shaped (.int n) = true := fun n => by
    unfold SeqAt.shaped
    simp [PyData.canLay0, PyData.depth]
  simp [eqF, D.py, h, PyData.eqv]
  by_cases e : i = j <;> simp [e]
@[simp] theorem atI_0 {a : D} {r : List D} : atI (a :: r) 0 = some a := by
  have : (0 : Int) < ((a :: r).length : Int) := by simp only [List.length_cons]; omega
  unfold atI ixN
  rw [if_pos (Int.le_refl _), if_pos this]; rfl
@[simp] theorem atI_1 {a b : D} {r : List D} : atI (a :: b :: r) 1 = some b := by
  have : (1 : Int) < ((a :: b :: r).length : Int) := by simp only [List.length_cons]; omega
  unfold atI ixN
  rw [if_pos (by decide), if_pos this]; rfl
@[simp] theorem atI_2 {a b c : D} {r : List D} : atI (a :: b :: c :: r) 2 = some c := by
  have : (2 : Int) < ((a :: b :: c :: r).length : Int) := by simp only [List.length_cons]; omega
  unfold atI ixN
  rw [if_pos (by decide), if_pos this]; rfl
@[simp] theorem atI_3 {a b c d : D} {r : List D} : atI (a :: b :: c :: d :: r) 3 = some d := by
  have : (3 : Int) < ((a :: b :: c :: d :: r).length : Int) := by simp only [List.length_cons]; omega
  unfold atI ixN
  rw [if_pos (by decide), if_pos this]; rfl
theorem lg {i : Int} {k : Nat} (h : i.natAbs < 2 ^ (k + 1)) : i.natAbs.log2 < k + 1 := by
  by_cases h0 : i.natAbs = 0
  · rw [h0]; exact Nat.lt_of_le_of_lt (show Nat.log2 0 ≤ 0 by decide) (Nat.succ_pos k)
  · exact (Nat.log2_lt h0).mpr h
end
end MV

set_option Elab.async false
set_option linter.all false
set_option maxRecDepth 100000
set_option autoImplicit false
set_option maxHeartbeats 4000000
/-! MV, part X: plain values, how they are shown and compared. -/
namespace MV
open PySem L2
/-- no object, no empty slot -/
def Pl : D → Prop
  | .un => False
  | .ins .. => False
  | .scr _ => False
  | _ => True
def isWD : D → Bool
  | .int _ => true
  | _ => false
theorem Pl.nu {d : D} (h : Pl d) : d ≠ .un := fun e => by subst e; exact h
theorem Pl.ok {d : D} (h : Pl d) : okD d = some d := okD_of h.nu
theorem wC_eq {r : CR} {a : D} {b : List D} (h : wC r fun d os => d = a ∧ os = b) : r = .ok a b := by
  cases r with
  | ok d os => obtain ⟨rfl, rfl⟩ := h; rfl
  | exc => exact h.elim
  | bad => exact h.elim
@[simp] theorem wC_ok {a : D} {b : List D} {Q : D → List D → Prop} : wC (.ok a b) Q ↔ Q a b := Iff.rfl
theorem shaped_str {s : Str} (h : PyData.strOk s = true) : SeqAt.shaped (.str s) = true := by
  unfold SeqAt.shaped
  simp [PyData.canLay0, PyData.depth, h]
theorem shaped_bl (s : Bool) : SeqAt.shaped (.bool s) = true := by
  unfold SeqAt.shaped
  simp [PyData.canLay0, PyData.depth]
theorem eqF_s {i j : Str} (h : PyData.strOk i = true) (h' : PyData.strOk j = true) : eqF (.str i) (.str j) = some (i == j) := by
  simp [eqF, D.py, shaped_str h, shaped_str h', PyData.eqv]
theorem strOk_app {a b : Str} (h : PyData.strOk a = true) (h' : PyData.strOk b = true) : PyData.strOk (a ++ b) = true := by
  unfold PyData.strOk at h h' ⊢
  show (a.cps ++ b.cps).all _ = true
  rw [Array.all_append, h, h']
  rfl
@[simp] theorem eqF_b {i j : Bool} : eqF (.bl i) (.bl j) = some (i == j) := by
  simp [eqF, D.py, shaped_bl, PyData.eqv]
/-! ### how long a datum is told -/
structure Rb (L n : Nat) (d : D) (x : PyData) : Prop where
  py : d.py = some x
  sh : x.showable = true
  len : x.shown.length ≤ L
  dp : x.depth ≤ n
  ok : PyData.strOk x.shown = true
theorem Rb.up {L n L' n' : Nat} {d : D} {x : PyData} (h : Rb L n d x) (h1 : L ≤ L') (h2 : n ≤ n') : Rb L' n' d x := ⟨h.py, h.sh, Nat.le_trans h.len h1, Nat.le_trans h.dp h2, h.ok⟩
theorem Rb.repr {L n : Nat} {d : D} {x : PyData} (h : Rb L n d x) (h1 : L ≤ sizeLine) (h2 : n ≤ 60) : uF .repr d = some (.str x.shown) := by
  simp only [uF, h.py]
  rw [if_pos]
  simp only [Bool.and_eq_true, decide_eq_true_eq]
  exact ⟨⟨h.sh, Nat.le_trans h.len h1⟩, Nat.le_trans h.dp h2⟩
def okS (m : Nat) (s : Str) : Bool := decide (s.length ≤ m) && PyData.strOk s
theorem shown_small : ∀ n : Nat, n < 1000 → okS 4 (PyData.shown (.int (n : Int))) = true ∧ okS 4 (PyData.shown (.int (-(n : Int)))) = true := by
  have h : (List.range 1000).all (fun n => okS 4 (PyData.shown (.int (n : Int))) && okS 4 (PyData.shown (.int (-(n : Int))))) = true := by decide +kernel
  intro n hn
  have q := List.all_eq_true.mp h n (List.mem_range.mpr hn)
  simp only [Bool.and_eq_true] at q
  exact q
theorem okS_of {m : Nat} {s : Str} (h : okS m s = true) : s.length ≤ m ∧ PyData.strOk s = true := by
  unfold okS at h
  simp only [Bool.and_eq_true, decide_eq_true_eq] at h
  exact h
theorem Rb.int {i : Int} (h1 : -1000 < i) (h2 : i < 1000) : Rb 5 0 (.int i) (.int i) := by
  obtain ⟨h3, h4⟩ := shown_small i.natAbs (by omega)
  have key : okS 4 (PyData.shown (.int i)) = true := by
    rcases Int.natAbs_eq i with e | e
    · rw [e]; exact h3
    · rw [e]; exact h4
  refine ⟨rfl, ?_, Nat.le_succ_of_le (okS_of key).1, Nat.le_refl _, (okS_of key).2⟩
  simp only [PyData.showable, decide_eq_true_eq]
  exact Nat.lt_of_lt_of_le (lg (i := i) (k := 40) (by omega)) (by decide +kernel)
theorem Rb.bl {b : Bool} : Rb 5 0 (.bl b) (.bool b) := by
  refine ⟨rfl, rfl, ?_, Nat.le_refl _, ?_⟩ <;> cases b <;> decide +kernel
theorem Rb.non : Rb 5 0 .non .none := ⟨rfl, rfl, by decide +kernel, Nat.le_refl _, by decide +kernel⟩
theorem textFrom_ok : ∀ (ts : List Str) (k : Nat) (acc : Str), PyData.strOk acc = true → (∀ t ∈ ts, PyData.strOk t = true) → PyData.strOk (textFrom k acc ts) = true
  | [], k, acc, h, _ => h
  | t :: r, k, acc, h, hs => by
    show PyData.strOk (textFrom (k + 1) (acc ++ (if k > 0 then ", " else "" : String) ++ t) r) = true
    refine textFrom_ok r (k + 1) _ (strOk_app (strOk_app h ?_) (hs t (List.mem_cons_self ..))) fun u hu => hs u (List.mem_cons_of_mem _ hu)
    split <;> decide +kernel
theorem join_ok : ∀ (ts : List Str), (∀ t ∈ ts, PyData.strOk t = true) → PyData.strOk (Str.join ", " ts) = true
  | [], _ => by decide +kernel
  | [x], h => h x (List.mem_cons_self ..)
  | x :: y :: r, h => by
    show PyData.strOk (x ++ ", " ++ Str.join ", " (y :: r)) = true
    exact strOk_app (strOk_app (h x (List.mem_cons_self ..)) (by decide +kernel)) (join_ok (y :: r) fun u hu => h u (List.mem_cons_of_mem _ hu))
theorem textFrom_le {L : Nat} : ∀ (ts : List Str) (k : Nat) (acc : Str), (∀ t ∈ ts, t.length ≤ L) → (textFrom k acc ts).length ≤ acc.length + ts.length * (L + 2)
  | [], k, acc, _ => by simp [textFrom]
  | t :: r, k, acc, h => by
    have ih := textFrom_le r (k + 1) (acc ++ (if k > 0 then ", " else "" : String) ++ t) fun u hu => h u (List.mem_cons_of_mem _ hu)
    have ht := h t (List.mem_cons_self ..)
    have e : (acc ++ (if k > 0 then ", " else "" : String) ++ t).length ≤ acc.length + 2 + t.length := by
      rw [strLen_append, strLen_append]
      split
      · exact Nat.le_refl _
      · show acc.length + 0 + t.length ≤ _
        omega
    show (textFrom (k + 1) (acc ++ (if k > 0 then ", " else "" : String) ++ t) r).length ≤ _
    rw [List.length_cons, Nat.succ_mul]
    omega
theorem join_le {L : Nat} : ∀ (ts : List Str), (∀ t ∈ ts, t.length ≤ L) → (Str.join ", " ts).length ≤ ts.length * (L + 2)
  | [], _ => Nat.zero_le _
  | [x], h => by
    have := h x (List.mem_cons_self ..)
    show x.length ≤ 1 * (L + 2)
    omega
  | x :: y :: r, h => by
    have ih := join_le (y :: r) fun u hu => h u (List.mem_cons_of_mem _ hu)
    have hx := h x (List.mem_cons_self ..)
    show (x ++ ", " ++ Str.join ", " (y :: r)).length ≤ _
    rw [strLen_append, strLen_append]
    have e2 : ((", " : String) : Str).length = 2 := rfl
    rw [e2, List.length_cons, Nat.succ_mul]
    omega
/-- many -/
structure Rbs (L n : Nat) (ds : List D) (xs : List PyData) : Prop where
  py : pys ds = some xs
  sh : PyData.showableAll xs = true
  len : ∀ t ∈ PyData.shownAll xs, t.length ≤ L ∧ PyData.strOk t = true
  cnt : (PyData.shownAll xs).length = ds.length
  dp : PyData.depthAll xs ≤ n
theorem Rbs.nil {L n : Nat} : Rbs L n [] [] := ⟨rfl, rfl, fun t h => (by cases h), rfl, Nat.zero_le _⟩
theorem Rbs.cons {L n : Nat} {d : D} {ds : List D} {x : PyData} {xs : List PyData} (h : Rb L n d x) (r : Rbs L n ds xs) : Rbs L n (d :: ds) (x :: xs) := by
  refine ⟨by simp only [pys, h.py, r.py], by simp only [PyData.showableAll, h.sh, r.sh]; rfl, fun t ht => ?_, by simp [PyData.shownAll, r.cnt], by simp only [PyData.depthAll]; exact Nat.max_le.mpr ⟨h.dp, r.dp⟩⟩
  simp only [PyData.shownAll, List.mem_cons] at ht
  rcases ht with rfl | ht
  · exact ⟨h.len, h.ok⟩
  · exact r.len t ht
theorem Rbs.of {L n : Nat} : ∀ {ds : List D}, (∀ d ∈ ds, ∃ x, Rb L n d x) → ∃ xs, Rbs L n ds xs
  | [], _ => ⟨_, .nil⟩
  | d :: r, h => by
    obtain ⟨x, hx⟩ := h d (List.mem_cons_self ..)
    obtain ⟨xs, hs⟩ := Rbs.of (ds := r) fun e he => h e (List.mem_cons_of_mem _ he)
    exact ⟨_, .cons hx hs⟩
theorem Rb.lst {L n m : Nat} {o : Bool} {ds : List D} (h : ∀ d ∈ ds, ∃ x, Rb L n d x) (hm : ds.length ≤ m) : ∃ x, Rb (m * (L + 2) + 2) (n + 1) (.lst o ds) x := by
  obtain ⟨xs, q⟩ := Rbs.of h
  refine ⟨.list xs, by simp only [D.py, q.py]; rfl, q.sh, ?_, Nat.succ_le_succ q.dp, strOk_app (textFrom_ok _ _ _ (by decide +kernel) fun t ht => (q.len t ht).2) (by decide +kernel)⟩
  show (listText (PyData.shownAll xs)).length ≤ _
  unfold listText
  rw [strLen_append]
  have h1 := textFrom_le (L := L) (PyData.shownAll xs) 0 "[" fun t ht => (q.len t ht).1
  have h2 : (("[" : String) : Str).length = 1 := rfl
  have h3 : (("]" : String) : Str).length = 1 := rfl
  rw [h3]
  rw [h2, q.cnt] at h1
  have := Nat.mul_le_mul_right (L + 2) hm
  omega
theorem Rb.tup {L n m : Nat} {o : Bool} {ds : List D} (h : ∀ d ∈ ds, ∃ x, Rb L n d x) (hm : ds.length ≤ m) : ∃ x, Rb (m * (L + 2) + 3) (n + 1) (.tup o ds) x := by
  obtain ⟨xs, q⟩ := Rbs.of h
  refine ⟨.tuple xs, by simp only [D.py, q.py]; rfl, q.sh, ?_, Nat.succ_le_succ q.dp, strOk_app (strOk_app (by decide +kernel) (join_ok _ fun t ht => (q.len t ht).2)) (by split <;> decide +kernel)⟩
  show (tupleText (PyData.shownAll xs)).length ≤ _
  unfold tupleText
  rw [strLen_append, strLen_append]
  have h1 := join_le (L := L) (PyData.shownAll xs) fun t ht => (q.len t ht).1
  have h2 : (("(" : String) : Str).length = 1 := rfl
  have h3 : (((if (PyData.shownAll xs).length == 1 then ",)" else ")" : String)) : Str).length ≤ 2 := by split <;> decide +kernel
  rw [h2]
  rw [q.cnt] at h1
  have := Nat.mul_le_mul_right (L + 2) hm
  omega
end MV

set_option Elab.async false
set_option linter.all false
set_option maxRecDepth 100000
set_option autoImplicit false
set_option maxHeartbeats 4000000
namespace K73
open PySem PySem.Spec PyProof.Rows L2 MV
def pS (i : Nat) : PySem.Stmt := PySem.Challenge.pw_lightstold_k73_judge_of_picks.main.body.getD i (.Pass ⟨0, 0, 0, 0⟩)
/-- is_whole: 0 value -/
def t0 : DT := ⟨"is_whole", pS 1, ["value"], ["value"]⟩
def b0 : MV.S := (.seq (.ret (.and (.u .isInt (.p (.sl 0))) (.not (.u .isBool (.p (.sl 0)))))) .skip)
def f0 : Fn := ⟨1, 1, [], b0⟩
/-- is_picks: 0 costs, 1 picks, 2 g, 3 option -/
def t1 : DT := ⟨"is_picks", pS 3, ["costs", "picks", "g", "option"], ["costs", "picks"]⟩
def b1 : MV.S := (.seq (.ite (.or (.not (.u .isList (.p (.sl 1)))) (.b .ne (.u .len (.p (.sl 1))) (.u .len (.p (.sl 0))))) (.seq (.ret (.p (.lit (.bl false)))) .skip) .skip) (.seq (.for_ (.tup (.cons (.sl 2) (.cons (.sl 3) .nil))) (.enm (.var 1)) (.seq (.ite (.or (.not (.call 0 (.cons (.var 3) .nil))) (.not (.chain (.p (.lit (.int 0))) (.ck .le (.p (.sl 3)) (.ck .lt (.u .len (.p (.ix (.sl 0) (.sl 2)))) .nil))))) (.seq (.ret (.p (.lit (.bl false)))) .skip) .skip) .skip)) (.seq (.ret (.p (.lit (.bl true)))) .skip)))
def f1 : Fn := ⟨4, 2, [], b1⟩
/-- cost_of: 0 costs, 1 picks, 2 g, 3 option -/
def t2 : DT := ⟨"cost_of", pS 4, ["costs", "picks", "g", "option"], ["costs", "picks"]⟩
def b2 : MV.S := (.seq (.ret (.u .sum (.lc [2, 3] (.tup (.cons (.sl 2) (.cons (.sl 3) .nil))) (.enm (.var 1)) .nil (.p (.ix (.ix (.sl 0) (.sl 2)) (.sl 3)))))) .skip)
def f2 : Fn := ⟨4, 2, [], b2⟩
/-- shows_picks: 0 costs, 1 clashes, 2 cost, 3 picks, 4 g, 5 o, 6 h, 7 p -/
def t3 : DT := ⟨"shows_picks", pS 5, ["costs", "clashes", "cost", "picks", "g", "o", "h", "p"], ["costs", "clashes", "cost", "picks"]⟩
def b3 : MV.S := (.seq (.ite (.or (.not (.call 0 (.cons (.var 2) .nil))) (.not (.call 1 (.cons (.var 0) (.cons (.var 3) .nil))))) (.seq (.ret (.p (.lit (.bl false)))) .skip) .skip) (.seq (.for_ (.tup (.cons (.tup (.cons (.sl 4) (.cons (.sl 5) .nil))) (.cons (.tup (.cons (.sl 6) (.cons (.sl 7) .nil))) .nil))) (.var 1) (.seq (.ite (.and (.b .eq (.p (.ix (.sl 3) (.sl 4))) (.p (.sl 5))) (.b .eq (.p (.ix (.sl 3) (.sl 6))) (.p (.sl 7)))) (.seq (.ret (.p (.lit (.bl false)))) .skip) .skip) .skip)) (.seq (.ret (.b .eq (.call 2 (.cons (.var 0) (.cons (.var 3) .nil))) (.p (.sl 2)))) .skip)))
def f3 : Fn := ⟨8, 4, [], b3⟩
/-- _law_feed: 0 script -/
def t4 : DT := ⟨"_law_feed", pS 7, ["script"], ["script"]⟩
def b4 : MV.S := (.seq (.ret (.lstE (.cons (.u .list (.p (.sl 0))) (.cons (.p (.lit (.int 0))) (.cons (.p (.lit (.int 0))) (.cons (.p (.lit (.int 1))) .nil)))))) .skip)
def f4 : Fn := ⟨1, 1, [], b4⟩
/-- _law_draw: 0 feed, 1 many, 2 mixed, 3 cell, 4 told -/
def t5 : DT := ⟨"_law_draw", pS 8, ["feed", "many", "mixed", "cell", "told"], ["feed", "many"]⟩
def b5 : MV.S := (.seq (.ite (.and (.b .eq (.p (.ix (.sl 0) (.lit (.int 2)))) (.p (.lit (.int 0)))) (.b .lt (.p (.ix (.sl 0) (.lit (.int 1)))) (.u .len (.p (.ix (.sl 0) (.lit (.int 0))))))) (.seq (.asg (.sl 3) (.u .abs (.u .int (.p (.ix (.ix (.sl 0) (.lit (.int 0))) (.ix (.sl 0) (.lit (.int 1)))))))) (.seq (.augIx 0 (.lit (.int 1)) .add (.p (.lit (.int 1)))) (.seq (.ite (.b .ge (.p (.sl 3)) (.b .pow (.p (.lit (.int 10))) (.p (.lit (.int 18))))) (.seq (.setIx 0 (.p (.lit (.int 2))) (.var 3)) .skip) (.seq (.setIx 0 (.p (.lit (.int 3))) (.b .mod (.u .int (.b .add (.b .add (.b .mul (.p (.ix (.sl 0) (.lit (.int 3)))) (.p (.lit (.int 48271)))) (.b .mul (.p (.sl 3)) (.p (.lit (.int 69621))))) (.p (.ix (.sl 0) (.lit (.int 1)))))) (.p (.lit (.int 2147483647))))) .skip)) .skip))) .skip) (.seq (.ite (.b .gt (.p (.ix (.sl 0) (.lit (.int 2)))) (.p (.lit (.int 0)))) (.seq (.asg (.sl 4) (.b .mod (.u .int (.p (.ix (.sl 0) (.lit (.int 2))))) (.p (.sl 1)))) (.seq (.setIx 0 (.p (.lit (.int 2))) (.b .fdiv (.p (.ix (.sl 0) (.lit (.int 2)))) (.p (.sl 1)))) (.seq (.ret (.mv 4)) .skip))) .skip) (.seq (.setIx 0 (.p (.lit (.int 3))) (.b .mod (.u .int (.b .add (.b .mul (.p (.ix (.sl 0) (.lit (.int 3)))) (.p (.lit (.int 16807)))) (.p (.lit (.int 12345))))) (.p (.lit (.int 2147483647))))) (.seq (.asg (.sl 2) (.b .mod (.u .int (.b .add (.b .mul (.p (.ix (.sl 0) (.lit (.int 3)))) (.p (.ix (.sl 0) (.lit (.int 3))))) (.p (.ix (.sl 0) (.lit (.int 3)))))) (.p (.lit (.int 2147483629))))) (.seq (.ret (.b .mod (.b .fdiv (.p (.sl 2)) (.p (.lit (.int 11)))) (.p (.sl 1)))) .skip)))))
def f5 : Fn := ⟨5, 2, [0], b5⟩
/-- _law_is_whole: 0 x -/
def t6 : DT := ⟨"_law_is_whole", pS 9, ["x"], ["x"]⟩
def b6 : MV.S := (.seq (.ret (.and (.u .isInt (.p (.sl 0))) (.not (.u .isBool (.p (.sl 0)))))) .skip)
def f6 : Fn := ⟨1, 1, [], b6⟩
/-- _law_all_picks: 0 costs, 1 found, 2 group, 3 longer, 4 picks, 5 o -/
def t7 : DT := ⟨"_law_all_picks", pS 10, ["costs", "found", "group", "longer", "picks", "o"], ["costs"]⟩
def b7 : MV.S := (.seq (.asg (.sl 1) (.lstE (.cons (.lstE .nil) .nil))) (.seq (.for_ (.sl 2) (.var 0) (.seq (.asg (.sl 3) (.lstE .nil)) (.seq (.for_ (.sl 4) (.var 1) (.seq (.for_ (.sl 5) (.rng (.p (.lit (.int 0))) (.u .len (.p (.sl 2)))) (.seq (.app 3 (.b .add (.var 4) (.lstE (.cons (.var 5) .nil)))) .skip)) .skip)) (.seq (.asg (.sl 1) (.var 3)) .skip)))) (.seq (.ret (.mv 1)) .skip)))
def f7 : Fn := ⟨6, 1, [], b7⟩
/-- _law_free: 0 clashes, 1 picks, 2 one, 3 two -/
def t8 : DT := ⟨"_law_free", pS 11, ["clashes", "picks", "one", "two"], ["clashes", "picks"]⟩
def b8 : MV.S := (.seq (.for_ (.tup (.cons (.sl 2) (.cons (.sl 3) .nil))) (.var 0) (.seq (.ite (.and (.b .eq (.p (.ix (.sl 1) (.ix (.sl 2) (.lit (.int 0))))) (.p (.ix (.sl 2) (.lit (.int 1))))) (.b .eq (.p (.ix (.sl 1) (.ix (.sl 3) (.lit (.int 0))))) (.p (.ix (.sl 3) (.lit (.int 1)))))) (.seq (.ret (.p (.lit (.bl false)))) .skip) .skip) .skip)) (.seq (.ret (.p (.lit (.bl true)))) .skip))
def f8 : Fn := ⟨4, 2, [], b8⟩
/-- _law_cost: 0 costs, 1 picks, 2 g -/
def t9 : DT := ⟨"_law_cost", pS 12, ["costs", "picks", "g"], ["costs", "picks"]⟩
def b9 : MV.S := (.seq (.ret (.u .sum (.lc [2] (.sl 2) (.rng (.p (.lit (.int 0))) (.u .len (.p (.sl 1)))) .nil (.p (.ix (.ix (.sl 0) (.sl 2)) (.ix (.sl 1) (.sl 2))))))) .skip)
def f9 : Fn := ⟨3, 2, [], b9⟩
/-- _law_costs: 0 feed, 1 groups, 2 options, 3 most, 4 costs, 5 g, 6 o -/
def t10 : DT := ⟨"_law_costs", pS 13, ["feed", "groups", "options", "most", "costs", "g", "o"], ["feed", "groups", "options", "most"]⟩
def b10 : MV.S := (.seq (.asg (.sl 4) (.lstE .nil)) (.seq (.for_ (.sl 5) (.rng (.p (.lit (.int 0))) (.p (.sl 1))) (.seq (.app 4 (.lc [6] (.sl 6) (.rng (.p (.lit (.int 0))) (.b .add (.p (.lit (.int 1))) (.call 5 (.cons (.io 0) (.cons (.var 2) .nil))))) .nil (.call 5 (.cons (.io 0) (.cons (.var 3) .nil))))) .skip)) (.seq (.ret (.mv 4)) .skip)))
def f10 : Fn := ⟨7, 4, [0], b10⟩
/-- _law_clashes: 0 feed, 1 costs, 2 share, 3 clashes, 4 g, 5 h, 6 o, 7 p -/
def t11 : DT := ⟨"_law_clashes", pS 14, ["feed", "costs", "share", "clashes", "g", "h", "o", "p"], ["feed", "costs", "share"]⟩
def b11 : MV.S := (.seq (.asg (.sl 3) (.lstE .nil)) (.seq (.for_ (.sl 4) (.rng (.p (.lit (.int 0))) (.u .len (.p (.sl 1)))) (.seq (.for_ (.sl 5) (.rng (.b .add (.p (.sl 4)) (.p (.lit (.int 1)))) (.u .len (.p (.sl 1)))) (.seq (.for_ (.sl 6) (.rng (.p (.lit (.int 0))) (.u .len (.p (.ix (.sl 1) (.sl 4))))) (.seq (.for_ (.sl 7) (.rng (.p (.lit (.int 0))) (.u .len (.p (.ix (.sl 1) (.sl 5))))) (.seq (.ite (.b .lt (.call 5 (.cons (.io 0) (.cons (.p (.lit (.int 10))) .nil))) (.p (.sl 2))) (.seq (.app 3 (.tupE (.cons (.tupE (.cons (.var 4) (.cons (.var 6) .nil))) (.cons (.tupE (.cons (.var 5) (.cons (.var 7) .nil))) .nil)))) .skip) .skip) .skip)) .skip)) .skip)) .skip)) (.seq (.ite (.and (.b .gt (.u .len (.p (.sl 3))) (.p (.lit (.int 0)))) (.b .eq (.call 5 (.cons (.io 0) (.cons (.p (.lit (.int 3))) .nil))) (.p (.lit (.int 0))))) (.seq (.app 3 (.ixs 3 (.call 5 (.cons (.io 0) (.cons (.u .len (.p (.sl 3))) .nil))))) .skip) .skip) (.seq (.ret (.mv 3)) .skip))))
def f11 : Fn := ⟨8, 3, [0], b11⟩
/-- _law_shows: 0 costs, 1 clashes, 2 cost, 3 picks, 4 g -/
def t12 : DT := ⟨"_law_shows", pS 15, ["costs", "clashes", "cost", "picks", "g"], ["costs", "clashes", "cost", "picks"]⟩
def b12 : MV.S := (.seq (.ite (.or (.not (.call 6 (.cons (.var 2) .nil))) (.or (.not (.u .isList (.p (.sl 3)))) (.b .ne (.u .len (.p (.sl 3))) (.u .len (.p (.sl 0)))))) (.seq (.ret (.p (.lit (.bl false)))) .skip) .skip) (.seq (.for_ (.sl 4) (.rng (.p (.lit (.int 0))) (.u .len (.p (.sl 0)))) (.seq (.ite (.or (.not (.call 6 (.cons (.p (.ix (.sl 3) (.sl 4))) .nil))) (.not (.chain (.p (.lit (.int 0))) (.ck .le (.p (.ix (.sl 3) (.sl 4))) (.ck .lt (.u .len (.p (.ix (.sl 0) (.sl 4)))) .nil))))) (.seq (.ret (.p (.lit (.bl false)))) .skip) .skip) .skip)) (.seq (.ret (.and (.call 8 (.cons (.var 1) (.cons (.var 3) .nil))) (.b .eq (.call 9 (.cons (.var 0) (.cons (.var 3) .nil))) (.p (.sl 2))))) .skip)))
def f12 : Fn := ⟨5, 4, [], b12⟩
/-- _law_spoilt: 0 feed, 1 costs, 2 cost, 3 picks, 4 found, 5 g, 6 o, 7 other -/
def t13 : DT := ⟨"_law_spoilt", pS 16, ["feed", "costs", "cost", "picks", "found", "g", "o", "other"], ["feed", "costs", "cost", "picks"]⟩
def b13 : MV.S := (.seq (.asg (.sl 4) (.lstE (.cons (.tupE (.cons (.var 2) (.cons (.var 3) .nil))) (.cons (.tupE (.cons (.b .add (.p (.sl 2)) (.p (.lit (.int 1)))) (.cons (.var 3) .nil))) (.cons (.tupE (.cons (.b .sub (.p (.sl 2)) (.p (.lit (.int 1)))) (.cons (.var 3) .nil))) (.cons (.tupE (.cons (.u .str (.p (.sl 2))) (.cons (.var 3) .nil))) (.cons (.tupE (.cons (.p (.lit .non)) (.cons (.var 3) .nil))) (.cons (.tupE (.cons (.lstE (.cons (.var 2) .nil)) (.cons (.var 3) .nil))) .nil)))))))) (.seq (.asg (.sl 4) (.b .add (.var 4) (.lstE (.cons (.tupE (.cons (.b .eq (.p (.sl 2)) (.p (.lit (.int 1)))) (.cons (.var 3) .nil))) (.cons (.tupE (.cons (.var 2) (.cons (.u .tuple (.p (.sl 3))) .nil))) (.cons (.tupE (.cons (.var 2) (.cons (.p (.lit .non)) .nil))) (.cons (.tupE (.cons (.var 2) (.cons (.b .add (.var 3) (.lstE (.cons (.p (.lit (.int 0))) .nil))) .nil))) (.cons (.tupE (.cons (.var 2) (.cons (.slc (.var 3) (.p (.lit .non)) (.u .neg (.p (.lit (.int 1))))) .nil))) .nil)))))))) (.seq (.asg (.sl 4) (.b .add (.var 4) (.lstE (.cons (.tupE (.cons (.var 2) (.cons (.p (.lit (.str "0"))) .nil))) (.cons (.tupE (.cons (.p (.lit (.int 0))) (.cons (.lstE .nil) .nil))) (.cons (.tupE (.cons (.b .pow (.p (.lit (.int 10))) (.p (.lit (.int 40)))) (.cons (.var 3) .nil))) (.cons (.tupE (.cons (.var 2) (.cons (.lstE (.cons (.var 3) .nil)) .nil))) .nil))))))) (.seq (.ite (.b .gt (.u .len (.p (.sl 3))) (.p (.lit (.int 0)))) (.seq (.asg (.sl 5) (.call 5 (.cons (.io 0) (.cons (.u .len (.p (.sl 3))) .nil)))) (.seq (.for_ (.sl 6) (.rng (.p (.lit (.int 0))) (.u .len (.p (.ix (.sl 1) (.sl 5))))) (.seq (.asg (.sl 7) (.b .add (.b .sub (.p (.sl 2)) (.p (.ix (.ix (.sl 1) (.sl 5)) (.ix (.sl 3) (.sl 5))))) (.p (.ix (.ix (.sl 1) (.sl 5)) (.sl 6))))) (.seq (.app 4 (.tupE (.cons (.var 7) (.cons (.b .add (.b .add (.slc (.p (.sl 3)) (.p (.lit .non)) (.p (.sl 5))) (.lstE (.cons (.var 6) .nil))) (.slc (.var 3) (.b .add (.p (.sl 5)) (.p (.lit (.int 1)))) (.p (.lit .non)))) .nil)))) (.seq (.app 4 (.tupE (.cons (.var 2) (.cons (.b .add (.b .add (.slc (.p (.sl 3)) (.p (.lit .non)) (.p (.sl 5))) (.lstE (.cons (.var 6) .nil))) (.slc (.var 3) (.b .add (.p (.sl 5)) (.p (.lit (.int 1)))) (.p (.lit .non)))) .nil)))) .skip)))) (.seq (.for_ (.sl 6) (.lstE (.cons (.u .len (.p (.ix (.sl 1) (.sl 5)))) (.cons (.u .neg (.p (.lit (.int 1)))) (.cons (.b .sub (.p (.ix (.sl 3) (.sl 5))) (.u .len (.p (.ix (.sl 1) (.sl 5))))) (.cons (.b .eq (.p (.ix (.sl 3) (.sl 5))) (.p (.lit (.int 1)))) (.cons (.u .str (.p (.ix (.sl 3) (.sl 5)))) (.cons (.p (.lit .non)) (.cons (.tupE (.cons (.p (.ix (.sl 3) (.sl 5))) .nil)) .nil)))))))) (.seq (.app 4 (.tupE (.cons (.var 2) (.cons (.b .add (.b .add (.slc (.p (.sl 3)) (.p (.lit .non)) (.p (.sl 5))) (.lstE (.cons (.var 6) .nil))) (.slc (.var 3) (.b .add (.p (.sl 5)) (.p (.lit (.int 1)))) (.p (.lit .non)))) .nil)))) .skip)) .skip))) .skip) (.seq (.ret (.mv 4)) .skip)))))
def f13 : Fn := ⟨8, 4, [0], b13⟩
/-- _law_asks: 0 feed, 1 costs, 2 clashes, 3 picks, 4 kept, 5 cost, 6 row, 7 due, 8 before, 9 found -/
def t14 : DT := ⟨"_law_asks", pS 17, ["feed", "costs", "clashes", "picks", "kept", "cost", "row", "due", "before", "found"], ["feed", "costs", "clashes", "picks"]⟩
def b14 : MV.S := (.seq (.asg (.sl 4) (.u .repr (.tupE (.cons (.var 1) (.cons (.var 2) .nil))))) (.seq (.for_ (.tup (.cons (.sl 5) (.cons (.sl 6) .nil))) (.call 13 (.cons (.io 0) (.cons (.var 1) (.cons (.call 9 (.cons (.var 1) (.cons (.var 3) .nil))) (.cons (.var 3) .nil))))) (.seq (.asg (.sl 7) (.call 12 (.cons (.var 1) (.cons (.var 2) (.cons (.var 5) (.cons (.var 6) .nil)))))) (.seq (.asg (.sl 8) (.u .repr (.p (.sl 6)))) (.seq (.asg (.sl 9) (.call 3 (.cons (.var 1) (.cons (.var 2) (.cons (.var 5) (.cons (.var 6) .nil)))))) (.seq (.ite (.or (.not (.u .isBool (.p (.sl 9)))) (.or (.b .ne (.p (.sl 9)) (.p (.sl 7))) (.b .ne (.u .repr (.p (.sl 6))) (.p (.sl 8))))) (.seq (.ret (.p (.lit (.bl false)))) .skip) .skip) .skip))))) (.seq (.ret (.b .eq (.u .repr (.tupE (.cons (.var 1) (.cons (.var 2) .nil)))) (.p (.sl 4)))) .skip)))
def f14 : Fn := ⟨10, 4, [0], b14⟩
/-- law: 0 script, 1 feed, 2 turn, 3 right, 4 groups, 5 costs, 6 clashes, 7 picks, 8 free, 9 group, 10 row, 11 g -/
def t15 : DT := ⟨"law", pS 18, ["script", "feed", "turn", "right", "groups", "costs", "clashes", "picks", "free", "group", "row", "g"], ["script"]⟩
def b15 : MV.S := (.seq (.asg (.sl 1) (.call 4 (.cons (.var 0) .nil))) (.seq (.for_ (.sl 2) (.rng (.p (.lit (.int 0))) (.p (.lit (.int 2)))) (.seq (.asg (.sl 4) (.call 5 (.cons (.io 1) (.cons (.p (.lit (.int 5))) .nil)))) (.seq (.asg (.sl 5) (.call 10 (.cons (.io 1) (.cons (.var 4) (.cons (.p (.lit (.int 4))) (.cons (.b .ix (.lstE (.cons (.p (.lit (.int 4))) (.cons (.p (.lit (.int 100))) .nil))) (.call 5 (.cons (.io 1) (.cons (.p (.lit (.int 2))) .nil)))) .nil)))))) (.seq (.asg (.sl 6) (.call 11 (.cons (.io 1) (.cons (.var 5) (.cons (.b .ix (.lstE (.cons (.p (.lit (.int 0))) (.cons (.p (.lit (.int 1))) (.cons (.p (.lit (.int 3))) .nil)))) (.call 5 (.cons (.io 1) (.cons (.p (.lit (.int 3))) .nil)))) .nil))))) (.seq (.asg (.sl 7) (.lc [9] (.sl 9) (.var 5) .nil (.call 5 (.cons (.io 1) (.cons (.u .len (.p (.sl 9))) .nil))))) (.seq (.ite (.not (.call 14 (.cons (.io 1) (.cons (.var 5) (.cons (.var 6) (.cons (.var 7) .nil)))))) (.seq (.ret (.p (.lit (.bl false)))) .skip) .skip) (.seq (.asg (.sl 8) (.lc [10] (.sl 10) (.call 7 (.cons (.var 5) .nil)) (.call 8 (.cons (.var 6) (.cons (.var 10) .nil))) (.var 10))) (.seq (.ite (.b .gt (.u .len (.p (.sl 8))) (.p (.lit (.int 0)))) (.seq (.asg (.sl 7) (.ixs 8 (.call 5 (.cons (.io 1) (.cons (.u .len (.p (.sl 8))) .nil))))) (.seq (.ite (.not (.call 3 (.cons (.var 5) (.cons (.var 6) (.cons (.call 9 (.cons (.var 5) (.cons (.var 7) .nil))) (.cons (.u .list (.p (.sl 7))) .nil)))))) (.seq (.ret (.p (.lit (.bl false)))) .skip) .skip) (.seq (.ite (.not (.call 14 (.cons (.io 1) (.cons (.var 5) (.cons (.var 6) (.cons (.var 7) .nil)))))) (.seq (.ret (.p (.lit (.bl false)))) .skip) .skip) .skip))) .skip) .skip)))))))) (.seq (.ite (.b .eq (.call 5 (.cons (.io 1) (.cons (.p (.lit (.int 8))) .nil))) (.p (.lit (.int 0)))) (.seq (.asg (.sl 5) (.call 10 (.cons (.io 1) (.cons (.p (.lit (.int 8))) (.cons (.p (.lit (.int 4))) (.cons (.p (.lit (.int 100))) .nil)))))) (.seq (.asg (.sl 6) (.lc [11] (.sl 11) (.rng (.p (.lit (.int 0))) (.p (.lit (.int 7)))) .nil (.tupE (.cons (.tupE (.cons (.var 11) (.cons (.p (.lit (.int 0))) .nil))) (.cons (.tupE (.cons (.p (.lit (.int 7))) (.cons (.p (.lit (.int 0))) .nil))) .nil))))) (.seq (.ite (.not (.call 14 (.cons (.io 1) (.cons (.var 5) (.cons (.var 6) (.cons (.lc [9] (.sl 9) (.var 5) .nil (.call 5 (.cons (.io 1) (.cons (.u .len (.p (.sl 9))) .nil)))) .nil)))))) (.seq (.ret (.p (.lit (.bl false)))) .skip) .skip) .skip))) .skip) (.seq (.ite (.or (.not (.call 3 (.cons (.lstE .nil) (.cons (.lstE .nil) (.cons (.p (.lit (.int 0))) (.cons (.lstE .nil) .nil)))))) (.call 3 (.cons (.lstE .nil) (.cons (.lstE .nil) (.cons (.p (.lit (.int 1))) (.cons (.lstE .nil) .nil)))))) (.seq (.ret (.p (.lit (.bl false)))) .skip) .skip) (.seq (.asg (.sl 3) (.call 3 (.cons (.lstE (.cons (.lstE (.cons (.p (.lit (.int 3))) (.cons (.p (.lit (.int 4))) .nil))) (.cons (.lstE (.cons (.p (.lit (.int 5))) .nil)) .nil))) (.cons (.lstE (.cons (.tupE (.cons (.tupE (.cons (.p (.lit (.int 0))) (.cons (.p (.lit (.int 0))) .nil))) (.cons (.tupE (.cons (.p (.lit (.int 1))) (.cons (.p (.lit (.int 0))) .nil))) .nil))) .nil)) (.cons (.p (.lit (.int 9))) (.cons (.lstE (.cons (.p (.lit (.int 1))) (.cons (.p (.lit (.int 0))) .nil))) .nil)))))) (.seq (.ret (.and (.p (.sl 3)) (.not (.call 3 (.cons (.lstE (.cons (.lstE (.cons (.p (.lit (.int 3))) (.cons (.p (.lit (.int 4))) .nil))) (.cons (.lstE (.cons (.p (.lit (.int 5))) .nil)) .nil))) (.cons (.lstE (.cons (.tupE (.cons (.tupE (.cons (.p (.lit (.int 0))) (.cons (.p (.lit (.int 0))) .nil))) (.cons (.tupE (.cons (.p (.lit (.int 1))) (.cons (.p (.lit (.int 0))) .nil))) .nil))) .nil)) (.cons (.p (.lit (.int 8))) (.cons (.lstE (.cons (.p (.lit (.int 0))) (.cons (.p (.lit (.int 0))) .nil))) .nil)))))))) .skip))))))
def f15 : Fn := ⟨12, 1, [], b15⟩
def ts : List DT := [t0, t1, t2, t3, t4, t5, t6, t7, t8, t9, t10, t11, t12, t13, t14, t15]
def tab : List Fn := [f0, f1, f2, f3, f4, f5, f6, f7, f8, f9, f10, f11, f12, f13, f14, f15]
def bl : List Str := ["abs", "bool", "enumerate", "int", "isinstance", "len", "list", "range", "repr", "str", "sum", "tuple"]
theorem chk : chkTab (ts.map (·.x)) bl ts tab = true := by decide +kernel
theorem facts {K : PySem.W.Frag} {h : Heap} {mg : Str → Option Value} (X : K.In h) (G : h.Ns mainGlobals mg)
    {g0 g1 g2 g3 g4 g5 g6 g7 g8 g9 g10 g11 g12 g13 g14 g15 : Addr} {od0 an0 od1 an1 od2 an2 od3 an3 od4 an4 od5 an5 od6 an6 od7 an7 od8 an8 od9 an9 od10 an10 od11 an11 od12 an12 od13 an13 od14 an14 od15 an15 : Option Addr} {sl0 sl1 sl2 sl3 sl4 sl5 sl6 sl7 sl8 sl9 sl10 sl11 sl12 sl13 sl14 sl15 : Array (Option Value)} {oc0 kV0 dc0 pm0 cd0 ct0 oc1 kV1 dc1 pm1 cd1 ct1 oc2 kV2 dc2 pm2 cd2 ct2 oc3 kV3 dc3 pm3 cd3 ct3 oc4 kV4 dc4 pm4 cd4 ct4 oc5 kV5 dc5 pm5 cd5 ct5 oc6 kV6 dc6 pm6 cd6 ct6 oc7 kV7 dc7 pm7 cd7 ct7 oc8 kV8 dc8 pm8 cd8 ct8 oc9 kV9 dc9 pm9 cd9 ct9 oc10 kV10 dc10 pm10 cd10 ct10 oc11 kV11 dc11 pm11 cd11 ct11 oc12 kV12 dc12 pm12 cd12 ct12 oc13 kV13 dc13 pm13 cd13 ct13 oc14 kV14 dc14 pm14 cd14 ct14 oc15 kV15 dc15 pm15 cd15 ct15 : Value}
    (a0 : PySem.W.nsIn K mainGlobals "is_whole" = some (some (.ref g0))) (l0 : K.lookup g0 = some ⟨oc0, od0, .func (PySem.W.fnOf "is_whole" "is_whole" (defArgs t0.st) (defBody t0.st) (defScope t0.st) .none kV0 dc0 pm0 an0 cd0 ct0), sl0⟩) (c0 : PySem.W.codeIn K cd0 "is_whole" = true) (k0 : PySem.W.keepIn K (.ref g0) = true)
    (a1 : PySem.W.nsIn K mainGlobals "is_picks" = some (some (.ref g1))) (l1 : K.lookup g1 = some ⟨oc1, od1, .func (PySem.W.fnOf "is_picks" "is_picks" (defArgs t1.st) (defBody t1.st) (defScope t1.st) .none kV1 dc1 pm1 an1 cd1 ct1), sl1⟩) (c1 : PySem.W.codeIn K cd1 "is_picks" = true) (k1 : PySem.W.keepIn K (.ref g1) = true)
    (a2 : PySem.W.nsIn K mainGlobals "cost_of" = some (some (.ref g2))) (l2 : K.lookup g2 = some ⟨oc2, od2, .func (PySem.W.fnOf "cost_of" "cost_of" (defArgs t2.st) (defBody t2.st) (defScope t2.st) .none kV2 dc2 pm2 an2 cd2 ct2), sl2⟩) (c2 : PySem.W.codeIn K cd2 "cost_of" = true) (k2 : PySem.W.keepIn K (.ref g2) = true)
    (a3 : PySem.W.nsIn K mainGlobals "shows_picks" = some (some (.ref g3))) (l3 : K.lookup g3 = some ⟨oc3, od3, .func (PySem.W.fnOf "shows_picks" "shows_picks" (defArgs t3.st) (defBody t3.st) (defScope t3.st) .none kV3 dc3 pm3 an3 cd3 ct3), sl3⟩) (c3 : PySem.W.codeIn K cd3 "shows_picks" = true) (k3 : PySem.W.keepIn K (.ref g3) = true)
    (a4 : PySem.W.nsIn K mainGlobals "_law_feed" = some (some (.ref g4))) (l4 : K.lookup g4 = some ⟨oc4, od4, .func (PySem.W.fnOf "_law_feed" "_law_feed" (defArgs t4.st) (defBody t4.st) (defScope t4.st) .none kV4 dc4 pm4 an4 cd4 ct4), sl4⟩) (c4 : PySem.W.codeIn K cd4 "_law_feed" = true) (k4 : PySem.W.keepIn K (.ref g4) = true)
    (a5 : PySem.W.nsIn K mainGlobals "_law_draw" = some (some (.ref g5))) (l5 : K.lookup g5 = some ⟨oc5, od5, .func (PySem.W.fnOf "_law_draw" "_law_draw" (defArgs t5.st) (defBody t5.st) (defScope t5.st) .none kV5 dc5 pm5 an5 cd5 ct5), sl5⟩) (c5 : PySem.W.codeIn K cd5 "_law_draw" = true) (k5 : PySem.W.keepIn K (.ref g5) = true)
    (a6 : PySem.W.nsIn K mainGlobals "_law_is_whole" = some (some (.ref g6))) (l6 : K.lookup g6 = some ⟨oc6, od6, .func (PySem.W.fnOf "_law_is_whole" "_law_is_whole" (defArgs t6.st) (defBody t6.st) (defScope t6.st) .none kV6 dc6 pm6 an6 cd6 ct6), sl6⟩) (c6 : PySem.W.codeIn K cd6 "_law_is_whole" = true) (k6 : PySem.W.keepIn K (.ref g6) = true)
    (a7 : PySem.W.nsIn K mainGlobals "_law_all_picks" = some (some (.ref g7))) (l7 : K.lookup g7 = some ⟨oc7, od7, .func (PySem.W.fnOf "_law_all_picks" "_law_all_picks" (defArgs t7.st) (defBody t7.st) (defScope t7.st) .none kV7 dc7 pm7 an7 cd7 ct7), sl7⟩) (c7 : PySem.W.codeIn K cd7 "_law_all_picks" = true) (k7 : PySem.W.keepIn K (.ref g7) = true)
    (a8 : PySem.W.nsIn K mainGlobals "_law_free" = some (some (.ref g8))) (l8 : K.lookup g8 = some ⟨oc8, od8, .func (PySem.W.fnOf "_law_free" "_law_free" (defArgs t8.st) (defBody t8.st) (defScope t8.st) .none kV8 dc8 pm8 an8 cd8 ct8), sl8⟩) (c8 : PySem.W.codeIn K cd8 "_law_free" = true) (k8 : PySem.W.keepIn K (.ref g8) = true)
    (a9 : PySem.W.nsIn K mainGlobals "_law_cost" = some (some (.ref g9))) (l9 : K.lookup g9 = some ⟨oc9, od9, .func (PySem.W.fnOf "_law_cost" "_law_cost" (defArgs t9.st) (defBody t9.st) (defScope t9.st) .none kV9 dc9 pm9 an9 cd9 ct9), sl9⟩) (c9 : PySem.W.codeIn K cd9 "_law_cost" = true) (k9 : PySem.W.keepIn K (.ref g9) = true)
    (a10 : PySem.W.nsIn K mainGlobals "_law_costs" = some (some (.ref g10))) (l10 : K.lookup g10 = some ⟨oc10, od10, .func (PySem.W.fnOf "_law_costs" "_law_costs" (defArgs t10.st) (defBody t10.st) (defScope t10.st) .none kV10 dc10 pm10 an10 cd10 ct10), sl10⟩) (c10 : PySem.W.codeIn K cd10 "_law_costs" = true) (k10 : PySem.W.keepIn K (.ref g10) = true)
    (a11 : PySem.W.nsIn K mainGlobals "_law_clashes" = some (some (.ref g11))) (l11 : K.lookup g11 = some ⟨oc11, od11, .func (PySem.W.fnOf "_law_clashes" "_law_clashes" (defArgs t11.st) (defBody t11.st) (defScope t11.st) .none kV11 dc11 pm11 an11 cd11 ct11), sl11⟩) (c11 : PySem.W.codeIn K cd11 "_law_clashes" = true) (k11 : PySem.W.keepIn K (.ref g11) = true)
    (a12 : PySem.W.nsIn K mainGlobals "_law_shows" = some (some (.ref g12))) (l12 : K.lookup g12 = some ⟨oc12, od12, .func (PySem.W.fnOf "_law_shows" "_law_shows" (defArgs t12.st) (defBody t12.st) (defScope t12.st) .none kV12 dc12 pm12 an12 cd12 ct12), sl12⟩) (c12 : PySem.W.codeIn K cd12 "_law_shows" = true) (k12 : PySem.W.keepIn K (.ref g12) = true)
    (a13 : PySem.W.nsIn K mainGlobals "_law_spoilt" = some (some (.ref g13))) (l13 : K.lookup g13 = some ⟨oc13, od13, .func (PySem.W.fnOf "_law_spoilt" "_law_spoilt" (defArgs t13.st) (defBody t13.st) (defScope t13.st) .none kV13 dc13 pm13 an13 cd13 ct13), sl13⟩) (c13 : PySem.W.codeIn K cd13 "_law_spoilt" = true) (k13 : PySem.W.keepIn K (.ref g13) = true)
    (a14 : PySem.W.nsIn K mainGlobals "_law_asks" = some (some (.ref g14))) (l14 : K.lookup g14 = some ⟨oc14, od14, .func (PySem.W.fnOf "_law_asks" "_law_asks" (defArgs t14.st) (defBody t14.st) (defScope t14.st) .none kV14 dc14 pm14 an14 cd14 ct14), sl14⟩) (c14 : PySem.W.codeIn K cd14 "_law_asks" = true) (k14 : PySem.W.keepIn K (.ref g14) = true)
    (a15 : PySem.W.nsIn K mainGlobals "law" = some (some (.ref g15))) (l15 : K.lookup g15 = some ⟨oc15, od15, .func (PySem.W.fnOf "law" "law" (defArgs t15.st) (defBody t15.st) (defScope t15.st) .none kV15 dc15 pm15 an15 cd15 ct15), sl15⟩) (c15 : PySem.W.codeIn K cd15 "law" = true) (k15 : PySem.W.keepIn K (.ref g15) = true)
    (z0 : PySem.W.nsIn K mainGlobals "abs" = some none)
    (z1 : PySem.W.nsIn K mainGlobals "bool" = some none)
    (z2 : PySem.W.nsIn K mainGlobals "enumerate" = some none)
    (z3 : PySem.W.nsIn K mainGlobals "int" = some none)
    (z4 : PySem.W.nsIn K mainGlobals "isinstance" = some none)
    (z5 : PySem.W.nsIn K mainGlobals "len" = some none)
    (z6 : PySem.W.nsIn K mainGlobals "list" = some none)
    (z7 : PySem.W.nsIn K mainGlobals "range" = some none)
    (z8 : PySem.W.nsIn K mainGlobals "repr" = some none)
    (z9 : PySem.W.nsIn K mainGlobals "str" = some none)
    (z10 : PySem.W.nsIn K mainGlobals "sum" = some none)
    (z11 : PySem.W.nsIn K mainGlobals "tuple" = some none)
    : AllDef K mg ts ∧ NoneIn mg bl := by
  refine ⟨?_, ?_⟩
  · exact .cons (def_mk (t := t0) X G a0 l0 c0 k0 fun _ _ _ _ _ _ us hl => match us, hl with | [_], _ => rfl) (.cons (def_mk (t := t1) X G a1 l1 c1 k1 fun _ _ _ _ _ _ us hl => match us, hl with | [_, _], _ => rfl) (.cons (def_mk (t := t2) X G a2 l2 c2 k2 fun _ _ _ _ _ _ us hl => match us, hl with | [_, _], _ => rfl) (.cons (def_mk (t := t3) X G a3 l3 c3 k3 fun _ _ _ _ _ _ us hl => match us, hl with | [_, _, _, _], _ => rfl) (.cons (def_mk (t := t4) X G a4 l4 c4 k4 fun _ _ _ _ _ _ us hl => match us, hl with | [_], _ => rfl) (.cons (def_mk (t := t5) X G a5 l5 c5 k5 fun _ _ _ _ _ _ us hl => match us, hl with | [_, _], _ => rfl) (.cons (def_mk (t := t6) X G a6 l6 c6 k6 fun _ _ _ _ _ _ us hl => match us, hl with | [_], _ => rfl) (.cons (def_mk (t := t7) X G a7 l7 c7 k7 fun _ _ _ _ _ _ us hl => match us, hl with | [_], _ => rfl) (.cons (def_mk (t := t8) X G a8 l8 c8 k8 fun _ _ _ _ _ _ us hl => match us, hl with | [_, _], _ => rfl) (.cons (def_mk (t := t9) X G a9 l9 c9 k9 fun _ _ _ _ _ _ us hl => match us, hl with | [_, _], _ => rfl) (.cons (def_mk (t := t10) X G a10 l10 c10 k10 fun _ _ _ _ _ _ us hl => match us, hl with | [_, _, _, _], _ => rfl) (.cons (def_mk (t := t11) X G a11 l11 c11 k11 fun _ _ _ _ _ _ us hl => match us, hl with | [_, _, _], _ => rfl) (.cons (def_mk (t := t12) X G a12 l12 c12 k12 fun _ _ _ _ _ _ us hl => match us, hl with | [_, _, _, _], _ => rfl) (.cons (def_mk (t := t13) X G a13 l13 c13 k13 fun _ _ _ _ _ _ us hl => match us, hl with | [_, _, _, _], _ => rfl) (.cons (def_mk (t := t14) X G a14 l14 c14 k14 fun _ _ _ _ _ _ us hl => match us, hl with | [_, _, _, _], _ => rfl) (.cons (def_mk (t := t15) X G a15 l15 c15 k15 fun _ _ _ _ _ _ us hl => match us, hl with | [_], _ => rfl) (.nil))))))))))))))))
  · exact .cons X G z0 (.cons X G z1 (.cons X G z2 (.cons X G z3 (.cons X G z4 (.cons X G z5 (.cons X G z6 (.cons X G z7 (.cons X G z8 (.cons X G z9 (.cons X G z10 (.cons X G z11 (.nil))))))))))))
def depth : Nat := 8
def fuel : Nat := 0
end K73

set_option Elab.async false
set_option linter.all false
set_option maxRecDepth 100000
set_option autoImplicit false
set_option maxHeartbeats 4000000
namespace K73
open PySem L2 MV
/-- the feed -/
structure Feed (d : D) : Prop where
  ex : ∃ (cells : List Int) (a b c : Int), d = .lst true [.lst false (cells.map .int), .int a, .int b, .int c] ∧ 0 ≤ a ∧ a ≤ cells.length ∧ 0 ≤ b ∧ 0 ≤ c ∧ c < 2147483647 ∧ cells.length ≤ 63
theorem Feed.mk' {cells : List Int} {a b c : Int} (h1 : 0 ≤ a) (h2 : a ≤ cells.length) (h3 : 0 ≤ b) (h4 : 0 ≤ c) (h5 : c < 2147483647) (h6 : cells.length ≤ 63) : Feed (.lst true [.lst false (cells.map .int), .int a, .int b, .int c]) := ⟨cells, a, b, c, rfl, h1, h2, h3, h4, h5, h6⟩
theorem e1 : Nat.log2 48271 = 15 := by decide +kernel
theorem e2 : Nat.log2 69621 = 16 := by decide +kernel
theorem e3 : Nat.log2 16807 = 14 := by decide +kernel
theorem e4 : Nat.log2 11 = 3 := by decide +kernel
theorem draw {k : Nat} {d : D} {m : Int} (h : Feed d) (h0 : 0 < m) (h1 : m ≤ 1000000) : wC (calls fuel tab (k + 1) 5 [d, .int m]) fun r os => ∃ i d', r = .int i ∧ 0 ≤ i ∧ i < m ∧ os = [d', .un] ∧ Feed d' := by
  refine call_w rfl rfl ?_
  show wS (evS (calls fuel tab k) fuel b5 [d, .int m, .un, .un, .un]) _ _
  unfold b5
  rw [sv_seq, wS_bind]
  refine wS_mono (N := fun ρ => ∃ d x, ρ = [d, .int m, .un, x, .un] ∧ Feed d) (R := fun d ρ => False) ?_ ?_ fun d ρ h => h.elim
  · obtain ⟨cells, a, b, c, rfl, ha, ha2, hb, hc, hc2, hl⟩ := h
    by_cases hb0 : b = 0
    · by_cases hal : a < cells.length
      · obtain ⟨z, _, _, ez⟩ := atI_map (f := D.int) ha hal
        simp [ixN, hb0, hal, ez]
        generalize hcell : (if z < 0 then -z else z) = cell
        have hcell0 : 0 ≤ cell := by rw [← hcell]; split <;> omega
        refine ⟨fun hbig => Feed.mk' (by omega) (by omega) hcell0 hc hc2 hl, fun hsmall => ⟨?_, ?_, ?_⟩⟩
        · have := lg (i := c) (k := 40) (by omega)
          rw [e1]; omega
        · have := lg (i := cell) (k := 70) (by omega)
          rw [e2]; omega
        · exact Feed.mk' (by omega) (by omega) (by omega) (Int.emod_nonneg _ (by decide)) (Int.emod_lt_of_pos _ (by decide)) hl
      · simp [ixN, hb0, hal]
        exact Feed.mk' ha ha2 (Int.le_refl _) hc hc2 hl
    · simp [ixN, hb0]
      exact Feed.mk' ha ha2 hb hc hc2 hl
  · rintro ρ ⟨d, x, rfl, cells, a, b, c, rfl, ha, ha2, hb, hc, hc2, hl⟩
    have hm : m.natAbs.log2 < 9000 := by have := lg (i := m) (k := 40) (by omega); omega
    by_cases hb0 : 0 < b
    · simp [ixN, hb0, h0, hm, outs, f5]
      exact ⟨Int.emod_nonneg _ (by omega), Int.emod_lt_of_pos _ h0, Feed.mk' ha ha2 (Int.ediv_nonneg hb (by omega)) hc hc2 hl⟩
    · have hb1 : ¬ (0 < b) := hb0
      have c1 : 0 ≤ (c * 16807 + 12345) % 2147483647 := Int.emod_nonneg _ (by decide)
      have c2 : (c * 16807 + 12345) % 2147483647 < 2147483647 := Int.emod_lt_of_pos _ (by decide)
      simp [ixN, hb1, h0, outs, e3, e4, f5]
      have l1 := lg (i := c) (k := 40) (by omega)
      have l2 := lg (i := (c * 16807 + 12345) % 2147483647) (k := 40) (by omega)
      refine ⟨by omega, by omega, Int.emod_nonneg _ (by omega), Int.emod_lt_of_pos _ h0, Feed.mk' ha ha2 hb c1 c2 hl⟩
end K73

set_option Elab.async false
set_option linter.all false
set_option maxRecDepth 100000
set_option autoImplicit false
set_option maxHeartbeats 4000000
namespace K73
open PySem L2 MV
def gE (g : List Int) : D := .lst false (g.map .int)
abbrev cE (cs : List (List Int)) : D := .lst false (cs.map gE)
def okAt (n : Nat) : D → Bool
  | .int i => decide (0 ≤ i) && decide (i < n)
  | _ => false
def allOk : List (List Int) → List D → Bool
  | [], [] => true
  | g :: cs, x :: xs => okAt g.length x && allOk cs xs
  | _, _ => false
theorem isFzs_map {α : Type} {f : α → D} (h : ∀ a, (f a).isFz = true) (xs : List α) : isFzs (xs.map f) = true := isFzs_of fun i d q => by
  rw [List.getElem?_map] at q
  obtain ⟨a, _, rfl⟩ := Option.map_eq_some_iff.mp q
  exact h a
@[simp] theorem gE_fz (g : List Int) : (gE g).isFz = true := by simp [gE]
@[simp] theorem gEs_fz (cs : List (List Int)) : isFzs (cs.map gE) = true := isFzs_map gE_fz cs
@[simp] theorem gEs_fzs (cs : List (List Int)) : fzs (cs.map gE) = cs.map gE := fzs_of _ (gEs_fz cs)
@[simp] theorem cE_isFz (cs : List (List Int)) : (cE cs).isFz = true := by simp [cE]
theorem whole {k : Nat} {x : D} (h : Pl x) : calls fuel tab (k + 1) 0 [x] = .ok (.bl (isWD x)) [.un] := by
  refine wC_eq (call_w rfl rfl ?_)
  show wS (evS (calls fuel tab k) fuel b0 [x]) _ _
  cases x <;> first | exact h.elim | simp [b0, f0, outs, isWD]
theorem whole6 {k : Nat} {x : D} (h : Pl x) : calls fuel tab (k + 1) 6 [x] = .ok (.bl (isWD x)) [.un] := by
  refine wC_eq (call_w rfl rfl ?_)
  show wS (evS (calls fuel tab k) fuel b6 [x]) _ _
  cases x <;> first | exact h.elim | simp [b6, f6, outs, isWD]
def isPicks (cs : List (List Int)) : D → Bool
  | .lst _ xs => allOk cs xs
  | _ => false
theorem allOk_len : ∀ {cs : List (List Int)} {xs : List D}, allOk cs xs = true → xs.length = cs.length
  | [], [], _ => rfl
  | [], _ :: _, h => absurd h Bool.false_ne_true
  | _ :: _, [], h => absurd h Bool.false_ne_true
  | g :: cs, x :: xs, h => by
    simp only [allOk, Bool.and_eq_true] at h
    simp [allOk_len h.2]
theorem atI_nat' {α : Type} {xs : List α} {f : α → D} {n : Nat} {x : α} (h : xs[n]? = some x) : atI (xs.map f) (n : Int) = some (f x) := by
  refine atI_of (Int.natCast_nonneg n) ?_
  rw [Int.toNat_natCast, List.getElem?_map, h]
  rfl
theorem drop_cons {α : Type} {xs r : List α} {n : Nat} {x : α} (h : xs.drop n = x :: r) : xs[n]? = some x ∧ xs.drop (n + 1) = r := by
  have e : n < xs.length := by
    by_cases hn : n < xs.length
    · exact hn
    · rw [List.drop_of_length_le (by omega)] at h; cases h
  rw [List.drop_eq_getElem_cons e] at h
  cases h
  exact ⟨List.getElem?_eq_getElem e, rfl⟩
structure Row (d : D) : Prop where
  pl : Pl d
  fz : d.isFz = true
def Rows : D → Prop
  | .lst _ xs => ∀ x ∈ xs, Row x
  | _ => True
theorem rows_of {xs : List D} (h : ∀ x ∈ xs, Row x) : isFzs xs = true := isFzs_of fun i d q => (h d (List.mem_of_getElem? q)).fz
theorem is_picks {k : Nat} {cs : List (List Int)} {x : D} (h : Pl x) (hz : x.isFz = true) (hr : Rows x) : calls fuel tab (k + 2) 1 [cE cs, x] = .ok (.bl (isPicks cs x)) [.un, .un] := by
  refine wC_eq (call_w rfl rfl ?_)
  show wS (evS (calls fuel tab (k + 1)) fuel b1 [cE cs, x, .un, .un]) _ _
  cases x <;> first | exact h.elim | (simp [b1, f1, outs, cE, isPicks]; done) | skip
  rename_i o xs
  simp at hz
  obtain ⟨rfl, hz⟩ := hz
  by_cases hl : xs.length = cs.length
  · simp [b1, cE, hl]
    rw [fzs_of _ hz, fzs_of _ hz]
    refine for_inv (fun ds ρ => ∃ n rest a b, ds = enumF n rest ∧ ρ = [cE cs, .lst false xs, a, b] ∧ (∀ y ∈ rest, Row y) ∧ rest.length = (cs.drop n).length ∧ allOk (cs.drop n) rest = allOk cs xs) ?_ ?_ ⟨0, xs, .un, .un, rfl, rfl, hr, by simp [hl], by simp⟩
    · rintro d r ρ ⟨n, rest, a, b, e, rfl, hrow, hlen, hall⟩
      cases rest with
      | nil => cases e
      | cons y rest =>
        simp only [enumF, List.cons.injEq] at e
        obtain ⟨rfl, rfl⟩ := e
        cases hc : cs.drop n with
        | nil => rw [hc] at hlen; simp at hlen
        | cons g cr =>
          obtain ⟨g1, g2⟩ := drop_cons hc
          rw [hc] at hlen hall
          have hy := hrow y (List.mem_cons_self ..)
          have ht := atI_nat' (f := gE) g1
          have next : ∃ n' rest' a' b', enumF (n + 1) rest = enumF n' rest' ∧ [cE cs, .lst false xs, .int n, y] = [cE cs, .lst false xs, a', b'] ∧ (∀ y ∈ rest', Row y) ∧ rest'.length = (cs.drop n').length ∧ allOk (cs.drop n') rest' = allOk cr rest :=
            ⟨n + 1, rest, .int n, y, rfl, rfl, fun z hz => hrow z (List.mem_cons_of_mem _ hz), by rw [g2]; simpa using hlen, by rw [g2]⟩
          simp [fz_of _ hy.fz, hy.pl.ok, whole hy.pl, hy.fz]
          cases y <;> first
            | exact hy.pl.elim
            | (simp [allOk, okAt] at hall; simp [isWD, isPicks, hall, outs, f1]; done)
            | skip
          rename_i i
          simp only [allOk, okAt] at hall
          by_cases i0 : 0 ≤ i
          · by_cases i1 : i < g.length
            · rw [decide_eq_true i0, decide_eq_true i1] at hall
              rw [← hall]
              simp [isWD, i0, ht, gE, i1]
              obtain ⟨n', rest', _, _, p1, _, p3, p4, p5⟩ := next
              exact ⟨n', rest', p1, p3, by simpa using p4, p5⟩
            · rw [decide_eq_false i1] at hall
              simp [isWD, i0, ht, gE, i1, isPicks, outs, f1]
              simpa using hall.symm
          · rw [decide_eq_false i0] at hall
            simp [isWD, i0, isPicks, outs, f1]
            simpa using hall.symm
    · rintro ρ ⟨n, rest, a, b, e, rfl, hrow, hlen, hall⟩
      cases rest with
      | nil =>
        have : cs.drop n = [] := List.length_eq_zero_iff.mp hlen.symm
        rw [this] at hall
        simp [allOk] at hall
        simp [isPicks, ← hall, outs, f1]
      | cons y rest => cases e
  · have : allOk cs xs = false := by
      cases e : allOk cs xs with
      | false => rfl
      | true => exact absurd (allOk_len e) hl
    have hl' : ¬ ((xs.length : Int) = cs.length) := by omega
    simp [b1, f1, cE, hl', outs, isPicks, this]

/-! ### clashes, costs -/
abbrev Kl := (Int × Int) × (Int × Int)
def kE (k : Kl) : D := .tup false [.tup false [.int k.1.1, .int k.1.2], .tup false [.int k.2.1, .int k.2.2]]
abbrev ksE (ks : List Kl) : D := .lst false (ks.map kE)
@[simp] theorem kE_fz (g : Kl) : (kE g).isFz = true := by simp [kE]
@[simp] theorem kEs_fz (cs : List Kl) : isFzs (cs.map kE) = true := isFzs_map kE_fz cs
@[simp] theorem kEs_fzs (cs : List Kl) : fzs (cs.map kE) = cs.map kE := fzs_of _ (kEs_fz cs)
/-- within the picks -/
def KOk (n : Nat) (k : Kl) : Prop := (0 ≤ k.1.1 ∧ k.1.1 < n) ∧ 0 ≤ k.2.1 ∧ k.2.1 < n
def ga (ps : List Int) (i : Int) : Int := ps.getD i.toNat 0
def met (ps : List Int) (k : Kl) : Bool := decide (ga ps k.1.1 = k.1.2) && decide (ga ps k.2.1 = k.2.2)
def freeB (ks : List Kl) (ps : List Int) : Bool := ks.all fun k => !met ps k
theorem ga_at {ps : List Int} {i : Int} (h : 0 ≤ i) (h' : i < ps.length) : atI (ps.map D.int) i = some (.int (ga ps i)) := by
  obtain ⟨x, _, h1, h2⟩ := atI_map (f := D.int) h h'
  rw [h2]
  unfold ga
  rw [List.getD_eq_getElem?_getD, h1]
  rfl
abbrev pE (ps : List Int) : D := .lst false (ps.map .int)
theorem law_free {k : Nat} {ks : List Kl} {ps : List Int} (h : ∀ q ∈ ks, KOk ps.length q) : calls fuel tab (k + 1) 8 [ksE ks, pE ps] = .ok (.bl (freeB ks ps)) [.un, .un] := by
  refine wC_eq (call_w rfl rfl ?_)
  show wS (evS (calls fuel tab k) fuel b8 [ksE ks, pE ps, .un, .un]) _ _
  simp [b8]
  refine for_inv (fun ds ρ => ∃ rest a b, ds = rest.map kE ∧ ρ = [ksE ks, pE ps, a, b] ∧ (∀ q ∈ rest, KOk ps.length q) ∧ freeB rest ps = freeB ks ps) ?_ ?_ ⟨ks, .un, .un, rfl, rfl, h, rfl⟩
  · rintro d r ρ ⟨rest, a, b, e, rfl, hr, hf⟩
    cases rest with
    | nil => cases e
    | cons q rest =>
      simp only [List.map_cons, List.cons.injEq] at e
      obtain ⟨rfl, rfl⟩ := e
      obtain ⟨⟨q1, q2⟩, q3, q4⟩ := hr q (List.mem_cons_self ..)
      have a1 := ga_at q1 q2
      have a2 := ga_at q3 q4
      simp [kE, a1, a2]
      have hf' : (!met ps q && freeB rest ps) = freeB ks ps := hf
      unfold met at hf'
      by_cases c1 : ga ps q.1.1 = q.1.2
      · by_cases c2 : ga ps q.2.1 = q.2.2
        · simp [c1, c2] at hf' ⊢
          simp [← hf', outs, f8]
        · simp [c1, c2] at hf' ⊢
          exact ⟨rest, rfl, fun _ _ _ _ hz => hr _ (List.mem_cons_of_mem _ hz), hf'⟩
      · simp [c1] at hf' ⊢
        exact ⟨rest, rfl, fun _ _ _ _ hz => hr _ (List.mem_cons_of_mem _ hz), hf'⟩
  · rintro ρ ⟨rest, a, b, e, rfl, hr, hf⟩
    cases rest with
    | nil =>
      have hf' : true = freeB ks ps := hf
      simp [← hf', outs, f8]
    | cons y rest => cases e

def costF : List (List Int) → List Int → Int
  | g :: cs, p :: ps => ga g p + costF cs ps
  | _, _ => 0
/-- picks that are right -/
def PsOk : List (List Int) → List Int → Prop
  | [], [] => True
  | g :: cs, p :: ps => (0 ≤ p ∧ p < g.length) ∧ PsOk cs ps
  | _, _ => False
theorem PsOk.len : ∀ {cs : List (List Int)} {ps : List Int}, PsOk cs ps → ps.length = cs.length
  | [], [], _ => rfl
  | [], _ :: _, h => h.elim
  | _ :: _, [], h => h.elim
  | g :: cs, p :: ps, h => by simp [PsOk.len h.2]
theorem PsOk.drop : ∀ {cs : List (List Int)} {ps : List Int} (n : Nat), PsOk cs ps → PsOk (cs.drop n) (ps.drop n)
  | _, _, 0, h => by simpa using h
  | [], [], n + 1, h => trivial
  | [], _ :: _, n + 1, h => h.elim
  | _ :: _, [], n + 1, h => h.elim
  | g :: cs, p :: ps, n + 1, h => by simpa using PsOk.drop n h.2
theorem PsOk.step {cs : List (List Int)} {ps : List Int} {n : Nat} (h : PsOk cs ps) (hn : n < ps.length) : ∃ g p, cs.drop n = g :: cs.drop (n + 1) ∧ ps.drop n = p :: ps.drop (n + 1) ∧ (0 ≤ p ∧ p < g.length) ∧ atI (cs.map gE) (n : Int) = some (gE g) ∧ atI (ps.map D.int) (n : Int) = some (.int p) := by
  have hl := h.len
  have e1 := List.drop_eq_getElem_cons hn
  have e2 := List.drop_eq_getElem_cons (l := cs) (i := n) (by omega)
  have q := h.drop n
  rw [e1, e2] at q
  exact ⟨_, _, e2, e1, q.1, atI_nat' (List.getElem?_eq_getElem (by omega)), atI_nat' (List.getElem?_eq_getElem hn)⟩
/-- so far: n turns, the rest -/
def CInv (cs : List (List Int)) (ps : List Int) (mk : Nat → List Int → List D) (sl : Nat) (ds acc ρ : List D) : Prop :=
  ∃ (n : Nat) (as : List Int), ds = mk n (ps.drop n) ∧ (∃ t : List D, t.length = sl ∧ ρ = cE cs :: pE ps :: t) ∧ n ≤ ps.length ∧ acc = as.map D.int ∧ as.length = n ∧ as.sum + costF (cs.drop n) (ps.drop n) = costF cs ps
theorem CInv.next {cs : List (List Int)} {ps : List Int} {mk : Nat → List Int → List D} {sl n : Nat} {as : List Int} {g : List Int} {p : Int} {t : List D} (hn : n < ps.length) (hl : as.length = n) (ht : t.length = sl) (g1 : cs.drop n = g :: cs.drop (n + 1)) (g2 : ps.drop n = p :: ps.drop (n + 1))
    (hs : as.sum + costF (cs.drop n) (ps.drop n) = costF cs ps) : CInv cs ps mk sl (mk (n + 1) (ps.drop (n + 1))) (as.map D.int ++ [.int (ga g p)]) (cE cs :: pE ps :: t) := by
  refine ⟨n + 1, as ++ [ga g p], rfl, ⟨t, ht, rfl⟩, by omega, by simp, by simp [hl], ?_⟩
  rw [g1, g2] at hs
  simp only [costF] at hs
  rw [List.sum_append]
  simp only [List.sum_cons, List.sum_nil]
  omega
theorem CInv.last {cs : List (List Int)} {ps : List Int} {n : Nat} {as : List Int} (hn : n = ps.length) (hs : as.sum + costF (cs.drop n) (ps.drop n) = costF cs ps) : as.sum = costF cs ps := by
  subst hn
  rw [List.drop_length] at hs
  have : costF (cs.drop ps.length) [] = 0 := by cases cs.drop ps.length <;> rfl
  rw [this] at hs
  omega
theorem two {α : Type} {t : List α} (h : t.length = 2) : ∃ a b, t = [a, b] := match t, h with
  | [a, b], _ => ⟨a, b, rfl⟩
theorem one' {α : Type} {t : List α} (h : t.length = 1) : ∃ a, t = [a] := match t, h with
  | [a], _ => ⟨a, rfl⟩
theorem cost_of {k : Nat} {cs : List (List Int)} {ps : List Int} (h : PsOk cs ps) (hs : ps.length ≤ 1000) : calls fuel tab (k + 1) 2 [cE cs, pE ps] = .ok (.int (costF cs ps)) [.un, .un] := by
  refine wC_eq (call_w rfl rfl ?_)
  show wS (evS (calls fuel tab k) fuel b2 [cE cs, pE ps, .un, .un]) _ _
  simp [b2]
  refine lc_inv (CInv cs ps (fun n r => enumF n (r.map D.int)) 2) ?_ ?_ ⟨0, [], rfl, ⟨[.un, .un], rfl, rfl⟩, Nat.zero_le _, rfl, rfl, by simp⟩
  · rintro d r acc ρ ⟨n, as, e, ⟨t, ht, rfl⟩, hn, rfl, hl, hs'⟩
    by_cases hlt : n < ps.length
    · obtain ⟨g, p, g1, g2, g3, g4, g5⟩ := h.step hlt
      rw [g2] at e
      simp only [List.map_cons, enumF, List.cons.injEq] at e
      obtain ⟨rfl, rfl⟩ := e
      obtain ⟨a, b, rfl⟩ := two ht
      have a1 := ga_at g3.1 g3.2
      simp [turnF, g4, gE, a1]
      have q := CInv.next (mk := fun n r => enumF n (r.map D.int)) (t := [.un, .un]) hlt hl rfl g1 g2 hs'
      exact ⟨by simp [hl, sizeLine]; omega, by simpa using q⟩
    · have : n = ps.length := by omega
      subst this
      rw [List.drop_length] at e
      cases e
  · rintro acc ρ ⟨n, as, e, ⟨t, ht, rfl⟩, hn, rfl, hl, hs'⟩
    obtain ⟨a, b, rfl⟩ := two ht
    have hn' : n = ps.length := by
      by_cases hlt : n < ps.length
      · obtain ⟨g, p, g1, g2, g3, g4, g5⟩ := h.step hlt
        rw [g2] at e
        cases e
      · omega
    simp [outs, f2, CInv.last hn' hs']
theorem rng_cons {lo : Int} {n : Nat} : rngF lo (n + 1) = .int lo :: rngF (lo + 1) n := by
  unfold rngF
  rw [List.range_succ_eq_map, List.map_cons, List.map_map]
  congr 1
  · simp
  · apply List.map_congr_left
    intro a _
    simp only [Function.comp]
    congr 1
    omega
@[simp] theorem rng_zero {lo : Int} : rngF lo 0 = [] := rfl
theorem law_cost {k : Nat} {cs : List (List Int)} {ps : List Int} (h : PsOk cs ps) (hs : ps.length ≤ 1000) : calls fuel tab (k + 1) 9 [cE cs, pE ps] = .ok (.int (costF cs ps)) [.un, .un] := by
  refine wC_eq (call_w rfl rfl ?_)
  show wS (evS (calls fuel tab k) fuel b9 [cE cs, pE ps, .un]) _ _
  simp [b9]
  refine ⟨by omega, ?_⟩
  · refine lc_inv (CInv cs ps (fun n r => rngF n r.length) 1) ?_ ?_ ⟨0, [], by simp, ⟨[.un], rfl, rfl⟩, Nat.zero_le _, rfl, rfl, by simp⟩
    · rintro d r acc ρ ⟨n, as, e, ⟨t, ht, rfl⟩, hn, rfl, hl, hs'⟩
      by_cases hlt : n < ps.length
      · obtain ⟨g, p, g1, g2, g3, g4, g5⟩ := h.step hlt
        rw [g2] at e
        simp only [List.length_cons, rng_cons, List.cons.injEq] at e
        obtain ⟨rfl, rfl⟩ := e
        obtain ⟨a, rfl⟩ := one' ht
        have a1 := ga_at g3.1 g3.2
        simp [turnF, g4, g5, gE, a1]
        have q := CInv.next (mk := fun n r => rngF n r.length) (t := [.un]) hlt hl rfl g1 g2 hs'
        exact ⟨by simp [hl, sizeLine]; omega, by simpa using q⟩
      · have : n = ps.length := by omega
        subst this
        rw [List.drop_length] at e
        cases e
    · rintro acc ρ ⟨n, as, e, ⟨t, ht, rfl⟩, hn, rfl, hl, hs'⟩
      obtain ⟨a, rfl⟩ := one' ht
      have hn' : n = ps.length := by
        by_cases hlt : n < ps.length
        · obtain ⟨g, p, g1, g2, g3, g4, g5⟩ := h.step hlt
          rw [g2] at e
          simp only [List.length_cons, rng_cons] at e
          cases e
        · omega
      simp [outs, f9, CInv.last hn' hs']
end K73

set_option Elab.async false
set_option linter.all false
set_option maxRecDepth 100000
set_option autoImplicit false
set_option maxHeartbeats 4000000
namespace K73
open PySem L2 MV
def toI : D → Int
  | .int i => i
  | _ => 0
theorem toI_map (ps : List Int) : (ps.map D.int).map toI = ps := by
  rw [List.map_map]
  exact List.map_id _
theorem allOk_ps : ∀ {cs : List (List Int)} {xs : List D}, allOk cs xs = true → ∃ ps, xs = ps.map D.int ∧ PsOk cs ps
  | [], [], _ => ⟨[], rfl, trivial⟩
  | [], _ :: _, h => absurd h Bool.false_ne_true
  | _ :: _, [], h => absurd h Bool.false_ne_true
  | g :: cs, x :: xs, h => by
    simp only [allOk, Bool.and_eq_true] at h
    obtain ⟨ps, rfl, hp⟩ := allOk_ps h.2
    cases x <;> first | exact absurd h.1 Bool.false_ne_true | skip
    rename_i i
    have h1 := h.1
    simp only [okAt, Bool.and_eq_true, decide_eq_true_eq] at h1
    exact ⟨i :: ps, rfl, h1, hp⟩
theorem allOk_of : ∀ {cs : List (List Int)} {ps : List Int}, PsOk cs ps → allOk cs (ps.map D.int) = true
  | [], [], _ => rfl
  | [], _ :: _, h => h.elim
  | _ :: _, [], h => h.elim
  | g :: cs, p :: ps, h => by
    simp only [List.map_cons, allOk, Bool.and_eq_true]
    exact ⟨by simp [okAt, h.1.1, h.1.2], allOk_of h.2⟩
def showsB (cs : List (List Int)) (ks : List Kl) : D → D → Bool
  | .int c, .lst _ xs => allOk cs xs && (freeB ks (xs.map toI) && decide (costF cs (xs.map toI) = c))
  | _, _ => false
theorem shows_no {cs : List (List Int)} {ks : List Kl} {c x : D} (h : isPicks cs x = false ∨ isWD c = false) : showsB cs ks c x = false := by
  cases c <;> first | rfl | skip
  cases x <;> first | rfl | skip
  rcases h with h | h
  · simp only [isPicks] at h
    simp only [showsB, h]
    rfl
  · exact absurd h (by simp [isWD])
theorem isPicks_ps {cs : List (List Int)} {x : D} (h : isPicks cs x = true) (hz : x.isFz = true) : ∃ ps, x = pE ps ∧ PsOk cs ps := by
  cases x <;> first | exact absurd h Bool.false_ne_true | skip
  rename_i o xs
  obtain ⟨ps, rfl, hp⟩ := allOk_ps (show allOk cs xs = true from h)
  simp at hz
  subst hz
  exact ⟨ps, rfl, hp⟩
theorem showsB_ps {cs : List (List Int)} {ks : List Kl} {c : Int} {ps : List Int} (hp : PsOk cs ps) : showsB cs ks (.int c) (pE ps) = (freeB ks ps && decide (costF cs ps = c)) := by
  simp only [showsB, allOk_of hp, toI_map]
  rfl
theorem isWD_int {d : D} (h : isWD d = true) : ∃ i, d = .int i := by
  cases d <;> first | exact ⟨_, rfl⟩ | exact absurd h Bool.false_ne_true
theorem shows_picks {k : Nat} {cs : List (List Int)} {ks : List Kl} {c x : D} (hc : Row c) (hx : Row x) (hr : Rows x) (hk : ∀ q ∈ ks, KOk cs.length q) (hn : cs.length ≤ 1000) :
    calls fuel tab (k + 3) 3 [cE cs, ksE ks, c, x] = .ok (.bl (showsB cs ks c x)) [.un, .un, .un, .un] := by
  refine wC_eq (call_w rfl rfl ?_)
  show wS (evS (calls fuel tab (k + 2)) fuel b3 [cE cs, ksE ks, c, x, .un, .un, .un, .un]) _ _
  unfold b3
  rw [sv_seq, wS_bind]
  by_cases hw : isWD c = true
  · by_cases hp : isPicks cs x = true
    · obtain ⟨i, rfl⟩ := isWD_int hw
      obtain ⟨ps, rfl, hps⟩ := isPicks_ps hp hx.fz
      have hl := hps.len
      rw [showsB_ps hps]
      simp [whole hc.pl, isWD, is_picks hx.pl hx.fz hr, hp]
      refine for_inv (fun ds ρ => ∃ rest a b e f, ds = rest.map kE ∧ ρ = [cE cs, ksE ks, .int i, pE ps, a, b, e, f] ∧ (∀ q ∈ rest, KOk ps.length q) ∧ freeB rest ps = freeB ks ps) ?_ ?_ ⟨ks, .un, .un, .un, .un, rfl, rfl, by rw [hl]; exact hk, rfl⟩
      · rintro d r ρ ⟨rest, a, b, e1, f, e, rfl, hrr, hf⟩
        cases rest with
        | nil => cases e
        | cons q rest =>
          simp only [List.map_cons, List.cons.injEq] at e
          obtain ⟨rfl, rfl⟩ := e
          obtain ⟨⟨q1, q2⟩, q3, q4⟩ := hrr q (List.mem_cons_self ..)
          have a1 := ga_at q1 q2
          have a2 := ga_at q3 q4
          simp [kE, a1, a2]
          have hf' : (!met ps q && freeB rest ps) = freeB ks ps := hf
          unfold met at hf'
          by_cases c1 : ga ps q.1.1 = q.1.2
          · by_cases c2 : ga ps q.2.1 = q.2.2
            · simp [c1, c2] at hf' ⊢
              simp [hf', outs, f3]
            · simp [c1, c2] at hf' ⊢
              exact ⟨rest, rfl, fun _ _ _ _ hz => hrr _ (List.mem_cons_of_mem _ hz), hf'⟩
          · simp [c1] at hf' ⊢
            exact ⟨rest, rfl, fun _ _ _ _ hz => hrr _ (List.mem_cons_of_mem _ hz), hf'⟩
      · rintro ρ ⟨rest, a, b, e1, f, e, rfl, hrr, hf⟩
        cases rest with
        | nil =>
          have hf' : true = freeB ks ps := hf
          simp [← hf', outs, f3, cost_of hps (by omega)]
        | cons y rest => cases e
    · have hp' : isPicks cs x = false := by simpa using hp
      simp [fz_of _ hc.fz, fz_of _ hx.fz, hc.pl.ok, hx.pl.ok, whole hc.pl, hw, is_picks hx.pl hx.fz hr, hp', shows_no (.inl hp'), outs, f3]
  · have hw' : isWD c = false := by simpa using hw
    simp [fz_of _ hc.fz, hc.pl.ok, whole hc.pl, hw', shows_no (.inr hw'), outs, f3]

def LInv (cs : List (List Int)) (ks : List Kl) (c : D) (xs : List D) (ds ρ : List D) : Prop :=
  ∃ (n : Nat) (a : D), ds = rngF n (cs.drop n).length ∧ ρ = [cE cs, ksE ks, c, .lst false xs, a] ∧ allOk (cs.drop n) (xs.drop n) = allOk cs xs
theorem law_shows {k : Nat} {cs : List (List Int)} {ks : List Kl} {c x : D} (hc : Row c) (hx : Row x) (hr : Rows x) (hk : ∀ q ∈ ks, KOk cs.length q) (hn : cs.length ≤ 1000) :
    calls fuel tab (k + 2) 12 [cE cs, ksE ks, c, x] = .ok (.bl (showsB cs ks c x)) [.un, .un, .un, .un] := by
  refine wC_eq (call_w rfl rfl ?_)
  show wS (evS (calls fuel tab (k + 1)) fuel b12 [cE cs, ksE ks, c, x, .un]) _ _
  unfold b12
  by_cases hw : isWD c = true
  · obtain ⟨i, rfl⟩ := isWD_int hw
    have hxp := hx.pl
    cases x <;> first
      | exact hxp.elim
      | (simp [whole6 hc.pl, isWD, showsB, outs, f12]; done)
      | skip
    rename_i o xs
    have hz := hx.fz
    simp at hz
    obtain ⟨rfl, hz⟩ := hz
    by_cases hl : xs.length = cs.length
    · simp [whole6 hc.pl, isWD, hl]
      refine ⟨by omega, ?_⟩
      refine for_inv (LInv cs ks (.int i) xs) ?_ ?_ ⟨0, .un, by simp, rfl, rfl⟩
      · rintro d r ρ ⟨n, a, e, rfl, hall⟩
        cases hcd : cs.drop n with
        | nil => rw [hcd] at e; cases e
        | cons g cr =>
          obtain ⟨g1, g2⟩ := drop_cons hcd
          rw [hcd] at e hall
          simp only [List.length_cons, rng_cons, List.cons.injEq] at e
          obtain ⟨rfl, rfl⟩ := e
          have hnl : n < xs.length := by rw [hl]; exact (List.getElem?_eq_some_iff.mp g1).1
          have hy1 : xs[n]? = some xs[n] := List.getElem?_eq_getElem hnl
          have hyr := hr xs[n] (List.getElem_mem hnl)
          rw [List.drop_eq_getElem_cons hnl] at hall
          have ht := atI_nat' (f := gE) g1
          have ht2 : atI xs (n : Int) = some xs[n] := atI_of (Int.natCast_nonneg n) (by rw [Int.toNat_natCast]; exact hy1)
          have next : LInv cs ks (.int i) xs (rngF ((n : Int) + 1) cr.length) [cE cs, ksE ks, .int i, .lst false xs, .int n] ∨ allOk cr (xs.drop (n + 1)) ≠ allOk cs xs := by
            by_cases e : allOk cr (xs.drop (n + 1)) = allOk cs xs
            · exact .inl ⟨n + 1, .int n, by rw [g2]; rfl, rfl, by rw [g2]; exact e⟩
            · exact .inr e
          generalize xs[n] = y at hall ht2 hyr
          simp [ht2, hyr.fz, whole6 hyr.pl]
          have no : allOk cs xs = false → showsB cs ks (.int i) (.lst false xs) = false := fun e => by
            simp only [showsB, e]
            rfl
          cases y <;> first
            | exact hyr.pl.elim
            | (simp [allOk, okAt] at hall; simp [isWD, no hall, outs, f12]; done)
            | skip
          rename_i j
          simp only [allOk, okAt] at hall
          by_cases i0 : 0 ≤ j
          · by_cases i1 : j < g.length
            · rw [decide_eq_true i0, decide_eq_true i1] at hall
              simp [isWD, i0, ht, gE, i1]
              exact next.resolve_right fun e => e (by simpa using hall)
            · rw [decide_eq_false i1] at hall
              simp [isWD, i0, ht, gE, i1, outs, f12]
              exact no (by simpa using hall.symm)
          · rw [decide_eq_false i0] at hall
            simp [isWD, i0, outs, f12]
            exact no (by simpa using hall.symm)
      · rintro ρ ⟨n, a, e, rfl, hall⟩
        have hnc : cs.drop n = [] := by
          cases hcd : cs.drop n with
          | nil => rfl
          | cons g cr => rw [hcd] at e; simp only [List.length_cons, rng_cons] at e; cases e
        have hxn : xs.drop n = [] := by
          have h1 : cs.length ≤ n := by simpa using hnc
          exact List.drop_of_length_le (by omega)
        rw [hnc, hxn] at hall
        have hall' : allOk cs xs = true := hall.symm
        obtain ⟨ps, rfl, hps⟩ := allOk_ps hall'
        have hk' : ∀ q ∈ ks, KOk ps.length q := by rw [hps.len]; exact hk
        rw [showsB_ps hps]
        simp [law_free hk', law_cost hps (by rw [hps.len]; omega), outs, f12]
        cases freeB ks ps <;> simp
    · have hl' : ¬ ((xs.length : Int) = cs.length) := by omega
      have : allOk cs xs = false := by
        cases e : allOk cs xs with
        | false => rfl
        | true => exact absurd (allOk_len e) hl
      have h2 := shows_no (c := .int i) (ks := ks) (cs := cs) (x := .lst false xs) (.inl this)
      simp [whole6 hc.pl, isWD, hl', h2, outs, f12]
  · have hw' : isWD c = false := by simpa using hw
    simp [fz_of _ hc.fz, hc.pl.ok, whole6 hc.pl, hw', shows_no (.inr hw'), outs, f12]
end K73

set_option Elab.async false
set_option linter.all false
set_option maxRecDepth 100000
set_option autoImplicit false
set_option maxHeartbeats 4000000
namespace K73
open PySem L2 MV
theorem Feed.nu {d : D} (h : Feed d) : okD d = some d := by
  obtain ⟨_, _, _, _, rfl, _⟩ := h.ex
  rfl
theorem feed {k : Nat} {ns : List Int} (h : ns.length ≤ 63) : wC (calls fuel tab (k + 1) 4 [.scr ns]) fun d os => Feed d := by
  refine call_w rfl rfl ?_
  show wS (evS (calls fuel tab k) fuel b4 [.scr ns]) _ _
  simp [b4]
  exact ⟨by decide, Feed.mk' (Int.le_refl _) (Int.natCast_nonneg _) (Int.le_refl _) (by decide) (by decide) h⟩
structure GOk (g : List Int) : Prop where
  pos : 0 < g.length
  len : g.length ≤ 4
  bd : ∀ x ∈ g, 0 ≤ x ∧ x < 100
def CoI (x1 x2 x3 x4 x5 : D) (tot : Nat) (most : Int) (ds acc ρ : List D) : Prop :=
  ∃ (f : D) (as : List Int), Feed f ∧ ρ = [f, x1, x2, x3, x4, x5, .un] ∧ acc = as.map D.int ∧ (∀ x ∈ as, 0 ≤ x ∧ x < most) ∧ as.length + ds.length = tot
def CsI (x1 x2 x3 : D) (tot : Nat) (ds ρ : List D) : Prop :=
  ∃ (f : D) (cs : List (List Int)) (x5 x6 : D), Feed f ∧ ρ = [f, x1, x2, x3, .lst true (cs.map gE), x5, x6] ∧ (∀ g ∈ cs, GOk g) ∧ cs.length + ds.length = tot
theorem rngF_len {lo : Int} {n : Nat} : (rngF lo n).length = n := by simp [rngF]
def CsP (m : Int) (d : D) (os : List D) : Prop := ∃ (f' : D) (cs : List (List Int)), d = .lst true (cs.map gE) ∧ os = [f', .un, .un, .un] ∧ Feed f' ∧ (∀ g ∈ cs, GOk g) ∧ cs.length = m.toNat
theorem costs {k : Nat} {f : D} {m o t : Int} (hf : Feed f) (hm : 0 ≤ m) (hm2 : m ≤ 8) (ho : 0 < o) (ho2 : o ≤ 4) (ht : 0 < t) (ht2 : t ≤ 100) :
    wC (calls fuel tab (k + 2) 10 [f, .int m, .int o, .int t]) (CsP m) := by
  refine call_w rfl rfl ?_
  show wS (evS (calls fuel tab (k + 1)) fuel b10 [f, .int m, .int o, .int t, .un, .un, .un]) _ _
  simp [b10]
  refine ⟨by omega, ?_⟩
  refine for_inv (CsI (.int m) (.int o) (.int t) m.toNat) ?_ ?_ ⟨f, [], .un, .un, hf, rfl, fun _ h => (by cases h), by simp [rngF_len]⟩
  · rintro d r ρ ⟨f1, cs, x5, x6, hf1, rfl, hg, hl⟩
    simp only [List.length_cons] at hl
    simp [hf1.nu]
    refine wC_mono (draw hf1 ho (by omega)) ?_
    rintro _ _ ⟨i, f2, rfl, hi, hi2, rfl, hf2⟩
    simp
    refine ⟨by omega, ?_⟩
    refine lc_inv (CoI (.int m) (.int o) (.int t) (.lst true (cs.map gE)) d (1 + i).toNat t) ?_ ?_ ⟨f2, [], hf2, rfl, rfl, fun _ h => (by cases h), by simp [rngF_len]⟩
    · rintro d' r' acc ρ ⟨f3, as, hf3, rfl, rfl, has, hlen⟩
      simp only [List.length_cons] at hlen
      simp [turnF, hf3.nu]
      refine wC_mono (draw hf3 ht (by omega)) ?_
      rintro _ _ ⟨j, f4, rfl, hj, hj2, rfl, hf4⟩
      simp
      refine ⟨by simp [sizeLine]; omega, f4, as ++ [j], hf4, rfl, by simp, fun x hx => ?_, by simp; omega⟩
      rcases List.mem_append.mp hx with hx | hx
      · exact has x hx
      · simp at hx; subst hx; exact ⟨hj, hj2⟩
    · rintro acc ρ ⟨f3, as, hf3, rfl, rfl, has, hlen⟩
      simp only [List.length_nil] at hlen
      simp
      refine ⟨by simp [sizeLine]; omega, f3, cs ++ [as], d, .un, hf3, by simp [gE], fun g hg' => ?_, by simp; omega⟩
      rcases List.mem_append.mp hg' with h | h
      · exact hg g h
      · simp at h; subst h
        exact ⟨by omega, by omega, fun x hx => by have := has x hx; omega⟩
  · rintro ρ ⟨f1, cs, x5, x6, hf1, rfl, hg, hl⟩
    simp [outs, f10]
    exact ⟨f1, cs, rfl, rfl, hf1, hg, by simpa using hl⟩
end K73

set_option Elab.async false
set_option linter.all false
set_option maxRecDepth 100000
set_option autoImplicit false
set_option maxHeartbeats 4000000
namespace K73
open PySem L2 MV
theorem pE_fz (p : List Int) : (pE p).isFz = true := by simp
theorem pEs_fz (rs : List (List Int)) : isFzs (rs.map fun p => D.lst false (p.map .int)) = true := isFzs_map (f := fun p => D.lst false (p.map .int)) (fun p => by simp) rs
theorem pEs_fzs (rs : List (List Int)) : fzs (rs.map fun p => D.lst false (p.map .int)) = rs.map fun p => D.lst false (p.map .int) := fzs_of _ (pEs_fz rs)
abbrev rE (rs : List (List Int)) : List D := rs.map fun p => D.lst false (p.map .int)
theorem PsOk.snoc {g : List Int} {p : Int} (hp : 0 ≤ p ∧ p < g.length) : ∀ {cs : List (List Int)} {ps : List Int}, PsOk cs ps → PsOk (cs ++ [g]) (ps ++ [p])
  | [], [], _ => ⟨hp, trivial⟩
  | [], _ :: _, h => h.elim
  | _ :: _, [], h => h.elim
  | _ :: cs, _ :: ps, h => ⟨h.1, PsOk.snoc hp h.2⟩
def A1 (cs : List (List Int)) (ds ρ : List D) : Prop := ∃ (n : Nat) (o : Bool) (rows : List (List Int)) (x2 x3 x4 x5 : D), ds = (cs.drop n).map gE ∧ ρ = [cE cs, .lst o (rE rows), x2, x3, x4, x5] ∧ n ≤ cs.length ∧ (∀ r ∈ rows, PsOk (cs.take n) r) ∧ rows.length ≤ 4 ^ n
def A2 (cs cr : List (List Int)) (g : List Int) (rows : List (List Int)) (ds ρ : List D) : Prop := ∃ (rest lng : List (List Int)) (x4 x5 : D), ds = rE rest ∧ ρ = [cE cs, .lst false (rE rows), gE g, .lst true (rE lng), x4, x5] ∧ (∀ r ∈ rest, PsOk cr r) ∧ (∀ r ∈ lng, PsOk (cr ++ [g]) r) ∧ lng.length + 4 * rest.length ≤ 4 * rows.length
def A3 (cs cr : List (List Int)) (g : List Int) (rows rest : List (List Int)) (row : List Int) (ds ρ : List D) : Prop := ∃ (j : Nat) (lng : List (List Int)) (x5 : D), ds = rngF j (g.length - j) ∧ j ≤ g.length ∧ ρ = [cE cs, .lst false (rE rows), gE g, .lst true (rE lng), pE row, x5] ∧ (∀ r ∈ lng, PsOk (cr ++ [g]) r) ∧ lng.length + (g.length - j) + 4 * rest.length ≤ 4 * rows.length
def AP (cs : List (List Int)) (d : D) (os : List D) : Prop := ∃ (o : Bool) (rows : List (List Int)), d = .lst o (rE rows) ∧ os = [.un] ∧ (∀ r ∈ rows, PsOk cs r) ∧ rows.length ≤ 256
theorem all_picks {k : Nat} {cs : List (List Int)} (hc : ∀ g ∈ cs, GOk g) (hl : cs.length ≤ 4) : wC (calls fuel tab (k + 1) 7 [cE cs]) (AP cs) := by
  refine call_w rfl rfl ?_
  show wS (evS (calls fuel tab k) fuel b7 [cE cs, .un, .un, .un, .un, .un]) _ _
  simp [b7]
  refine ⟨by decide, ?_⟩
  refine for_inv (A1 cs) ?_ ?_ ⟨0, true, [[]], .un, .un, .un, .un, rfl, rfl, Nat.zero_le _, fun r hr => (by simp at hr; subst hr; trivial), by simp⟩
  · rintro d r ρ ⟨n, o, rows, x2, x3, x4, x5, e, rfl, hn, hr, hrl⟩
    cases hcd : cs.drop n with
    | nil => rw [hcd] at e; cases e
    | cons g cr =>
      obtain ⟨g1, g2⟩ := drop_cons hcd
      rw [hcd] at e
      simp only [List.map_cons, List.cons.injEq] at e
      obtain ⟨rfl, rfl⟩ := e
      have hnl : n < cs.length := (List.getElem?_eq_some_iff.mp g1).1
      have hgo := hc g (List.mem_of_getElem? g1)
      have ht : cs.take (n + 1) = cs.take n ++ [g] := by rw [List.take_add_one, g1]; rfl
      have h256 : rows.length ≤ 64 := Nat.le_trans hrl (Nat.le_trans (Nat.pow_le_pow_right (by decide) (by omega : n ≤ 3)) (by decide))
      simp [gE, pEs_fzs]
      refine for_inv (A2 cs (cs.take n) g rows) ?_ ?_ ⟨rows, [], x4, x5, rfl, by simp [gE], hr, fun _ h => (by cases h), by simp⟩
      · rintro d r ρ ⟨rest, lng, y4, y5, e, rfl, hre, hlg, hcnt⟩
        cases rest with
        | nil => cases e
        | cons row rest =>
          simp only [List.map_cons, List.cons.injEq] at e
          obtain ⟨rfl, rfl⟩ := e
          simp only [List.length_cons] at hcnt
          have hrow := hre row (List.mem_cons_self ..)
          have hrl2 := hrow.len
          simp only [List.length_take] at hrl2
          simp [gE]
          refine ⟨by have := hgo.len; omega, ?_⟩
          refine for_inv (A3 cs (cs.take n) g rows rest row) ?_ ?_ ⟨0, lng, y5, by simp, Nat.zero_le _, by simp [gE], hlg, by have := hgo.len; omega⟩
          · rintro d r ρ ⟨j, lg, z5, e, hj, rfl, hlg2, hcnt2⟩
            cases hm : g.length - j with
            | zero => rw [hm] at e; cases e
            | succ m =>
              rw [hm, rng_cons] at e
              simp only [List.cons.injEq] at e
              obtain ⟨rfl, rfl⟩ := e
              simp [gE]
              refine ⟨by unfold sizeLine; omega, by unfold sizeLine; omega, by unfold sizeLine; omega, j + 1, lg ++ [row ++ [(j : Int)]], .int j, by congr 1; omega, by omega, by simp [gE, fzs_app], fun q hq => ?_, by simp; omega⟩
              rcases List.mem_append.mp hq with h | h
              · exact hlg2 q h
              · simp at h
                subst h
                exact hrow.snoc ⟨by omega, by omega⟩
          · rintro ρ ⟨j, lg, z5, e, hj, rfl, hlg2, hcnt2⟩
            exact ⟨rest, lg, pE row, z5, rfl, rfl, fun q hq => hre q (List.mem_cons_of_mem _ hq), hlg2, by omega⟩
      · rintro ρ ⟨rest, lng, y4, y5, e, rfl, hre, hlg, hcnt⟩
        simp [pEs_fzs, gE]
        refine ⟨n + 1, false, lng, gE g, .lst false (rE lng), y4, y5, by rw [g2], by simp [gE], hnl, by rw [ht]; exact hlg, ?_⟩
        rw [Nat.pow_succ]
        omega
  · rintro ρ ⟨n, o, rows, x2, x3, x4, x5, e, rfl, hn, hr, hrl⟩
    have hnl : n = cs.length := by
      by_cases h : n < cs.length
      · rw [List.drop_eq_getElem_cons h] at e; cases e
      · omega
    subst hnl
    simp [outs, f7]
    refine ⟨o, rows, rfl, rfl, by rw [List.take_length] at hr; exact hr, Nat.le_trans hrl (Nat.le_trans (Nat.pow_le_pow_right (by decide) hl) (by decide))⟩
end K73

set_option Elab.async false
set_option linter.all false
set_option maxRecDepth 100000
set_option autoImplicit false
set_option maxHeartbeats 4000000
namespace K73
open PySem L2 MV
structure KS (n : Nat) (q : Kl) : Prop where
  ok : KOk n q
  o1 : 0 ≤ q.1.2 ∧ q.1.2 < 100
  o2 : 0 ≤ q.2.2 ∧ q.2.2 < 100
/-- so far: j turns of m from lo on, at most B + w j clashes -/
def KI (cs : List (List Int)) (s : Int) (lo : Int) (m B w : Nat) (xs : List D) (sl : Nat) (ds ρ : List D) : Prop :=
  ∃ (j : Nat) (f : D) (ks : List Kl) (t : List D), ds = rngF (lo + j) (m - j) ∧ j ≤ m ∧ Feed f ∧ ρ = f :: cE cs :: .int s :: .lst true (ks.map kE) :: (xs ++ t) ∧ t.length = sl ∧ (∀ q ∈ ks, KS cs.length q) ∧ ks.length ≤ B + w * j
theorem three {α : Type} {t : List α} (h : t.length = 3) : ∃ a b c, t = [a, b, c] := match t, h with
  | [a, b, c], _ => ⟨a, b, c, rfl⟩
theorem four {α : Type} {t : List α} (h : t.length = 4) : ∃ a b c d, t = [a, b, c, d] := match t, h with
  | [a, b, c, d], _ => ⟨a, b, c, d, rfl⟩
theorem rng_at {lo : Int} {m j : Nat} {d : D} {r : List D} (e : d :: r = rngF (lo + j) (m - j)) (h : j ≤ m) : j < m ∧ d = .int (lo + j) ∧ r = rngF (lo + ((j + 1 : Nat) : Int)) (m - (j + 1)) := by
  cases hm : m - j with
  | zero => rw [hm] at e; cases e
  | succ n =>
    rw [hm, rng_cons] at e
    cases e
    refine ⟨by omega, rfl, ?_⟩
    congr 1
    · omega
    · omega
theorem rng_end {lo : Int} {m j : Nat} (e : [] = rngF (lo + j) (m - j)) (h : j ≤ m) : j = m := by
  cases hm : m - j with
  | zero => omega
  | succ n => rw [hm, rng_cons] at e; cases e
theorem gE_at {cs : List (List Int)} {n : Nat} (h : n < cs.length) : ∃ g, g ∈ cs ∧ atI (cs.map gE) (n : Int) = some (gE g) :=
  ⟨cs[n], List.getElem_mem h, atI_nat' (List.getElem?_eq_getElem h)⟩
def KP (cs : List (List Int)) (d : D) (os : List D) : Prop := ∃ (f : D) (ks : List Kl), d = .lst true (ks.map kE) ∧ os = [f, .un, .un] ∧ Feed f ∧ (∀ q ∈ ks, KS cs.length q) ∧ ks.length ≤ 300
theorem clashes {k : Nat} {f : D} {cs : List (List Int)} {s : Int} (hf : Feed f) (hc : ∀ g ∈ cs, GOk g) (hl : cs.length ≤ 4) : wC (calls fuel tab (k + 2) 11 [f, cE cs, .int s]) (KP cs) := by
  refine call_w rfl rfl ?_
  show wS (evS (calls fuel tab (k + 1)) fuel b11 [f, cE cs, .int s, .un, .un, .un, .un, .un]) _ _
  simp [b11]
  refine ⟨by omega, ?_⟩
  refine for_inv (KI cs s 0 cs.length 0 64 [] 4) ?_ ?_ ⟨0, f, [], [.un, .un, .un, .un], by simp, Nat.zero_le _, hf, rfl, rfl, fun _ h => (by cases h), by simp⟩
  · rintro d r ρ ⟨j, f1, ks, t, e, hj, hf1, rfl, ht, hks, hcnt⟩
    obtain ⟨hj1, rfl, rfl⟩ := rng_at e hj
    obtain ⟨x4, x5, x6, x7, rfl⟩ := four ht
    obtain ⟨g, hg, hga⟩ := gE_at hj1
    have gl := (hc g hg).len
    simp
    refine ⟨by omega, ?_⟩
    refine for_inv (KI cs s (j + 1) (cs.length - (j + 1)) (64 * j) 16 [.int j] 3) ?_ ?_ ⟨0, f1, ks, [x5, x6, x7], by congr 1 <;> omega, Nat.zero_le _, hf1, rfl, rfl, hks, by omega⟩
    · rintro d r ρ ⟨i, f2, ks2, t2, e2, hi, hf2, rfl, ht2, hks2, hcnt2⟩
      obtain ⟨hi1, rfl, rfl⟩ := rng_at e2 hi
      obtain ⟨y5, y6, y7, rfl⟩ := three ht2
      obtain ⟨g', hg', hga'⟩ := gE_at (cs := cs) (n := j + 1 + i) (by omega)
      have gl' := (hc g' hg').len
      have hga2 : atI (cs.map gE) ((j : Int) + 1 + i) = some (gE g') := by
        rw [← hga']
        congr 1
      simp [hga, gE]
      refine ⟨by omega, ?_⟩
      refine for_inv (KI cs s 0 g.length (64 * j + 16 * i) 4 [.int j, .int (j + 1 + i)] 2) ?_ ?_ ⟨0, f2, ks2, [y6, y7], by simp, Nat.zero_le _, hf2, by simp [gE], rfl, hks2, by omega⟩
      · rintro d r ρ ⟨a, f3, ks3, t3, e3, ha, hf3, rfl, ht3, hks3, hcnt3⟩
        obtain ⟨ha1, rfl, rfl⟩ := rng_at e3 ha
        obtain ⟨z6, z7, rfl⟩ := two ht3
        simp [hga2, gE]
        refine ⟨by omega, ?_⟩
        refine for_inv (KI cs s 0 g'.length (64 * j + 16 * i + 4 * a) 1 [.int j, .int (j + 1 + i), .int a] 1) ?_ ?_ ⟨0, f3, ks3, [z7], by simp, Nat.zero_le _, hf3, by simp [gE], rfl, hks3, by omega⟩
        · rintro d r ρ ⟨b, f4, ks4, t4, e4, hb, hf4, rfl, ht4, hks4, hcnt4⟩
          obtain ⟨hb1, rfl, rfl⟩ := rng_at e4 hb
          obtain ⟨w7, rfl⟩ := one' ht4
          simp [hf4.nu]
          refine wC_mono (draw hf4 (by decide) (by decide)) ?_
          rintro _ _ ⟨x, f5, rfl, hx, hx2, rfl, hf5⟩
          simp [gE]
          refine ⟨fun _ => ⟨by decide, ?_, ?_⟩, fun _ => ?_⟩
          · unfold sizeLine; omega
          · refine ⟨b + 1, f5, ks4 ++ [((((j : Nat) : Int), (a : Int)), ((j : Int) + 1 + i, (b : Int)))], [.int b], by congr 1; omega, by omega, hf5, by simp [gE, kE], rfl, fun q hq => ?_, by simp; omega⟩
            rcases List.mem_append.mp hq with h | h
            · exact hks4 q h
            · simp at h
              subst h
              exact ⟨⟨⟨by simp, by simp; omega⟩, by simp; omega, by simp; omega⟩, ⟨by simp, by simp; omega⟩, ⟨by simp, by simp; omega⟩⟩
          · exact ⟨b + 1, f5, ks4, [.int b], by congr 1; omega, by omega, hf5, by simp [gE], rfl, hks4, by omega⟩
        · rintro ρ ⟨b, f4, ks4, t4, e4, hb, hf4, rfl, ht4, hks4, hcnt4⟩
          have := rng_end e4 hb
          obtain ⟨w7, rfl⟩ := one' ht4
          exact ⟨a + 1, f4, ks4, [.int a, w7], by congr 1; omega, by omega, hf4, rfl, rfl, hks4, by omega⟩
      · rintro ρ ⟨a, f3, ks3, t3, e3, ha, hf3, rfl, ht3, hks3, hcnt3⟩
        have := rng_end e3 ha
        obtain ⟨z6, z7, rfl⟩ := two ht3
        exact ⟨i + 1, f3, ks3, [.int (j + 1 + i), z6, z7], rfl, by omega, hf3, rfl, rfl, hks3, by omega⟩
    · rintro ρ ⟨i, f2, ks2, t2, e2, hi, hf2, rfl, ht2, hks2, hcnt2⟩
      have := rng_end e2 hi
      obtain ⟨y5, y6, y7, rfl⟩ := three ht2
      exact ⟨j + 1, f2, ks2, [.int j, y5, y6, y7], by congr 1; omega, by omega, hf2, rfl, rfl, hks2, by omega⟩
  · rintro ρ ⟨j, f1, ks, t, e, hj, hf1, rfl, ht, hks, hcnt⟩
    obtain ⟨x4, x5, x6, x7, rfl⟩ := four ht
    have hb : ks.length ≤ 256 := by have := rng_end e hj; omega
    by_cases h0 : ks.length = 0
    · have : ks = [] := List.length_eq_zero_iff.mp h0
      subst this
      simp [outs, f11]
      exact ⟨f1, [], rfl, rfl, hf1, fun _ h => (by cases h), by simp⟩
    · simp [hf1.nu, outs, f11, h0]
      intro _
      refine wC_mono (draw hf1 (by decide) (by decide)) ?_
      rintro _ _ ⟨x, f2, rfl, hx, hx2, rfl, hf2⟩
      simp [hf2.nu]
      refine ⟨fun _ => ?_, fun _ => ?_⟩
      · refine wC_mono (draw hf2 (by omega) (by omega)) ?_
        rintro _ _ ⟨y, f3, rfl, hy, hy2, rfl, hf3⟩
        obtain ⟨q, hq, _, ea⟩ := atI_map (xs := ks) (f := kE) hy hy2
        simp [ea, fz_of _ (kE_fz q)]
        refine ⟨by unfold sizeLine; omega, f3, ks ++ [q], by simp, rfl, hf3, fun p hp => ?_, by simp; omega⟩
        rcases List.mem_append.mp hp with h | h
        · exact hks p h
        · simp at h
          subst h
          exact hks _ hq
      · exact ⟨f2, ks, rfl, rfl, hf2, hks, by omega⟩
end K73

set_option Elab.async false
set_option linter.all false
set_option maxRecDepth 100000
set_option autoImplicit false
set_option maxHeartbeats 4000000
namespace K73
open PySem L2 MV
/-- an item of a row -/
structure El (d : D) : Prop where
  row : Row d
  rb : ∃ x, Rb 100 3 d x
structure RowOk (r : D) : Prop where
  row : Row r
  rows : Rows r
  rb : ∃ x, Rb 3000 5 r x
theorem El.int {i : Int} (h1 : -1000 < i) (h2 : i < 1000) : El (.int i) := ⟨⟨trivial, rfl⟩, _, (Rb.int h1 h2).up (by decide) (by decide)⟩
theorem El.bl {b : Bool} : El (.bl b) := ⟨⟨trivial, rfl⟩, _, Rb.bl.up (by decide) (by decide)⟩
theorem El.non : El .non := ⟨⟨trivial, rfl⟩, _, Rb.non.up (by decide) (by decide)⟩
theorem str_small : ∀ n : Nat, n < 4 → (okS 100 (PyData.shown (.str (Str.ofString (toString (n : Int)))))) = true := by
  have h : (List.range 4).all (fun n => okS 100 (PyData.shown (.str (Str.ofString (toString (n : Int)))))) = true := by decide +kernel
  intro n hn
  exact List.all_eq_true.mp h n (List.mem_range.mpr hn)
theorem El.str {i : Int} (h1 : 0 ≤ i) (h2 : i < 4) : El (.str (Str.ofString (toString i))) := by
  have h := str_small i.toNat (by omega)
  rw [Int.toNat_of_nonneg h1] at h
  exact ⟨⟨trivial, rfl⟩, .str _, rfl, rfl, (okS_of h).1, Nat.zero_le _, (okS_of h).2⟩
theorem El.tup1 {i : Int} (h1 : -1000 < i) (h2 : i < 1000) : El (.tup false [.int i]) := by
  obtain ⟨x, hx⟩ := Rb.tup (o := false) (ds := [.int i]) (L := 5) (n := 0) (m := 1) (fun d hd => by simp at hd; subst hd; exact ⟨_, Rb.int h1 h2⟩) (by simp)
  exact ⟨⟨trivial, by simp⟩, x, hx.up (by decide) (by decide)⟩
theorem El.pE {ps : List Int} (h : ∀ p ∈ ps, 0 ≤ p ∧ p < 100) (hl : ps.length ≤ 8) : El (K73.pE ps) := by
  obtain ⟨x, hx⟩ := Rb.lst (o := false) (ds := ps.map D.int) (L := 5) (n := 0) (m := 8) (fun d hd => by
    obtain ⟨i, hi, rfl⟩ := List.mem_map.mp hd
    have := h i hi
    exact ⟨_, Rb.int (by omega) (by omega)⟩) (by simpa using hl)
  exact ⟨⟨trivial, by simp⟩, x, hx.up (by decide) (by decide)⟩
theorem els_fz {l : List D} (h : ∀ d ∈ l, El d) : isFzs l = true := rows_of fun d hd => (h d hd).row
theorem RowOk.lst {l : List D} (h : ∀ d ∈ l, El d) (hl : l.length ≤ 20) : RowOk (.lst false l) := by
  obtain ⟨x, hx⟩ := Rb.lst (o := false) (m := 20) (fun d hd => (h d hd).rb) hl
  exact ⟨⟨trivial, by simp [els_fz h]⟩, fun d hd => (h d hd).row, x, hx.up (by decide) (by decide)⟩
theorem RowOk.tup {l : List D} (h : ∀ d ∈ l, El d) (hl : l.length ≤ 20) : RowOk (.tup false l) := by
  obtain ⟨x, hx⟩ := Rb.tup (o := false) (m := 20) (fun d hd => (h d hd).rb) hl
  exact ⟨⟨trivial, by simp [els_fz h]⟩, trivial, x, hx.up (by decide) (by decide)⟩
theorem RowOk.flat {d : D} (h : El d) (h' : Rows d) : RowOk d := by
  obtain ⟨x, hx⟩ := h.rb
  exact ⟨h.row, h', x, hx.up (by decide) (by decide)⟩
/-- an item of the spoilt list -/
def It (d : D) : Prop := ∃ a r, d = .tup false [a, r] ∧ Row a ∧ RowOk r
theorem It.fz {d : D} (h : It d) : d.isFz = true := by
  obtain ⟨a, r, rfl, h1, h2⟩ := h
  simp [h1.fz, h2.row.fz]
theorem its_fz {l : List D} (h : ∀ d ∈ l, It d) : isFzs l = true := isFzs_of fun i d q => (h d (List.mem_of_getElem? q)).fz
theorem its_fzs {l : List D} (h : ∀ d ∈ l, It d) : fzs l = l := fzs_of _ (its_fz h)
theorem Row.int {i : Int} : Row (.int i) := ⟨trivial, rfl⟩
/-- the picks' bounds -/
structure Pk (cs : List (List Int)) (ps : List Int) : Prop where
  ok : PsOk cs ps
  go : ∀ g ∈ cs, GOk g
  len : cs.length ≤ 8
theorem PsOk.bd : ∀ {cs : List (List Int)} {ps : List Int}, PsOk cs ps → (∀ g ∈ cs, GOk g) → ∀ p ∈ ps, 0 ≤ p ∧ p < 4
  | [], [], _, _ => fun p hp => (by cases hp)
  | [], _ :: _, h, _ => h.elim
  | _ :: _, [], h, _ => h.elim
  | g :: cs, p :: ps, h, hg => fun q hq => by
    rcases List.mem_cons.mp hq with rfl | hq
    · have := (hg g (List.mem_cons_self ..)).len
      have := h.1
      omega
    · exact PsOk.bd h.2 (fun g' h' => hg g' (List.mem_cons_of_mem _ h')) q hq
theorem Pk.el {cs : List (List Int)} {ps : List Int} (h : Pk cs ps) : ∀ d ∈ ps.map D.int, El d := fun d hd => by
  obtain ⟨i, hi, rfl⟩ := List.mem_map.mp hd
  have := h.ok.bd h.go i hi
  exact El.int (by omega) (by omega)
theorem Pk.plen {cs : List (List Int)} {ps : List Int} (h : Pk cs ps) : ps.length ≤ 8 := by rw [h.ok.len]; exact h.len
theorem Pk.row {cs : List (List Int)} {ps : List Int} (h : Pk cs ps) : RowOk (pE ps) := RowOk.lst h.el (by have := h.plen; simp; omega)
def SI (cs : List (List Int)) (c : Int) (ps : List Int) (N : Nat) (ρ : List D) : Prop :=
  ∃ (f : D) (its : List D) (x5 x6 x7 : D), ρ = [f, cE cs, .int c, pE ps, .lst true its, x5, x6, x7] ∧ Feed f ∧ (∀ d ∈ its, It d) ∧ its.length ≤ N
def SPo (d : D) (os : List D) : Prop := ∃ (f : D) (its : List D), d = .lst true its ∧ os = [f, .un, .un, .un] ∧ Feed f ∧ (∀ d ∈ its, It d) ∧ its.length ≤ 1000
theorem isFzs_sl {ps : List Int} {a b : Nat} : isFzs (List.take b (List.drop a (ps.map D.int))) = true := isFzs_of fun i d q => by
  have := List.mem_of_mem_drop (List.mem_of_mem_take (List.mem_of_getElem? q))
  obtain ⟨i, _, rfl⟩ := List.mem_map.mp this
  rfl
@[simp] theorem isFzs_sl' {ps : List Int} {a b : Nat} : fzs (List.take b (List.drop a (ps.map D.int))) = List.take b (List.drop a (ps.map D.int)) := fzs_of _ isFzs_sl
theorem sl_el {cs : List (List Int)} {ps : List Int} (h : Pk cs ps) {a b : Nat} : ∀ d ∈ List.take b (List.drop a (ps.map D.int)), El d := fun d hd => h.el d (List.mem_of_mem_drop (List.mem_of_mem_take hd))
theorem sl_len {ps : List Int} {a b : Nat} : (List.take b (List.drop a (ps.map D.int))).length ≤ ps.length := by
  simp only [List.length_take, List.length_drop, List.length_map]
  omega
def L1 (cs : List (List Int)) (c : Int) (ps : List Int) (x : Int) (m : Nat) (ds ρ : List D) : Prop :=
  ∃ (j : Nat) (f : D) (its : List D) (x6 x7 : D), ds = rngF (0 + j) (m - j) ∧ j ≤ m ∧ ρ = [f, cE cs, .int c, pE ps, .lst true its, .int x, x6, x7] ∧ Feed f ∧ (∀ d ∈ its, It d) ∧ its.length ≤ 15 + 2 * j
def L2' (cs : List (List Int)) (c : Int) (ps : List Int) (x : Int) (ds ρ : List D) : Prop :=
  ∃ (f : D) (its : List D) (x6 x7 : D), (∀ d ∈ ds, El d) ∧ ρ = [f, cE cs, .int c, pE ps, .lst true its, .int x, x6, x7] ∧ Feed f ∧ (∀ d ∈ its, It d) ∧ its.length + ds.length ≤ 100
theorem It.mk {a r : D} (h : Row a) (h' : RowOk r) : It (.tup false [a, r]) := ⟨a, r, rfl, h, h'⟩
theorem spoilt {k : Nat} {f : D} {cs : List (List Int)} {c : Int} {ps : List Int} (hf : Feed f) (hp : Pk cs ps) (hc : c.natAbs < 1000000) : wC (calls fuel tab (k + 2) 13 [f, cE cs, .int c, pE ps]) SPo := by
  refine call_w rfl rfl ?_
  show wS (evS (calls fuel tab (k + 1)) fuel b13 [f, cE cs, .int c, pE ps, .un, .un, .un, .un]) _ _
  have hlg : c.natAbs.log2 < 1920 := by have := lg (i := c) (k := 40) (by omega); omega
  have hpr := hp.row
  have hpl := hp.plen
  unfold b13
  rw [sv_seq, wS_bind]
  refine wS_mono (N := SI cs c ps 6) (R := fun _ _ => False) ?_ ?_ fun d ρ h => h.elim
  · simp [hlg, sizeLine]
    refine ⟨f, _, .un, .un, .un, rfl, hf, fun d hd => ?_, by simp⟩
    simp only [List.mem_cons, List.not_mem_nil, or_false] at hd
    rcases hd with rfl | rfl | rfl | rfl | rfl | rfl
    · exact .mk .int hpr
    · exact .mk .int hpr
    · exact .mk .int hpr
    · exact .mk ⟨trivial, rfl⟩ hpr
    · exact .mk ⟨trivial, rfl⟩ hpr
    · exact .mk ⟨trivial, by simp⟩ hpr
  rintro ρ ⟨f1, its, x5, x6, x7, rfl, hf1, hit, hil⟩
  rw [sv_seq, wS_bind]
  refine wS_mono (N := SI cs c ps 11) (R := fun _ _ => False) ?_ ?_ fun d ρ h => h.elim
  · simp [its_fz hit, its_fzs hit, isFzs_sl, fzs_app, sizeLine]
    have e0 : isFzs (List.map D.int ps ++ [D.int 0]) = true := els_fz fun d hd => by
      rcases List.mem_append.mp hd with h | h
      · exact hp.el d h
      · simp at h; subst h; exact El.int (by decide) (by decide)
    refine ⟨by omega, ⟨e0, by omega⟩, f1, _, x5, x6, x7, rfl, hf1, fun d hd => ?_, by simp; omega⟩
    rcases List.mem_append.mp hd with hd | hd
    · exact hit d hd
    · simp only [List.mem_cons, List.not_mem_nil, or_false] at hd
      rcases hd with rfl | rfl | rfl | rfl | rfl
      · exact .mk ⟨trivial, rfl⟩ hpr
      · exact .mk .int (.tup hp.el (by simp; omega))
      · exact .mk .int (.flat .non trivial)
      · refine .mk .int (.lst (fun d hd => ?_) (by simp; omega))
        rcases List.mem_append.mp hd with h | h
        · exact hp.el d h
        · simp at h; subst h; exact El.int (by decide) (by decide)
      · exact .mk .int (.lst (sl_el hp) (by have := @sl_len ps (HT.sIx ps.length 0 none) (HT.sIx ps.length ps.length (some (-1)) - HT.sIx ps.length 0 none); omega))
  rintro ρ ⟨f1, its, x5, x6, x7, rfl, hf1, hit, hil⟩
  rw [sv_seq, wS_bind]
  refine wS_mono (N := SI cs c ps 15) (R := fun _ _ => False) ?_ ?_ fun d ρ h => h.elim
  · simp [its_fz hit, its_fzs hit, isFzs_sl, fzs_app, sizeLine]
    refine ⟨by omega, f1, _, x5, x6, x7, rfl, hf1, fun d hd => ?_, by simp; omega⟩
    rcases List.mem_append.mp hd with hd | hd
    · exact hit d hd
    · simp only [List.mem_cons, List.not_mem_nil, or_false] at hd
      rcases hd with rfl | rfl | rfl | rfl
      · exact .mk .int (.flat (El.str (i := 0) (by decide) (by decide)) trivial)
      · exact .mk .int (.lst (fun d hd => by cases hd) (by simp))
      · exact .mk .int hpr
      · refine .mk .int (.lst (fun d hd => ?_) (by simp))
        simp at hd
        subst hd
        exact El.pE (fun p q => by have := hp.ok.bd hp.go p q; omega) hpl
  rintro ρ ⟨f1, its, x5, x6, x7, rfl, hf1, hit, hil⟩
  rw [sv_seq, wS_bind]
  refine wS_mono (N := SI cs c ps 1000) (R := fun _ _ => False) ?_ ?_ fun d ρ h => h.elim
  · by_cases h0 : ps.length = 0
    · simp [h0]
      exact ⟨f1, its, x5, x6, x7, rfl, hf1, hit, by omega⟩
    · have h0' : 0 < ps.length := by omega
      simp [h0', hf1.nu]
      refine wC_mono (draw hf1 (by omega) (by omega)) ?_
      rintro _ _ ⟨x, f2, rfl, hx, hx2, rfl, hf2⟩
      have hxn : ((x.toNat : Nat) : Int) = x := Int.toNat_of_nonneg hx
      obtain ⟨g, p, g1, g2, g3, g4, g5⟩ := hp.ok.step (n := x.toNat) (by omega)
      rw [hxn] at g4 g5
      have hgm : g ∈ cs := by
        have : g ∈ cs.drop x.toNat := by rw [g1]; exact List.mem_cons_self ..
        exact List.mem_of_mem_drop this
      have hgo := hp.go g hgm
      have gl := hgo.len
      have rowOk : ∀ (d : D), El d → RowOk (.lst false (List.take (HT.sIx ps.length ps.length (some x) - HT.sIx ps.length 0 none) (List.drop (HT.sIx ps.length 0 none) (ps.map D.int)) ++ (d :: List.take (HT.sIx ps.length ps.length none - HT.sIx ps.length 0 (some (x + 1))) (List.drop (HT.sIx ps.length 0 (some (x + 1))) (ps.map D.int))))) := fun d hd => by
        refine .lst (fun e he => ?_) ?_
        · rcases List.mem_append.mp he with h | h
          · exact sl_el hp e h
          · rcases List.mem_cons.mp h with rfl | h
            · exact hd
            · exact sl_el hp e h
        · have h1 := @sl_len ps (HT.sIx ps.length 0 none) (HT.sIx ps.length ps.length (some x) - HT.sIx ps.length 0 none)
          have h2 := @sl_len ps (HT.sIx ps.length 0 (some (x + 1))) (HT.sIx ps.length ps.length none - HT.sIx ps.length 0 (some (x + 1)))
          rw [List.length_append, List.length_cons]
          omega
      simp [g4, gE]
      refine ⟨by omega, ?_⟩
      refine for_inv (L1 cs c ps x g.length) ?_ ?_ ⟨0, f2, its, x6, x7, by simp, Nat.zero_le _, rfl, hf2, hit, by omega⟩
      · rintro d r ρ ⟨j, f3, it2, y6, y7, e, hj, rfl, hf3, hit3, hil3⟩
        obtain ⟨hj1, rfl, rfl⟩ := rng_at e hj
        have a1 := ga_at g3.1 g3.2
        have a2 := ga_at (ps := g) (i := (j : Int)) (by omega) (by omega)
        have hr := rowOk (.int j) (El.int (by omega) (by omega))
        have e1 := sl_len (ps := ps) (a := HT.sIx ps.length 0 none) (b := HT.sIx ps.length ps.length (some x) - HT.sIx ps.length 0 none)
        have e2 := sl_len (ps := ps) (a := HT.sIx ps.length 0 (some (x + 1))) (b := HT.sIx ps.length ps.length none - HT.sIx ps.length 0 (some (x + 1)))
        simp only [List.length_take, List.length_drop, List.length_map] at e1 e2
        simp [g4, g5, gE, a1, a2, isFzs_sl, fzs_app, isFzs_app, sizeLine]
        refine ⟨by omega, by omega, by omega, by omega, by omega, by omega, j + 1, f3, _, .int j, _, by congr 1; omega, by omega, rfl, hf3, fun d hd => ?_, by simp; omega⟩
        rcases List.mem_append.mp hd with hd | hd
        · exact hit3 d hd
        · simp only [List.mem_cons, List.not_mem_nil, or_false] at hd
          rcases hd with rfl | rfl
          · exact .mk .int hr
          · exact .mk .int hr
      · rintro ρ ⟨j, f3, it2, y6, y7, e, hj, rfl, hf3, hit3, hil3⟩
        have hj' := rng_end e hj
        have hps := g3
        have hlp : p.natAbs.log2 < 1920 := by have := lg (i := p) (k := 40) (by omega); omega
        simp [g4, g5, gE, hlp, sizeLine]
        refine for_inv (L2' cs c ps x) ?_ ?_ ⟨f3, it2, y6, y7, ?_, by simp [gE], hf3, hit3, by simp; omega⟩
        · rintro d r ρ ⟨f4, it4, z6, z7, hel, rfl, hf4, hit4, hil4⟩
          have hd := hel d (List.mem_cons_self ..)
          have hr := rowOk d hd
          simp only [List.length_cons] at hil4
          simp [hd.row.pl.ok, fz_of _ hd.row.fz, hd.row.fz, isFzs_sl, fzs_app, isFzs_app, sizeLine]
          have e1 := sl_len (ps := ps) (a := HT.sIx ps.length 0 none) (b := HT.sIx ps.length ps.length (some x) - HT.sIx ps.length 0 none)
          have e2 := sl_len (ps := ps) (a := HT.sIx ps.length 0 (some (x + 1))) (b := HT.sIx ps.length ps.length none - HT.sIx ps.length 0 (some (x + 1)))
          simp only [List.length_take, List.length_drop, List.length_map] at e1 e2
          refine ⟨by omega, by omega, by omega, f4, _, d, z7, fun e he => hel e (List.mem_cons_of_mem _ he), rfl, hf4, fun e he => ?_, by simp; omega⟩
          rcases List.mem_append.mp he with he | he
          · exact hit4 e he
          · simp only [List.mem_cons, List.not_mem_nil, or_false] at he
            subst he
            exact .mk .int hr
        · rintro ρ ⟨f4, it4, z6, z7, hel, rfl, hf4, hit4, hil4⟩
          simp only [List.length_nil] at hil4
          exact ⟨f4, it4, .int x, z6, z7, rfl, hf4, hit4, by omega⟩
        · intro d hd
          simp only [List.mem_cons, List.not_mem_nil, or_false] at hd
          rcases hd with rfl | rfl | rfl | rfl | rfl | rfl | rfl
          · exact El.int (by omega) (by omega)
          · exact El.int (by decide) (by decide)
          · exact El.int (by omega) (by omega)
          · exact El.bl
          · exact El.str hps.1 (by omega)
          · exact El.non
          · exact El.tup1 (by omega) (by omega)
  · rintro ρ ⟨f1, its, x5, x6, x7, rfl, hf1, hit, hil⟩
    simp [outs, f13]
    exact ⟨f1, its, rfl, rfl, hf1, hit, hil⟩
end K73

set_option Elab.async false
set_option linter.all false
set_option maxRecDepth 100000
set_option autoImplicit false
set_option maxHeartbeats 4000000
namespace K73
open PySem L2 MV
theorem ga_mem {g : List Int} {p : Int} (h : 0 ≤ p ∧ p < g.length) : ga g p ∈ g := by
  unfold ga
  rw [List.getD_eq_getElem?_getD, List.getElem?_eq_getElem (by omega : p.toNat < g.length)]
  exact List.getElem_mem _
theorem cost_bd : ∀ {cs : List (List Int)} {ps : List Int}, PsOk cs ps → (∀ g ∈ cs, GOk g) → 0 ≤ costF cs ps ∧ costF cs ps ≤ 100 * cs.length
  | [], [], _, _ => ⟨Int.le_refl _, Int.le_refl _⟩
  | [], _ :: _, h, _ => h.elim
  | _ :: _, [], h, _ => h.elim
  | g :: cs, p :: ps, h, hg => by
    obtain ⟨h1, h2⟩ := cost_bd h.2 fun g' h' => hg g' (List.mem_cons_of_mem _ h')
    have := (hg g (List.mem_cons_self ..)).bd _ (ga_mem h.1)
    simp only [costF, List.length_cons]
    omega
theorem rb_ints {g : List Int} (h : ∀ x ∈ g, 0 ≤ x ∧ x < 100) (hl : g.length ≤ 4) : ∃ x, Rb 30 1 (gE g) x := by
  obtain ⟨x, hx⟩ := Rb.lst (o := false) (ds := g.map D.int) (L := 5) (n := 0) (m := 4) (fun d hd => by
    obtain ⟨i, hi, rfl⟩ := List.mem_map.mp hd
    have := h i hi
    exact ⟨_, Rb.int (by omega) (by omega)⟩) (by simpa using hl)
  exact ⟨x, hx⟩
theorem rb_k {n : Nat} {q : Kl} (h : KS n q) (hn : n ≤ 8) : ∃ x, Rb 41 2 (kE q) x := by
  obtain ⟨⟨⟨a1, a2⟩, a3, a4⟩, ⟨b1, b2⟩, c1, c2⟩ := h
  refine Rb.tup (o := false) (L := 17) (n := 1) (m := 2) (fun d hd => ?_) (by simp)
  simp only [List.mem_cons, List.not_mem_nil, or_false] at hd
  rcases hd with rfl | rfl
  · refine Rb.tup (o := false) (L := 5) (n := 0) (m := 2) (fun d hd => ?_) (by simp)
    simp only [List.mem_cons, List.not_mem_nil, or_false] at hd
    rcases hd with rfl | rfl
    · exact ⟨_, Rb.int (by omega) (by omega)⟩
    · exact ⟨_, Rb.int (by omega) (by omega)⟩
  · refine Rb.tup (o := false) (L := 5) (n := 0) (m := 2) (fun d hd => ?_) (by simp)
    simp only [List.mem_cons, List.not_mem_nil, or_false] at hd
    rcases hd with rfl | rfl
    · exact ⟨_, Rb.int (by omega) (by omega)⟩
    · exact ⟨_, Rb.int (by omega) (by omega)⟩
theorem rb_all {cs : List (List Int)} {ks : List Kl} (hc : ∀ g ∈ cs, GOk g) (hl : cs.length ≤ 8) (hk : ∀ q ∈ ks, KS cs.length q) (hkl : ks.length ≤ 300) : ∃ x, Rb 100000 4 (.tup false [cE cs, ksE ks]) x := by
  obtain ⟨x, hx⟩ := Rb.tup (o := false) (ds := [cE cs, ksE ks]) (L := 13000) (n := 3) (m := 2) (fun d hd => by
    simp only [List.mem_cons, List.not_mem_nil, or_false] at hd
    rcases hd with rfl | rfl
    · obtain ⟨x, hx⟩ := Rb.lst (o := false) (ds := cs.map gE) (L := 30) (n := 1) (m := 8) (fun d hd => by
        obtain ⟨g, hg, rfl⟩ := List.mem_map.mp hd
        exact rb_ints (hc g hg).bd (hc g hg).len) (by simpa using hl)
      exact ⟨x, hx.up (by decide) (by decide)⟩
    · obtain ⟨x, hx⟩ := Rb.lst (o := false) (ds := ks.map kE) (L := 41) (n := 2) (m := 300) (fun d hd => by
        obtain ⟨q, hq, rfl⟩ := List.mem_map.mp hd
        exact rb_k (hk q hq) hl) (by simpa using hkl)
      exact ⟨x, hx.up (by decide) (by decide)⟩) (by simp)
  exact ⟨x, hx.up (by decide) (by decide)⟩
def AI (cs : List (List Int)) (ks : List Kl) (ps : List Int) (s : Str) (ds ρ : List D) : Prop :=
  ∃ (f x5 x6 x7 x8 x9 : D), (∀ d ∈ ds, It d) ∧ ρ = [f, cE cs, ksE ks, pE ps, .str s, x5, x6, x7, x8, x9] ∧ Feed f
def AskP (d : D) (os : List D) : Prop := ∃ f, d = .bl true ∧ os = [f, .un, .un, .un] ∧ Feed f
theorem asks {k : Nat} {o : Bool} {f : D} {cs : List (List Int)} {ks : List Kl} {ps : List Int} (hf : Feed f) (hp : Pk cs ps) (hk : ∀ q ∈ ks, KS cs.length q) (hkl : ks.length ≤ 300) :
    wC (calls fuel tab (k + 4) 14 [f, cE cs, ksE ks, .lst o (ps.map D.int)]) AskP := by
  obtain ⟨X, hX⟩ := rb_all hp.go hp.len hk hkl
  have hrep := hX.repr (by decide) (by decide)
  have hko : ∀ q ∈ ks, KOk cs.length q := fun q hq => (hk q hq).ok
  have hpl := hp.plen
  have ec : calls fuel tab (k + 3) 9 [cE cs, pE ps] = _ := law_cost (k := k + 2) hp.ok (by omega)
  have hcb := cost_bd hp.ok hp.go
  have hcl := hp.len
  refine call_w rfl rfl ?_
  show wS (evS (calls fuel tab (k + 3)) fuel b14 [f, cE cs, ksE ks, .lst o (ps.map D.int), .un, .un, .un, .un, .un, .un]) _ _
  unfold b14
  rw [sv_seq, wS_bind]
  simp [hrep, sizeLine, hf.nu, ec]
  refine wC_mono (spoilt (k := k + 1) hf hp (by omega)) ?_
  rintro _ _ ⟨f1, its, rfl, rfl, hf1, hit, hil⟩
  simp [its_fzs hit]
  refine for_inv (AI cs ks ps X.shown) ?_ ?_ ⟨f1, .un, .un, .un, .un, .un, hit, rfl, hf1⟩
  · rintro d r ρ ⟨f2, x5, x6, x7, x8, x9, hd, rfl, hf2⟩
    obtain ⟨a, row, rfl, ha, hr⟩ := hd d (List.mem_cons_self ..)
    obtain ⟨Y, hY⟩ := hr.rb
    have hrY := hY.repr (by decide) (by decide)
    have e12 : calls fuel tab (k + 3) 12 [cE cs, ksE ks, a, row] = _ := law_shows (k := k + 1) ha hr.row hr.rows hko (by omega)
    have e3 : calls fuel tab (k + 3) 3 [cE cs, ksE ks, a, row] = _ := shows_picks (k := k) ha hr.row hr.rows hko (by omega)
    simp [fz_of _ ha.fz, fz_of _ hr.row.fz, ha.pl.ok, hr.row.pl.ok, ha.fz, hr.row.fz, e12, e3, hrY, eqF_s hY.ok hY.ok]
    exact ⟨f2, _, _, _, _, _, fun e he => hd e (List.mem_cons_of_mem _ he), rfl, hf2⟩
  · rintro ρ ⟨f2, x5, x6, x7, x8, x9, hd, rfl, hf2⟩
    simp [hrep, sizeLine, eqF_s hX.ok hX.ok, outs, f14]
    exact ⟨f2, rfl, rfl, hf2⟩
end K73

set_option Elab.async false
set_option linter.all false
set_option maxRecDepth 100000
set_option autoImplicit false
set_option maxHeartbeats 4000000
namespace K73
open PySem L2 MV
theorem shows_gen {k : Nat} {cs : List (List Int)} {ks : List Kl} {i : Int} {ps : List Int} {o0 o1 o3 : Bool} (hps : PsOk cs ps) (hk : ∀ q ∈ ks, KOk cs.length q) (hn : cs.length ≤ 1000) :
    calls fuel tab (k + 3) 3 [.lst o0 (cs.map gE), .lst o1 (ks.map kE), .int i, .lst o3 (ps.map D.int)] = .ok (.bl (freeB ks ps && decide (costF cs ps = i))) [.un, .un, .un, .un] := by
  refine wC_eq (call_w rfl rfl ?_)
  show wS (evS (calls fuel tab (k + 2)) fuel b3 [.lst o0 (cs.map gE), .lst o1 (ks.map kE), .int i, .lst o3 (ps.map D.int), .un, .un, .un, .un]) _ _
  unfold b3
  rw [sv_seq, wS_bind]
  have hl := hps.len
  have hrow : Row (pE ps) := ⟨trivial, by simp⟩
  have hrows : Rows (pE ps) := fun d hd => by
    obtain ⟨j, _, rfl⟩ := List.mem_map.mp hd
    exact ⟨trivial, rfl⟩
  have e1 : calls fuel tab (k + 2) 1 [cE cs, pE ps] = .ok (.bl true) [.un, .un] := by
    rw [is_picks hrow.pl hrow.fz hrows]
    show CR.ok (.bl (allOk cs (ps.map D.int))) _ = _
    rw [allOk_of hps]
  simp [whole (k := k + 1) (x := .int i) trivial, isWD, e1]
  refine for_inv (fun ds ρ => ∃ rest a b e f, ds = rest.map kE ∧ ρ = [cE cs, ksE ks, .int i, pE ps, a, b, e, f] ∧ (∀ q ∈ rest, KOk ps.length q) ∧ freeB rest ps = freeB ks ps) ?_ ?_ ⟨ks, .un, .un, .un, .un, rfl, rfl, by rw [hl]; exact hk, rfl⟩
  · rintro d r ρ ⟨rest, a, b, e1, f, e, rfl, hrr, hf⟩
    cases rest with
    | nil => cases e
    | cons q rest =>
      simp only [List.map_cons, List.cons.injEq] at e
      obtain ⟨rfl, rfl⟩ := e
      obtain ⟨⟨q1, q2⟩, q3, q4⟩ := hrr q (List.mem_cons_self ..)
      have a1 := ga_at q1 q2
      have a2 := ga_at q3 q4
      simp [kE, a1, a2]
      have hf' : (!met ps q && freeB rest ps) = freeB ks ps := hf
      unfold met at hf'
      by_cases c1 : ga ps q.1.1 = q.1.2
      · by_cases c2 : ga ps q.2.1 = q.2.2
        · simp [c1, c2] at hf' ⊢
          simp [hf', outs, f3]
        · simp [c1, c2] at hf' ⊢
          exact ⟨rest, rfl, fun _ _ _ _ hz => hrr _ (List.mem_cons_of_mem _ hz), hf'⟩
      · simp [c1] at hf' ⊢
        exact ⟨rest, rfl, fun _ _ _ _ hz => hrr _ (List.mem_cons_of_mem _ hz), hf'⟩
  · rintro ρ ⟨rest, a, b, e1, f, e, rfl, hrr, hf⟩
    cases rest with
    | nil =>
      have hf' : true = freeB ks ps := hf
      simp [← hf', outs, f3, cost_of hps (by omega)]
    | cons y rest => cases e
def PI' (cs : List (List Int)) (sc x2 x3 x4 x5 x6 x7 x8 x10 x11 : D) (ds acc ρ : List D) : Prop :=
  ∃ (n : Nat) (as : List Int) (f : D), ds = (cs.drop n).map gE ∧ n ≤ cs.length ∧ acc = as.map D.int ∧ PsOk (cs.take n) as ∧ Feed f ∧ ρ = [sc, f, x2, x3, x4, x5, x6, x7, x8, .un, x10, x11]
theorem picks_lc {k : Nat} {cs : List (List Int)} {f sc x2 x3 x4 x5 x6 x7 x8 x10 x11 : D} {Q : D → List D → Prop} (hf : Feed f) (hc : ∀ g ∈ cs, GOk g) (hl : cs.length ≤ 8)
    (q : ∀ ps f', PsOk cs ps → Feed f' → Q (.lst true (ps.map D.int)) [sc, f', x2, x3, x4, x5, x6, x7, x8, .un, x10, x11]) :
    wE (lcL (turnF (calls fuel tab (k + 1)) [9] (.sl 9) .nil (.call 5 (.cons (.io 1) (.cons (.u .len (.p (.sl 9))) .nil)))) (cs.map gE) [] [sc, f, x2, x3, x4, x5, x6, x7, x8, .un, x10, x11]) Q := by
  refine lc_inv (PI' cs sc x2 x3 x4 x5 x6 x7 x8 x10 x11) ?_ ?_ ⟨0, [], f, by simp, Nat.zero_le _, rfl, trivial, hf, rfl⟩
  · rintro d r acc ρ ⟨n, as, f1, e, hn, rfl, hps, hf1, rfl⟩
    cases hcd : cs.drop n with
    | nil => rw [hcd] at e; cases e
    | cons g cr =>
      obtain ⟨g1, g2⟩ := drop_cons hcd
      rw [hcd] at e
      simp only [List.map_cons, List.cons.injEq] at e
      obtain ⟨rfl, rfl⟩ := e
      have hnl : n < cs.length := (List.getElem?_eq_some_iff.mp g1).1
      have hgo := hc g (List.mem_of_getElem? g1)
      have gp := hgo.pos
      have gl := hgo.len
      have hal := hps.len
      simp only [List.length_take] at hal
      have ht : cs.take (n + 1) = cs.take n ++ [g] := by rw [List.take_add_one, g1]; rfl
      simp [turnF, gE, hf1.nu]
      refine wC_mono (draw hf1 (by omega) (by omega)) ?_
      rintro _ _ ⟨i, f2, rfl, hi, hi2, rfl, hf2⟩
      simp
      exact ⟨by simp [sizeLine]; omega, n + 1, as ++ [i], f2, by rw [g2], hnl, by simp, by rw [ht]; exact hps.snoc ⟨hi, hi2⟩, hf2, rfl⟩
  · rintro acc ρ ⟨n, as, f1, e, hn, rfl, hps, hf1, rfl⟩
    have hnl : n = cs.length := by
      by_cases h : n < cs.length
      · rw [List.drop_eq_getElem_cons h] at e; cases e
      · omega
    subst hnl
    rw [List.take_length] at hps
    exact q as f1 hps hf1
def FI (cs : List (List Int)) (ks : List Kl) (f sc x2 x3 x4 x5 x6 x7 x8 x9 x11 : D) (ds acc ρ : List D) : Prop :=
  ∃ (rest fr : List (List Int)), ds = rE rest ∧ acc = rE fr ∧ (∀ r ∈ rest, PsOk cs r) ∧ (∀ r ∈ fr, PsOk cs r ∧ freeB ks r = true) ∧ fr.length + rest.length ≤ 256 ∧ ρ = [sc, f, x2, x3, x4, x5, x6, x7, x8, x9, .un, x11]
theorem free_lc {k : Nat} {cs : List (List Int)} {ks : List Kl} {rows : List (List Int)} {f sc x2 x3 x4 x5 x7 x8 x9 x11 : D} {Q : D → List D → Prop} (hk : ∀ q ∈ ks, KOk cs.length q) (hr : ∀ r ∈ rows, PsOk cs r) (hrl : rows.length ≤ 256)
    (q : ∀ fr, (∀ r ∈ fr, PsOk cs r ∧ freeB ks r = true) → fr.length ≤ 256 → Q (.lst true (rE fr)) [sc, f, x2, x3, x4, x5, ksE ks, x7, x8, x9, .un, x11]) :
    wE (lcL (turnF (calls fuel tab (k + 1)) [10] (.sl 10) (.call 8 (.cons (.var 6) (.cons (.var 10) .nil))) (.var 10)) (rE rows) [] [sc, f, x2, x3, x4, x5, ksE ks, x7, x8, x9, .un, x11]) Q := by
  refine lc_inv (FI cs ks f sc x2 x3 x4 x5 (ksE ks) x7 x8 x9 x11) ?_ ?_ ⟨rows, [], rfl, rfl, hr, fun _ h => (by cases h), by simpa using hrl, rfl⟩
  · rintro d r acc ρ ⟨rest, fr, e, rfl, h1, h2, h3, rfl⟩
    cases rest with
    | nil => cases e
    | cons row rest =>
      simp only [List.map_cons, List.cons.injEq] at e
      obtain ⟨rfl, rfl⟩ := e
      simp only [List.length_cons] at h3
      have hrow := h1 row (List.mem_cons_self ..)
      have ef := law_free (k := k) (ks := ks) (ps := row) (by rw [hrow.len]; exact hk)
      simp [turnF, ef]
      refine ⟨fun hfree => ⟨by simp [sizeLine]; omega, rest, fr ++ [row], rfl, by simp, fun z hz => h1 z (List.mem_cons_of_mem _ hz), fun z hz => ?_, by simp; omega, rfl⟩, fun _ => ⟨by simp [sizeLine]; omega, rest, fr, rfl, rfl, fun z hz => h1 z (List.mem_cons_of_mem _ hz), h2, by omega, rfl⟩⟩
      rcases List.mem_append.mp hz with h | h
      · exact h2 z h
      · simp at h; subst h; exact ⟨hrow, hfree⟩
  · rintro acc ρ ⟨rest, fr, e, rfl, h1, h2, h3, rfl⟩
    exact q fr h2 (by omega)
end K73

set_option Elab.async false
set_option linter.all false
set_option maxRecDepth 100000
set_option autoImplicit false
set_option maxHeartbeats 4000000
namespace K73
open PySem L2 MV
def LInv' (sc : D) (ρ : List D) : Prop := ∃ (f x2 x3 x4 x5 x6 x7 x8 x9 x10 x11 : D), ρ = [sc, f, x2, x3, x4, x5, x6, x7, x8, x9, x10, x11] ∧ Feed f
theorem ksE_fz (ks : List Kl) : (ksE ks).fz = ksE ks := by simp
@[simp] theorem fz_scr {ns : List Int} : (D.scr ns).fz = .scr ns := by simp only [D.fz]
theorem feed' {k : Nat} {ns : List Int} (h : ns.length ≤ 63) : wC (calls fuel tab (k + 1) 4 [.scr ns]) fun d os => Feed d ∧ os = [.un] := by
  refine call_w rfl rfl ?_
  show wS (evS (calls fuel tab k) fuel b4 [.scr ns]) _ _
  simp [b4, outs, f4]
  exact ⟨by decide, Feed.mk' (Int.le_refl _) (Int.natCast_nonneg _) (Int.le_refl _) (by decide) (by decide) h⟩
theorem pick2 {i : Int} (h : 0 ≤ i) (h' : i < 2) : ∃ t, atI [D.int 4, D.int 100] i = some (.int t) ∧ 0 < t ∧ t ≤ 100 := by
  have : i = 0 ∨ i = 1 := by omega
  rcases this with rfl | rfl
  · exact ⟨4, by simp, by decide, by decide⟩
  · exact ⟨100, by simp, by decide, by decide⟩
theorem pick3 {i : Int} (h : 0 ≤ i) (h' : i < 3) : ∃ t, atI [D.int 0, D.int 1, D.int 3] i = some (.int t) := by
  have : i = 0 ∨ i = 1 ∨ i = 2 := by omega
  rcases this with rfl | rfl | rfl
  · exact ⟨0, by simp⟩
  · exact ⟨1, by simp⟩
  · exact ⟨3, by simp⟩
def KcI (s0 s1 s2 s3 s4 s5 s6 s7 s8 s9 s10 : D) (ds acc ρ : List D) : Prop :=
  ∃ (n : Nat) (ks : List Kl), ds = rngF (0 + n) (7 - n) ∧ n ≤ 7 ∧ acc = ks.map kE ∧ (∀ q ∈ ks, KS 8 q) ∧ ks.length = n ∧ ρ = [s0, s1, s2, s3, s4, s5, s6, s7, s8, s9, s10, .un]
theorem law_w {ns : List Int} (hns : ns.length ≤ 63) : wC (calls fuel tab (7 + 1) 15 [.scr ns]) fun d _ => d = .bl true := by
  refine call_w rfl rfl ?_
  show wS (evS (calls fuel tab 7) fuel b15 [.scr ns, .un, .un, .un, .un, .un, .un, .un, .un, .un, .un, .un]) _ _
  unfold b15
  rw [sv_seq, wS_bind]
  refine wS_mono (N := LInv' (.scr ns)) (R := fun _ _ => False) ?_ ?_ fun d ρ h => h.elim
  · simp
    refine wC_mono (feed' (k := 6) hns) ?_
    rintro d _ ⟨hf, rfl⟩
    simp
    exact ⟨d, _, _, _, _, _, _, _, _, _, _, rfl, hf⟩
  rintro ρ ⟨f, x2, x3, x4, x5, x6, x7, x8, x9, x10, x11, rfl, hf⟩
  rw [sv_seq, wS_bind]
  refine wS_mono (N := LInv' (.scr ns)) (R := fun _ _ => False) ?_ ?_ fun d ρ h => h.elim
  · simp
    refine for_inv (fun _ => LInv' (.scr ns)) ?_ (fun _ h => h) ⟨f, x2, x3, x4, x5, x6, x7, x8, x9, x10, x11, rfl, hf⟩
    clear hf f x2 x3 x4 x5 x6 x7 x8 x9 x10 x11
    rintro d r ρ ⟨f, x2, x3, x4, x5, x6, x7, x8, x9, x10, x11, rfl, hf⟩
    simp [hf.nu]
    refine wC_mono (draw (k := 6) hf (by decide) (by decide)) ?_
    rintro _ _ ⟨i0, f1, rfl, hi0, hi0', rfl, hf1⟩
    simp [hf1.nu, sizeLine]
    refine wC_mono (draw (k := 6) hf1 (by decide) (by decide)) ?_
    rintro _ _ ⟨i1, f2, rfl, hi1, hi1', rfl, hf2⟩
    obtain ⟨t, et, ht, ht'⟩ := pick2 hi1 hi1'
    simp [hf2.nu, et]
    refine wC_mono (costs (k := 5) hf2 hi0 (by omega) (by decide) (by decide) ht ht') ?_
    rintro _ _ ⟨f3, cs, rfl, rfl, hf3, hcs, hcl⟩
    simp [hf3.nu]
    refine wC_mono (draw (k := 6) hf3 (by decide) (by decide)) ?_
    rintro _ _ ⟨i2, f4, rfl, hi2, hi2', rfl, hf4⟩
    obtain ⟨s, es⟩ := pick3 hi2 hi2'
    simp [hf4.nu, es]
    refine wC_mono (clashes (k := 5) hf4 hcs (by omega)) ?_
    rintro _ _ ⟨f5, ks, rfl, rfl, hf5, hks, hkl⟩
    simp [hf5.nu]
    refine picks_lc (k := 6) hf5 hcs (by omega) ?_
    intro ps f6 hps hf6
    have hpk : Pk cs ps := ⟨hps, hcs, by omega⟩
    have hko : ∀ q ∈ ks, KOk cs.length q := fun q hq => (hks q hq).ok
    simp [hf6.nu]
    refine wC_mono (asks (k := 3) hf6 hpk hks hkl) ?_
    rintro _ _ ⟨f7, rfl, rfl, hf7⟩
    simp
    refine wC_mono (all_picks (k := 6) hcs (by omega)) ?_
    rintro _ _ ⟨o, rows, rfl, rfl, hrows, hrl⟩
    simp [pEs_fzs]
    refine free_lc (k := 6) hko hrows hrl ?_
    intro fr hfr hfl
    by_cases h0 : fr.length = 0
    · simp [h0]
      exact ⟨_, _, _, _, _, _, _, _, _, _, _, rfl, hf7⟩
    · have h0' : 0 < fr.length := by omega
      simp [hf7.nu, h0']
      refine wC_mono (draw (k := 6) hf7 (by omega) (by omega)) ?_
      rintro _ _ ⟨y, f8, rfl, hy, hy', rfl, hf8⟩
      obtain ⟨p2, hp2m, _, ea⟩ := atI_map (xs := fr) (f := fun p => D.lst false (p.map D.int)) hy hy'
      obtain ⟨hp2, hfree⟩ := hfr p2 hp2m
      have hpk2 : Pk cs p2 := ⟨hp2, hcs, by omega⟩
      have hpl2 := hpk2.plen
      have e9 : calls fuel tab 7 9 [cE cs, pE p2] = _ := law_cost (k := 6) hp2 (by omega)
      have e3 : calls fuel tab 7 3 [cE cs, ksE ks, .int (costF cs p2), .lst true (p2.map D.int)] = _ := shows_gen (k := 4) (o0 := false) (o1 := false) (o3 := true) hp2 hko (by omega)
      simp [ea, e9, e3, hfree, hf8.nu]
      refine wC_mono (asks (k := 3) hf8 hpk2 hks hkl) ?_
      rintro _ _ ⟨f9, rfl, rfl, hf9⟩
      simp
      exact ⟨_, _, _, _, _, _, _, _, _, _, _, rfl, hf9⟩
  rintro ρ ⟨f, x2, x3, x4, x5, x6, x7, x8, x9, x10, x11, rfl, hf⟩
  rw [sv_seq, wS_bind]
  refine wS_mono (N := LInv' (.scr ns)) (R := fun _ _ => False) ?_ ?_ fun d ρ h => h.elim
  · simp [hf.nu, sizeLine]
    refine wC_mono (draw (k := 6) hf (by decide) (by decide)) ?_
    rintro _ _ ⟨i0, f1, rfl, hi0, hi0', rfl, hf1⟩
    simp [hf1.nu]
    refine ⟨fun _ => ?_, fun _ => ⟨_, _, _, _, _, _, _, _, _, _, _, rfl, hf1⟩⟩
    refine wC_mono (costs (k := 5) hf1 (by decide) (by decide) (by decide) (by decide) (by decide) (by decide)) ?_
    rintro _ _ ⟨f3, cs, rfl, rfl, hf3, hcs, hcl⟩
    simp [hf3.nu]
    have hcl8 : cs.length = 8 := hcl
    refine lc_inv (KcI (.scr ns) f3 x2 x3 x4 (.lst true (cs.map gE)) x6 x7 x8 x9 x10) ?_ ?_ ⟨0, [], by simp, Nat.zero_le _, rfl, fun _ h => (by cases h), rfl, rfl⟩
    · rintro d r acc ρ ⟨n, ks, e, hn, rfl, hks, hkl, rfl⟩
      obtain ⟨hn1, rfl, rfl⟩ := rng_at e hn
      simp [turnF, sizeLine]
      refine ⟨by omega, n + 1, ks ++ [(((n : Int), 0), (7, 0))], by congr 1 <;> omega, by omega, by simp [kE], fun q hq => ?_, by simp; omega, rfl⟩
      rcases List.mem_append.mp hq with h | h
      · exact hks q h
      · simp at h
        subst h
        exact ⟨⟨⟨by simp, by simp; omega⟩, by simp, by simp⟩, ⟨by simp, by simp⟩, ⟨by simp, by simp⟩⟩
    · rintro acc ρ ⟨n, ks, e, hn, rfl, hks, hkl, rfl⟩
      simp [hf3.nu]
      refine picks_lc (k := 6) hf3 hcs (by omega) ?_
      intro ps f6 hps hf6
      have hpk : Pk cs ps := ⟨hps, hcs, by omega⟩
      simp [hf6.nu]
      refine wC_mono (asks (k := 3) (o := true) hf6 hpk (by rw [hcl8]; exact hks) (by omega)) ?_
      rintro _ _ ⟨f7, rfl, rfl, hf7⟩
      simp
      exact ⟨_, _, _, _, _, _, _, _, _, _, _, rfl, hf7⟩
  rintro ρ ⟨f, x2, x3, x4, x5, x6, x7, x8, x9, x10, x11, rfl, hf⟩
  have c1 : calls fuel tab 7 3 [.lst true [], .lst true [], .int 0, .lst true []] = _ := shows_gen (k := 4) (cs := []) (ks := []) (ps := []) (i := 0) (o0 := true) (o1 := true) (o3 := true) trivial (fun _ h => (by cases h)) (by decide)
  have c2 : calls fuel tab 7 3 [.lst true [], .lst true [], .int 1, .lst true []] = _ := shows_gen (k := 4) (cs := []) (ks := []) (ps := []) (i := 1) (o0 := true) (o1 := true) (o3 := true) trivial (fun _ h => (by cases h)) (by decide)
  have kk : ∀ q ∈ [(((0 : Int), (0 : Int)), ((1 : Int), (0 : Int)))], KOk 2 q := fun q h => by
    simp at h
    subst h
    exact ⟨⟨by decide, by decide⟩, by decide, by decide⟩
  have c3 : calls fuel tab 7 3 [.lst true ([[3, 4], [5]].map gE), .lst true ([(((0 : Int), (0 : Int)), ((1 : Int), (0 : Int)))].map kE), .int 9, .lst true ([1, 0].map D.int)] = _ := shows_gen (k := 4) (o0 := true) (o1 := true) (o3 := true) ⟨by decide, by decide, trivial⟩ kk (by decide)
  have c4 : calls fuel tab 7 3 [.lst true ([[3, 4], [5]].map gE), .lst true ([(((0 : Int), (0 : Int)), ((1 : Int), (0 : Int)))].map kE), .int 8, .lst true ([0, 0].map D.int)] = _ := shows_gen (k := 4) (o0 := true) (o1 := true) (o3 := true) ⟨by decide, by decide, trivial⟩ kk (by decide)
  simp [gE, kE] at c3 c4
  simp [c1, c2, c3, c4, sizeLine, freeB, costF, met, ga]
theorem law_true : ∀ ns : List Int, ns.length ≤ 63 → (∀ m ∈ ns, Builtin.Int.intBits m ≤ 1048576) → ∃ os, calls fuel tab depth 15 [.scr ns] = .ok (.bl true) os := by
  intro ns hns _
  have key := law_w hns
  cases h : calls fuel tab (7 + 1) 15 [.scr ns] with
  | ok d os =>
    rw [h] at key
    have : d = .bl true := key
    subst this
    exact ⟨os, h⟩
  | exc => rw [h] at key; exact key.elim
  | bad => rw [h] at key; exact key.elim
end K73

set_option Elab.async false
set_option linter.all false
set_option maxRecDepth 100000
open PySem PySem.W PyProof.Rows
set_option maxHeartbeats 0 in
theorem PySem.Challenge.cw_lightstold_k73_judge_of_picks_holds : PySem.Challenge.rw_lightstold_k73_judge_of_picks.Holds := by
  w_on; o_law; k_head; (case hw => w_witness2)
  k_fill
  refine MV.walk_mv (l := PySem.Challenge.rw_lightstold_k73_judge_of_picks) (n := 63) (k := K73.depth) (W := K73.fuel) (i := 15) (t := K73.t15) (x := "script") (ts := K73.ts) (tab := K73.tab) (bl := K73.bl) rfl (by decide) rfl ⟨rfl, by decide, by decide⟩ (fun w h Y => PySem.W.kIn_of Y) K73.chk rfl rfl rfl ?F K73.law_true
  case F =>
    intro w mg h KX G
    refine' K73.facts KX G ?a0 ?l0 ?c0 ?k0 ?a1 ?l1 ?c1 ?k1 ?a2 ?l2 ?c2 ?k2 ?a3 ?l3 ?c3 ?k3 ?a4 ?l4 ?c4 ?k4 ?a5 ?l5 ?c5 ?k5 ?a6 ?l6 ?c6 ?k6 ?a7 ?l7 ?c7 ?k7 ?a8 ?l8 ?c8 ?k8 ?a9 ?l9 ?c9 ?k9 ?a10 ?l10 ?c10 ?k10 ?a11 ?l11 ?c11 ?k11 ?a12 ?l12 ?c12 ?k12 ?a13 ?l13 ?c13 ?k13 ?a14 ?l14 ?c14 ?k14 ?a15 ?l15 ?c15 ?k15 ?z0 ?z1 ?z2 ?z3 ?z4 ?z5 ?z6 ?z7 ?z8 ?z9 ?z10 ?z11
    (case a0 => k_is); (case l0 => k_is); (case c0 => k_is); (case k0 => k_is); (case a1 => k_is); (case l1 => k_is); (case c1 => k_is); (case k1 => k_is); (case a2 => k_is); (case l2 => k_is); (case c2 => k_is); (case k2 => k_is); (case a3 => k_is); (case l3 => k_is); (case c3 => k_is); (case k3 => k_is); (case a4 => k_is); (case l4 => k_is); (case c4 => k_is); (case k4 => k_is); (case a5 => k_is); (case l5 => k_is); (case c5 => k_is); (case k5 => k_is); (case a6 => k_is); (case l6 => k_is); (case c6 => k_is); (case k6 => k_is); (case a7 => k_is); (case l7 => k_is); (case c7 => k_is); (case k7 => k_is); (case a8 => k_is); (case l8 => k_is); (case c8 => k_is); (case k8 => k_is); (case a9 => k_is); (case l9 => k_is); (case c9 => k_is); (case k9 => k_is); (case a10 => k_is); (case l10 => k_is); (case c10 => k_is); (case k10 => k_is); (case a11 => k_is); (case l11 => k_is); (case c11 => k_is); (case k11 => k_is); (case a12 => k_is); (case l12 => k_is); (case c12 => k_is); (case k12 => k_is); (case a13 => k_is); (case l13 => k_is); (case c13 => k_is); (case k13 => k_is); (case a14 => k_is); (case l14 => k_is); (case c14 => k_is); (case k14 => k_is); (case a15 => k_is); (case l15 => k_is); (case c15 => k_is); (case k15 => k_is); (case z0 => k_is); (case z1 => k_is); (case z2 => k_is); (case z3 => k_is); (case z4 => k_is); (case z5 => k_is); (case z6 => k_is); (case z7 => k_is); (case z8 => k_is); (case z9 => k_is); (case z10 => k_is); (case z11 => k_is)
