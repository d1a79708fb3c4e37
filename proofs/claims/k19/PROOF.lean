import PyProof.Rows.All
import Wide.All
import OpenK.AllK
import Wide.FinOn
import HandS.ForMost
import HandS.Wide
import HandS.TupAny
import HandS.TupMul
import HandS.Style
import HandS.Deep
import HandS.Conv
import HandS.SortInts
import HandS.Rev
import HandS.Zip
import HandS.Walk
import HandS.IsInst
import KE.SortData
import KE.GoesEnum
import HandS.DictComp
import HandS.Dict
import KE.KSortedM
import PySem.Challenge.RW_eachaseach_k19_whole_rows_of_two_by_squa
set_option Elab.async false
set_option linter.all false
set_option maxRecDepth 100000
/-! IvCore: a small language of values (own work): its terms, its meaning, how a def's text is read into it. -/
namespace Iv
open PySem

abbrev D := PyData

mutual
/-- no list, no dict within -/
def lf : D → Bool
  | .none => true
  | .bool _ => true
  | .int _ => true
  | .str _ => true
  | .list _ => false
  | .tuple xs => lfs xs
  | .dict _ => false
def lfs : List D → Bool
  | [] => true
  | x :: xs => lf x && lfs xs
end

inductive Op where
  | add | sub | mul | fdiv | mod | pow | neg | eq | ne | lt | le | gt | ge | isin | notin | is_ | isnt
  | ix | slice | slrev | tupD | lstD | len | abs | int | max2 | min2 | maxL | minL | sum | all | any | tuple | list | sorted
  | isint | isbool | istup | isstr | islist | idx | lrng | ndist
  deriving DecidableEq

inductive IK where
  | val | rng | enum | zip | rev
  deriving DecidableEq

inductive Tg where
  | nm (i : Nat)
  | tp (is : List Nat)
  deriving DecidableEq

inductive E where
  | cst (v : D)
  | var (i : Nat)
  | op (o : Op) (es : List E)
  | and (a b : E)
  | or (a b : E)
  | not (a : E)
  | ifx (c a b : E)
  | chain (o1 o2 : Op) (a b c : E)
  | comp (t : Tg) (k : IK) (es : List E) (cond : Option E) (elt : E)
  | call (f : Nat) (h : Option Nat) (es : List E)
  | pop (i : Nat)
  | popat (i : Nat) (e : E)
  | hix (i : Nat) (e : E)

inductive S where
  | asg (i : Nat) (e : E)
  | asgT (is : List Nat) (e : E)
  | par (is : List Nat) (es : List E)
  | setI (i : Nat) (ix : E) (e : E)
  | setII (i : Nat) (ix jx : E) (e : E)
  | setH (i : Nat) (ix : E) (e : E)
  | aug (i : Nat) (o : Op) (e : E)
  | augI (i : Nat) (ix : E) (o : Op) (e : E)
  | append (i : Nat) (e : E)
  | extend (i : Nat) (e : E)
  | appendI (i : Nat) (ix : E) (e : E)
  | drop (e : E)
  | ite (c : E) (a b : List S)
  | while (c : E) (b : List S)
  | for (t : Tg) (k : IK) (es : List E) (b : List S)
  | ret (e : E)
  | brk
  | cnt
  | pass
  | bad

/-! ### values -/
def line : Nat := 16777216
def two62 : Int := 4611686018427387904
def two63 : Int := 9223372036854775808
def two64 : Int := 18446744073709551616
def small62 (i : Int) : Bool := decide (-two62 ≤ i) && decide (i < two62)
def mulOk (i j : Int) : Bool := (decide (-two64 < i) && decide (i < two64)) || (decide (-two64 < j) && decide (j < two64)) || decide (i.natAbs.log2 + j.natAbs.log2 < 1000000)
def divOk (j : Int) : Bool := decide (0 < j) && decide (j.natAbs.log2 < 9000)
def powOk (i j : Int) : Bool := decide (0 ≤ j) && decide (j ≤ 1000000) && decide (i.natAbs < 18446744073709551616)
/-- the place that an index of any sign means -/
def ixN (n : Nat) (i : Int) : Option Nat := if 0 ≤ i then (if i < n then some i.toNat else none) else if -(n : Int) ≤ i then some (i + n).toNat else none
def atI {α : Type} (xs : List α) (i : Int) : Option α := (ixN xs.length i).bind fun j => xs[j]?
def sIx (n d : Nat) : Option Int → Nat
  | none => d
  | some v => if v < 0 then (v + (n : Int)).toNat else min v.toNat n
def cut {α : Type} (xs : List α) (lo hi : Option Int) : List α := (xs.drop (sIx xs.length 0 lo)).take (sIx xs.length xs.length hi - sIx xs.length 0 lo)
def part : D → Option (Option Int)
  | .none => some none
  | .int i => some (some i)
  | _ => none
def intsOf : List D → Option (List Int)
  | [] => some []
  | .int i :: r => (intsOf r).map (i :: ·)
  | _ :: _ => none
def boolsOf : List D → Option (List Bool)
  | [] => some []
  | .bool i :: r => (boolsOf r).map (i :: ·)
  | _ :: _ => none
def items : D → Option (List D)
  | .list xs => some xs
  | .tuple xs => some xs
  | _ => none
def insI (x : Int) : List Int → List Int
  | [] => [x]
  | y :: r => if x ≤ y then x :: y :: r else y :: insI x r
def sortI : List Int → List Int
  | [] => []
  | x :: r => insI x (sortI r)
def eqOk (d : D) : Bool := SeqAt.shaped d
/-- things of one form, that may be sorted -/
def alikeB (xs : List D) : Bool := xs.all fun d => xs.all fun e => PySem.W.alike d e
def tupN : D → Bool
  | .tuple (_ :: _) => true
  | _ => false
def notT : D → Bool
  | .tuple _ => false
  | .none => false
  | _ => true
def sortB (xs : List D) : Bool := alikeB xs && (xs.all tupN || xs.all notT) && xs.all fun d => decide (d.depth ≤ 60)
def sortD (xs : List D) : List D := xs.mergeSort (PySem.W.dataLe false id)

/-- of what type a thing is -/
def oIs : Op → D → Option Bool
  | .isint, .int _ => some true
  | .isint, .bool _ => some true
  | .isint, .none => some false
  | .isint, .list _ => some false
  | .isint, .tuple _ => some false
  | .isbool, .bool _ => some true
  | .isbool, .int _ => some false
  | .isbool, .none => some false
  | .isbool, .list _ => some false
  | .isbool, .tuple _ => some false
  | .istup, .tuple _ => some true
  | .istup, .bool _ => some false
  | .istup, .int _ => some false
  | .istup, .none => some false
  | .istup, .list _ => some false
  | .islist, .list _ => some true
  | .islist, .tuple _ => some false
  | .isstr, .str _ => some true
  | .isstr, .bool _ => some false
  | .isstr, .int _ => some false
  | .isstr, .none => some false
  | .isstr, .list _ => some false
  | .isstr, .tuple _ => some false
  | _, _ => none
/-- each number once, in the order of first sight -/
def nubI (ns : List Int) : List Int := ns.foldl (fun acc n => if n ∈ acc then acc else acc ++ [n]) []
def opS : Op → List D → Option D
  | .add, [.int a, .int b] => some (.int (a + b))
  | .add, [.list a, .list b] => if a.length + b.length ≤ line then some (.list (a ++ b)) else none
  | .add, [.tuple a, .tuple b] => if a.length + b.length ≤ line then some (.tuple (a ++ b)) else none
  | .sub, [.int a, .int b] => some (.int (a - b))
  | .mul, [.int a, .int b] => if mulOk a b then some (.int (a * b)) else none
  | .mul, [.list a, .int k] => if small62 k && decide (a.length * k.toNat ≤ line) && lfs a then some (.list (List.replicate k.toNat a).flatten) else none
  | .mul, [.tuple a, .int k] => if decide (2 ≤ k) && decide (k ≤ 1000) && decide (0 < a.length) && decide (a.length ≤ 1000) && lfs a then some (.tuple (List.replicate k.toNat a).flatten) else none
  | .fdiv, [.int a, .int b] => if divOk b then some (.int (a / b)) else none
  | .mod, [.int a, .int b] => if 0 < b then some (.int (a % b)) else none
  | .pow, [.int a, .int b] => if powOk a b then some (.int (a ^ b.toNat)) else none
  | .neg, [.int a] => some (.int (-a))
  | .eq, [a, b] => if eqOk a && eqOk b then some (.bool (PyData.eqv a b)) else none
  | .ne, [a, b] => if eqOk a && eqOk b then some (.bool (!PyData.eqv a b)) else none
  | .lt, [.int a, .int b] => some (.bool (decide (a < b)))
  | .le, [.int a, .int b] => some (.bool (decide (a ≤ b)))
  | .gt, [.int a, .int b] => some (.bool (decide (b < a)))
  | .ge, [.int a, .int b] => some (.bool (decide (b ≤ a)))
  | .isin, [a, .list xs] => if eqOk a && eqOk (.list xs) then some (.bool (xs.any fun z => PyData.eqv z a)) else none
  | .notin, [a, .list xs] => if eqOk a && eqOk (.list xs) then some (.bool (!xs.any fun z => PyData.eqv z a)) else none
  | .isin, [a, .tuple xs] => if eqOk a && eqOk (.tuple xs) then some (.bool (xs.any fun z => PyData.eqv z a)) else none
  | .notin, [a, .tuple xs] => if eqOk a && eqOk (.tuple xs) then some (.bool (!xs.any fun z => PyData.eqv z a)) else none
  | .is_, [a, .none] => match a with
    | .none => some (.bool true) | .bool _ | .int _ | .list _ | .tuple _ => some (.bool false) | _ => none
  | .isnt, [a, .none] => match a with
    | .none => some (.bool false) | .bool _ | .int _ | .list _ | .tuple _ => some (.bool true) | _ => none
  | .is_, [.bool a, .bool b] => some (.bool (decide (a = b)))
  | .isnt, [.bool a, .bool b] => some (.bool (!decide (a = b)))
  | .ix, [.list xs, .int i] => atI xs i
  | .ix, [.tuple xs, .int i] => atI xs i
  | .slice, [.list xs, a, b] => (part a).bind fun lo => (part b).map fun hi => .list (cut xs lo hi)
  | .slice, [.tuple xs, a, b] => (part a).bind fun lo => (part b).map fun hi => .tuple (cut xs lo hi)
  | .slrev, [.list xs] => some (.list xs.reverse)
  | .tupD, xs => if xs.length ≤ line then some (.tuple xs) else none
  | .lstD, xs => if xs.length ≤ line then some (.list xs) else none
  | .len, [.list xs] => some (.int xs.length)
  | .len, [.tuple xs] => some (.int xs.length)
  | .abs, [.int i] => some (.int (if i < 0 then -i else i))
  | .int, [.int i] => some (.int i)
  | .int, [.bool b] => some (.int (if b then 1 else 0))
  | .max2, [.int i, .int j] => some (.int (if j > i then j else i))
  | .min2, [.int i, .int j] => some (.int (if j < i then j else i))
  | .maxL, [.list xs] => (intsOf xs).bind fun ns => match ns with
    | [] => none
    | n :: r => some (.int (r.foldl max n))
  | .minL, [.list xs] => (intsOf xs).bind fun ns => match ns with
    | [] => none
    | n :: r => some (.int (r.foldl min n))
  | .maxL, [.tuple xs] => (intsOf xs).bind fun ns => match ns with
    | [] => none
    | n :: r => some (.int (r.foldl max n))
  | .minL, [.tuple xs] => (intsOf xs).bind fun ns => match ns with
    | [] => none
    | n :: r => some (.int (r.foldl min n))
  | .sum, [.list xs] => (intsOf xs).map fun ns => .int ns.sum
  | .sum, [.tuple xs] => (intsOf xs).map fun ns => .int ns.sum
  | .all, [.list xs] => (boolsOf xs).map fun bs => .bool (bs.all id)
  | .any, [.list xs] => (boolsOf xs).map fun bs => .bool (bs.any id)
  | .tuple, [.list xs] => some (.tuple xs)
  | .tuple, [.tuple xs] => some (.tuple xs)
  | .list, [.list xs] => some (.list xs)
  | .list, [.tuple xs] => some (.list xs)
  | .sorted, [.list xs] => match intsOf xs with
    | some ns => some (.list ((sortI ns).map .int))
    | none => if lfs xs && (decide (xs.length ≤ 1) || sortB xs) then some (.list (sortD xs)) else none
  | .sorted, [.tuple xs] => if lfs xs && sortB xs then some (.list (sortD xs)) else none
  | .ndist, [.list xs] => (intsOf xs).map fun ns => .int ((nubI ns).length : Nat)
  | .isint, [d] => (oIs .isint d).map .bool
  | .isbool, [d] => (oIs .isbool d).map .bool
  | .istup, [d] => (oIs .istup d).map .bool
  | .isstr, [d] => (oIs .isstr d).map .bool
  | .islist, [d] => (oIs .islist d).map .bool
  | .idx, [.int i] => some (.int i)
  | .lrng, [.int n] => if small62 n && decide (n.toNat ≤ line) then some (.list ((List.range n.toNat).map fun (i : Nat) => .int (0 + i))) else none
  | .lrng, [.int a, .int b] => if small62 a && small62 b && decide ((b - a).toNat ≤ line) then some (.list ((List.range (b - a).toNat).map fun (i : Nat) => .int (a + i))) else none
  | _, _ => none

def rangeS (lo : Int) (n : Nat) : List D := (List.range n).map fun (i : Nat) => .int (lo + i)
def enumS (xs : List D) : List D := xs.zipIdx.map fun p => .tuple [.int (p.2 : Nat), p.1]
/-- what is walked -/
def itS : IK → List D → Option (List D)
  | .val, [.list xs] => some xs
  | .val, [.tuple xs] => some xs
  | .rng, [.int n] => if small62 n then some (rangeS 0 n.toNat) else none
  | .rng, [.int a, .int b] => if small62 a && small62 b then some (rangeS a (b - a).toNat) else none
  | .enum, [.list xs] => some (enumS xs)
  | .enum, [.tuple xs] => some (enumS xs)
  | .zip, [.list xs, .list ys] => some ((xs.zip ys).map fun p => .tuple [p.1, p.2])
  | .zip, [.tuple xs, .tuple ys] => some ((xs.zip ys).map fun p => .tuple [p.1, p.2])
  | .rev, [.list xs] => some xs.reverse
  | .rev, [.tuple xs] => some xs.reverse
  | _, _ => none

/-! ### what a name holds: nothing, a thing that may be shared, a thing of its own, the hand -/
inductive Sl where
  | no | sh (v : D) | ow (v : D) | hd

abbrev Env := List Sl
abbrev G := Option (List D)
abbrev St := Env × G
abbrev Fns := Nat → List D → G → Option (D × G)
inductive Fl where
  | nx | ret (v : D) | brk | cnt

def rd (s : St) (i : Nat) : Option D := match s.1[i]? with
  | some (.sh v) => some v
  | some (.ow v) => some v
  | _ => none
def own (s : St) (i : Nat) : Option D := match s.1[i]? with
  | some (.ow v) => some v
  | _ => none
def hasL (s : St) (i : Nat) : Bool := match own s i with
  | some (.list _) => true
  | _ => false
def isHd (s : St) (i : Nat) : Bool := match s.1[i]? with
  | some .hd => true
  | _ => false
def hdOk (s : St) : Option Nat → Bool
  | none => true
  | some i => isHd s i
def put (s : St) (i : Nat) (x : Sl) : St := (s.1.set i x, s.2)

/-- the names that a term reads -/
def E.mentions : E → Nat → Bool
  | .cst _, _ => false
  | .var i, j => i == j
  | .op _ es, j => ms es j
  | .and a b, j => a.mentions j || b.mentions j
  | .or a b, j => a.mentions j || b.mentions j
  | .not a, j => a.mentions j
  | .ifx c a b, j => c.mentions j || a.mentions j || b.mentions j
  | .chain _ _ a b c, j => a.mentions j || b.mentions j || c.mentions j
  | .comp _ _ es c e, j => ms es j || mo c j || e.mentions j
  | .call _ _ es, j => ms es j
  | .pop i, j => i == j
  | .popat i e, j => i == j || e.mentions j
  | .hix _ e, j => e.mentions j
where
  ms : List E → Nat → Bool
    | [], _ => false
    | e :: es, j => e.mentions j || ms es j
  mo : Option E → Nat → Bool
    | none, _ => false
    | some e, j => e.mentions j
/-- the names that it pops from -/
def E.popL : E → List Nat
  | .cst _ => []
  | .var _ => []
  | .op _ es => pls es
  | .and a b => a.popL ++ b.popL
  | .or a b => a.popL ++ b.popL
  | .not a => a.popL
  | .ifx c a b => c.popL ++ a.popL ++ b.popL
  | .chain _ _ a b c => a.popL ++ b.popL ++ c.popL
  | .comp _ _ es c e => pls es ++ plo c ++ e.popL
  | .call _ _ es => pls es
  | .pop i => [i]
  | .popat i e => i :: e.popL
  | .hix _ e => e.popL
where
  pls : List E → List Nat
    | [] => []
    | e :: es => e.popL ++ pls es
  plo : Option E → List Nat
    | none => []
    | some e => e.popL
def atomOp : Op → Bool
  | .sub | .fdiv | .mod | .pow | .neg | .eq | .ne | .lt | .le | .gt | .ge | .isin | .notin | .is_ | .isnt | .len | .abs | .int | .max2 | .min2 | .maxL | .minL | .sum | .all | .any
  | .sorted | .isint | .isbool | .istup | .isstr | .islist | .idx | .lrng | .ndist => true
  | _ => false
def allocOp : Op → Bool
  | .add | .mul | .slice | .slrev | .lstD | .list => true
  | _ => false
/-- all that it hands back is new, whatever the values -/
def E.fr : E → Bool
  | .cst _ => true
  | .var _ => false
  | .op o es => atomOp o || frs es
  | .and _ _ => true
  | .or _ _ => true
  | .not _ => true
  | .ifx _ a b => a.fr && b.fr
  | .chain _ _ _ _ _ => true
  | .comp _ _ _ _ e => e.fr
  | .call _ _ _ => true
  | .pop _ => true
  | .popat _ _ => true
  | .hix _ _ => false
where
  frs : List E → Bool
    | [] => true
    | e :: es => e.fr && frs es
/-- no reading is lost by a pop behind it; nothing is popped in a comprehension -/
def E.ahead (a : E) (p : List Nat) : Bool := a.fr || p.all fun i => !a.mentions i
def E.wf : E → Bool
  | .cst _ => true
  | .var _ => true
  | .op _ es => wfs es
  | .and a b => a.wf && b.wf
  | .or a b => a.wf && b.wf
  | .not a => a.wf
  | .ifx c a b => c.wf && a.wf && b.wf
  | .chain _ _ a b c => a.wf && b.wf && c.wf && a.ahead b.popL && b.ahead c.popL
  | .comp _ _ es c e => wfs es && wfo c && e.wf && (E.popL.plo c).isEmpty && e.popL.isEmpty
  | .call _ _ es => wfs es
  | .pop _ => true
  | .popat _ e => e.wf && e.popL.isEmpty
  | .hix _ e => e.wf
where
  wfs : List E → Bool
    | [] => true
    | e :: es => e.wf && e.ahead (E.popL.pls es) && wfs es
  wfo : Option E → Bool
    | none => true
    | some e => e.wf
/-- all that it hands back is new, by the value -/
def E.fresh : E → D → Bool
  | .op o es, v => atomOp o || E.fr.frs es || (match o, v with
    | .lstD, .list xs => frl es xs
    | .tupD, .tuple xs => frl es xs
    | _, .list xs => allocOp o && lfs xs
    | _, _ => false)
  | .ifx _ a b, v => a.fresh v && b.fresh v
  | .comp _ _ _ _ e, v => e.fr || (match v with
    | .list xs => xs.all fun x => lf x || e.fresh x
    | _ => false)
  | .cst _, _ => true
  | .and _ _, _ => true
  | .or _ _, _ => true
  | .not _, _ => true
  | .chain _ _ _ _ _, _ => true
  | .call _ _ _, _ => true
  | .pop _, _ => true
  | .popat _ _, _ => true
  | _, _ => false
where
  frl : List E → List D → Bool
    | [], [] => true
    | e :: es, x :: xs => (lf x || e.fresh x) && frl es xs
    | _, _ => false

/-! ### the meaning -/
def bindTg : Tg → D → St → Option St
  | .nm i, v, s => some (put s i (.sh v))
  | .tp is, .tuple xs, s => if is.length = xs.length then some ((is.zip xs).foldl (fun s p => put s p.1 (.sh p.2)) s) else none
  | .tp _, _, _ => none
def Tg.slots : Tg → List Nat
  | .nm i => [i]
  | .tp is => is
/-- the names whose things are walked: none for a range -/
def shM (k : IK) (es : List E) : Nat → Bool := match k with
  | .rng => fun _ => false
  | _ => E.mentions.ms es
theorem shM_le {k : IK} {es : List E} {i : Nat} (h : shM k es i = true) : E.mentions.ms es i = true := by
  cases k <;> first | exact h | (exact absurd h Bool.false_ne_true)
def share1 : Sl → Sl
  | .ow v => .sh v
  | x => x
/-- names that hold nothing -/
def clr (is : List Nat) (s : St) : St := is.foldr (fun i s => put s i .no) s
/-- what a term mentions is shared from now on -/
def shareE (m : Nat → Bool) (s : St) : St := (s.1.mapIdx fun i x => if m i then share1 x else x, s.2)
def compL (turn : D → G → Option (Option D × G)) : List D → G → Option (List D × G)
  | [], g => some ([], g)
  | v :: vs, g => (turn v g).bind fun r => (compL turn vs r.2).map fun q => ((match r.1 with | some x => x :: q.1 | none => q.1), q.2)

variable (F : Fns)
mutual
def ev : E → St → Option (D × St)
  | .cst v, s => some (v, s)
  | .var i, s => (rd s i).map fun v => (v, s)
  | .op o es, s => (evs es s).bind fun r => (opS o r.1).map fun v => (v, r.2)
  | .and a b, s => (ev a s).bind fun r => match r.1 with
    | .bool true => (ev b r.2).bind fun q => match q.1 with
      | .bool c => some (.bool c, q.2)
      | _ => none
    | .bool false => some (.bool false, r.2)
    | _ => none
  | .or a b, s => (ev a s).bind fun r => match r.1 with
    | .bool false => (ev b r.2).bind fun q => match q.1 with
      | .bool c => some (.bool c, q.2)
      | _ => none
    | .bool true => some (.bool true, r.2)
    | _ => none
  | .not a, s => (ev a s).bind fun r => match r.1 with
    | .bool b => some (.bool (!b), r.2)
    | _ => none
  | .ifx c a b, s => (ev c s).bind fun r => match r.1 with
    | .bool true => ev a r.2
    | .bool false => ev b r.2
    | _ => none
  | .chain o1 o2 a b c, s => (ev a s).bind fun r => (ev b r.2).bind fun q => match opS o1 [r.1, q.1] with
    | some (.bool true) => (ev c q.2).bind fun t => match opS o2 [q.1, t.1] with
      | some (.bool d) => some (.bool d, t.2)
      | _ => none
    | some (.bool false) => some (.bool false, q.2)
    | _ => none
  | .comp t k es cond elt, s => (evs es s).bind fun r => (itS k r.1).bind fun vs =>
    (compL (fun v g => (bindTg t v ((clr t.slots (shareE (E.mentions.ms es) r.2)).1, g)).bind fun s1 => match cond with
        | none => (ev elt s1).map fun q => (some q.1, q.2.2)
        | some c => (ev c s1).bind fun b => match b.1 with
          | .bool true => (ev elt b.2).map fun q => (some q.1, q.2.2)
          | .bool false => some (none, b.2.2)
          | _ => none) vs r.2.2).bind fun q =>
      if q.1.length ≤ line then some (.list q.1, (r.2.1, q.2)) else none
  | .call f h es, s => if hdOk s h then (evs es s).bind fun r => (F f r.1 r.2.2).map fun q => (q.1, (r.2.1, q.2)) else none
  | .pop i, s => match own s i with
    | some (.list xs) => (xs[xs.length - 1]?).map fun v => (v, put s i (.ow (.list xs.dropLast)))
    | _ => none
  | .popat i e, s => if hasL s i then (ev e s).bind fun r => match r.1, own r.2 i with
    | .int k, some (.list xs) => if small62 k then (ixN xs.length k).bind fun j => (xs[j]?).map fun v => (v, put r.2 i (.ow (.list (xs.eraseIdx j)))) else none
    | _, _ => none else none
  | .hix i e, s => if isHd s i then (ev e s).bind fun r => match r.1, r.2.2 with
    | .int k, some g => (atI g k).map fun v => (v, r.2)
    | _, _ => none else none
def evs : List E → St → Option (List D × St)
  | [], s => some ([], s)
  | e :: es, s => (ev e s).bind fun r => (evs es r.2).map fun q => (r.1 :: q.1, q.2)
end

/-- a thing laid into a name -/
def store (i : Nat) (e : E) (v : D) (s : St) : Option St :=
  match e with
  | .var j => match s.1[j]? with
    | some (.ow w) => (match w with
      | .list _ => some (put (put s j .no) i (.ow v))
      | .dict _ => some (put (put s j .no) i (.ow v))
      | _ => some (put (put s j (.sh v)) i (.sh v)))
    | _ => some (put s i (.sh v))
  | e => if e.fresh v then some (put s i (.ow v))
    else if lf v then some (put s i (.sh v))
    else some (put (shareE e.mentions s) i (.sh v))
/-- a thing that goes into a list: none of its lists is another's -/
def sealV (e : E) (v : D) (s : St) : Option St :=
  if e.fresh v || lf v then some s else
  match e with
  | .var j => match s.1[j]? with
    | some (.ow (.list _)) => some (put s j .no)
    | _ => none
  | _ => none
/-- .. and what is handed back -/
def sealR (e : E) (v : D) (s : St) : Bool :=
  e.fresh v || lf v || match e with
  | .var j => (match s.1[j]? with
    | some (.ow _) => true
    | _ => false)
  | _ => false

def loopL (turn : D → St → Option (Fl × St)) : List D → St → Option (Fl × St)
  | [], s => some (.nx, s)
  | v :: vs, s => (turn v s).bind fun r => match r.1 with
    | .nx => loopL turn vs r.2
    | .cnt => loopL turn vs r.2
    | .brk => some (.nx, r.2)
    | .ret x => some (.ret x, r.2)
def whileL (test : St → Option (D × St)) (body : St → Option (Fl × St)) : Nat → St → Option (Fl × St)
  | 0, _ => none
  | n + 1, s => (test s).bind fun c => match c.1 with
    | .bool false => some (.nx, c.2)
    | .bool true => (body c.2).bind fun r => match r.1 with
      | .nx => whileL test body n r.2
      | .cnt => whileL test body n r.2
      | .brk => some (.nx, r.2)
      | .ret x => some (.ret x, r.2)
    | _ => none

mutual
def ex (n : Nat) : S → St → Option (Fl × St)
  | .asg i e, s => (ev F e s).bind fun r => (store i e r.1 r.2).map fun s => (.nx, s)
  | .asgT is e, s => (ev F e s).bind fun r => match r.1 with
    | .tuple xs => if is.length = xs.length ∧ (e.fresh (.tuple xs) || lfs xs) then some (.nx, (is.zip xs).foldl (fun s p => put s p.1 (.sh p.2)) r.2) else none
    | _ => none
  | .par is es, s => (evs F es s).bind fun r => if is.length = r.1.length ∧ (es.zip r.1).all (fun p => p.1.fresh p.2 || lf p.2) then
      some (.nx, (is.zip (es.zip r.1)).foldl (fun s p => put s p.1 (if p.2.1.fresh p.2.2 then .ow p.2.2 else .sh p.2.2)) r.2) else none
  | .setI i ix e, s => (ev F e s).bind fun r => (sealV e r.1 r.2).bind fun s1 => if hasL s1 i then (ev F ix s1).bind fun q => match q.1, own q.2 i with
    | .int k, some (.list xs) => (ixN xs.length k).map fun j => (.nx, put q.2 i (.ow (.list (xs.set j r.1))))
    | _, _ => none
    else none
  | .setII i ix jx e, s => (ev F e s).bind fun r => if lf r.1 && hasL r.2 i then (ev F ix r.2).bind fun q => match q.1, own q.2 i with
    | .int k, some (.list xs) => (ixN xs.length k).bind fun j => match xs[j]? with
      | some (.list ys) => (ev F jx q.2).bind fun t => match t.1, own t.2 i with
        | .int l, some (.list _) => (ixN ys.length l).map fun m => (.nx, put t.2 i (.ow (.list (xs.set j (.list (ys.set m r.1))))))
        | _, _ => none
      | _ => none
    | _, _ => none else none
  | .setH i ix e, s => if isHd s i then (ev F e s).bind fun r => if lf r.1 then (ev F ix r.2).bind fun q => match q.1, q.2.2 with
    | .int k, some g => (ixN g.length k).map fun j => (.nx, (q.2.1, some (g.set j r.1)))
    | _, _ => none else none else none
  | .aug i o e, s => (rd s i).bind fun a => (ev F e s).bind fun r => match a, r.1 with
    | .int x, .int y => (opS o [.int x, .int y]).map fun v => (.nx, put r.2 i (.ow v))
    | _, _ => none
  | .augI i ix o e, s => if hasL s i then (ev F ix s).bind fun q => match q.1, own q.2 i with
    | .int k, some (.list xs) => (ixN xs.length k).bind fun j => match xs[j]? with
      | some (.int x) => (ev F e q.2).bind fun r => match r.1 with
        | .int y => (opS o [.int x, .int y]).map fun v => (.nx, put r.2 i (.ow (.list (xs.set j v))))
        | _ => none
      | _ => none
    | _, _ => none
    else none
  | .append i e, s => if hasL s i then (ev F e s).bind fun r => (sealV e r.1 r.2).bind fun s1 => match own s1 i with
    | some (.list xs) => if xs.length < line then some (.nx, put s1 i (.ow (.list (xs ++ [r.1])))) else none
    | _ => none
    else none
  | .extend i e, s => if hasL s i then (ev F e s).bind fun r => match r.1, own r.2 i with
    | .list ys, some (.list xs) => if xs.length + ys.length ≤ line ∧ (e.fresh (.list ys) || lfs ys) then some (.nx, put r.2 i (.ow (.list (xs ++ ys)))) else none
    | _, _ => none
    else none
  | .appendI i ix e, s => if hasL s i then (ev F ix s).bind fun q => match q.1, own q.2 i with
    | .int k, some (.list xs) => (ixN xs.length k).bind fun j => match xs[j]? with
      | some (.list ys) => (ev F e q.2).bind fun r => if lf r.1 && decide (ys.length < line) then some (.nx, put r.2 i (.ow (.list (xs.set j (.list (ys ++ [r.1])))))) else none
      | _ => none
    | _, _ => none
    else none
  | .drop e, s => (ev F e s).map fun r => (.nx, r.2)
  | .ite c a b, s => (ev F c s).bind fun r => match r.1 with
    | .bool true => exs n a r.2
    | .bool false => exs n b r.2
    | _ => none
  | .while c b, s => whileL (ev F c) (exs n b) n s
  | .for t k es b, s => (evs F es s).bind fun r => (itS k r.1).bind fun vs =>
    loopL (fun v s => (bindTg t v s).bind fun s1 => exs n b s1) vs (shareE (shM k es) r.2)
  | .ret e, s => (ev F e s).bind fun r => if sealR e r.1 r.2 then some (.ret r.1, r.2) else none
  | .brk, s => some (.brk, s)
  | .cnt, s => some (.cnt, s)
  | .pass, s => some (.nx, s)
  | .bad, _ => none
def exs (n : Nat) : List S → St → Option (Fl × St)
  | [], s => some (.nx, s)
  | x :: xs, s => (ex n x s).bind fun r => match r.1 with
    | .nx => exs n xs r.2
    | f => some (f, r.2)
end

/-- a def: its body over its parameters; the first one is the hand, if h -/
def run (n : Nat) (slots : Nat) (h : Bool) (body : List S) (args : List D) (g : G) : Option (D × G) :=
  (exs F n body (((if h then [Sl.hd] else []) ++ args.map Sl.sh ++ List.replicate (slots - args.length - (if h then 1 else 0)) Sl.no), g)).bind fun r => match r.1 with
    | .ret v => some (v, r.2.2)
    | .nx => some (.none, r.2.2)
    | _ => none
end Iv
set_option Elab.async false
set_option linter.all false
set_option maxRecDepth 100000
/-! IvRules1: own rules over the hand layer: enumerate of a tuple. -/
namespace IvR
open PySem PySem.Spec PyProof.Rows L2

set_option maxHeartbeats 1000000 in
theorem meets_enum_T {v : Value} {o : Obj} {H : Heap → Prop} (B : Begins v o H) :
    Meets (Builtin.«enumerate.__new__» ⟨[.type "enumerate", v], []⟩) (fun _ R s => H s.heap ∧
      R (.ok (.ret (.ref (s.heap.push o).objs.size))) { s with heap := (s.heap.push o).push { cls := .type "enumerate", data := .fields #[.none, .bool false, .ref s.heap.objs.size, rawInt 0, .none, .none] } }) :=
  .of_wp fun prog w A R s h => by
    obtain ⟨hp, g, d, tk, os⟩ := s
    obtain ⟨h1, h⟩ := h
    have hsub := sub_enumerate
    have q1 : ∀ {A' : Around} {E : Value → Shared → Prop} {Q : Value → Shared → Prop}, Q (.ref hp.objs.size) ⟨hp.push o, g, d, tk, os⟩ → wpAny (model prog w) A' (pyIter v) Q E ⟨hp, g, d, tk, os⟩ :=
      fun q => B.iter prog w _ _ ⟨hp, g, d, tk, os⟩ _ h1 q
    wp_walk using q1
    refine wpAny_stack_any fun st => wpAny_pure ?_
    split
    · rename_i c _ _ _ _ _
      cases (c == Value.type "enumerate")
      all_goals
        wp_walk using q1
        exact ⟨_, rfl, h⟩
    · wp_walk using q1
      exact ⟨_, rfl, h⟩
section
variable {prog : Program} {w : World} {A : Around} {E : Value → Shared → Prop} {s : Shared}
theorem call_enum_T {t : Addr} {items : Array Value} {Q : Value → Shared → Prop} (hT : s.heap.IsTuple t items)
    (h : ∀ h', IsEnum h' (s.heap.objs.size + 1) s.heap.objs.size 0 .none → h'.IsTupleIter s.heap.objs.size t 0 → (∀ b o, s.heap.get? b = some o → h'.get? b = some o) → Q (.ref (s.heap.objs.size + 1)) { s with heap := h' }) :
    wpAny (model prog w) A (call (.type "enumerate") [.ref t]) Q E s := by
  refine callType_new F.called_enumerate (by decide) (F.typeCall_enumerate_1 _) (F.newCall_enumerate_1 _) (fun obj => F.args_object_init_2 obj _) F.entry_enumerate_new (meets_enum_T (begins_tuple t items)) ⟨hT, ?_⟩
  have hz : (s.heap.push { cls := .type "tuple_iterator", data := .fields #[.ref t, .int 0 0] }).objs.size = s.heap.objs.size + 1 := Heap.size_push ..
  show _ ∧ _
  rw [hz]
  have he := Heap.get?_push_size (s.heap.push { cls := .type "tuple_iterator", data := .fields #[.ref t, .int 0 0] }) (o := { cls := .type "enumerate", data := .fields #[.none, .bool false, .ref s.heap.objs.size, rawInt 0, .none, .none] }) rfl
  rw [hz] at he
  exact ⟨⟨_, he, rfl⟩, h _ he ⟨_, Heap.get?_push_of_some _ (Heap.get?_push_size _ rfl), rfl, rfl⟩ fun b o x => Heap.get?_push_of_some _ (Heap.get?_push_of_some _ x)⟩
end
/-- a tuple's iterator that is through -/
theorem drawn_out {prog : Program} {w : World} {A : Around} {it a : Addr} {i : Nat} {items : Array Value} (hh : A.handled = none) (hai : a ≠ it) (hend : items[i]? = none) :
    Draws prog w A it [it, a] i (fun _ _ => False) (fun j h => j = i ∧ h.IsTupleIter it a i ∧ h.IsTuple a items) where
  live := fun _ _ st => let ⟨o, ho, _⟩ := st.2.1; ⟨o, ho⟩
  frame := fun _ _ _ st hk => ⟨st.1, st.2.1.at fun o e => hk it (by simp) o e, st.2.2.at fun o e => hk a (by simp) o e⟩
  item := fun j s Q E hj st _ => absurd st.1 (Nat.ne_of_lt hj)
  done := fun s Q E st hE => wpAny_nextOf_tuple_end hh st.2.1 st.2.2 hend hE
/-- the tuple at a at each turn, each item in a new pair -/
def IteT (K : PySem.W.Frag) (a : Addr) : It :=
  ⟨fun i H => ∃ (xs : List V) (x : V), SqT K H a xs ∧ xs[i]? = some x, fun i H v H' => ∃ T x, v = .ref T ∧ H T = none ∧ H' = upd H T (.tup [.int (i : Nat), x]) ∧ ∀ xs, SqT K H a xs → xs[i]? = some x, fun i H => ∃ xs : List V, SqT K H a xs ∧ xs.length ≤ i⟩
theorem turn_enumT {P : Program} {w : World} {K : PySem.W.Frag} {elts : List Expr} {kk : Nat} {tpos : Pos} (a e it : Addr) :
    Turn P w K (.Tuple elts kk tpos) (IteT K a) [e, it] e (fun i h => (∃ old, IsEnum h e it ((i : Nat) : Int) old) ∧ h.IsTupleIter it a i ∧ e ≠ it ∧ a ≠ it ∧ a ≠ e) where
  mem := by simp
  obj := fun i h st b hb => by
    obtain ⟨⟨old, he⟩, ⟨o, ho, hc, hd⟩, _⟩ := st
    rcases (show b = e ∨ b = it by simpa using hb) with z | z
    · subst z; exact ⟨_, he, fun v q => nomatch q⟩
    · subst z; exact ⟨o, ho, fun v q => by rw [hd] at q; cases q⟩
  keep := fun i h h' st k => by
    obtain ⟨⟨old, he⟩, hi, r⟩ := st
    exact ⟨⟨old, k e (by simp) _ he⟩, hi.at fun o q => k it (by simp) o q, r⟩
  item := by
    intro X hP hw hK hc i pins s σ H E I hf st hg
    subst hP hw hK
    obtain ⟨⟨old, he⟩, hit, hne, hai, hae⟩ := st
    obtain ⟨xs, x, hq, hx⟩ := hg
    obtain ⟨its, rv, p, hz⟩ := I.tuple hq
    obtain ⟨u, hu, ru⟩ := rv.get hx
    have hel : e < s.heap.objs.size := Heap.lt_size he
    have hil : it < s.heap.objs.size := by obtain ⟨_, q, _⟩ := hit; exact Heap.lt_size q
    have hlt : i < its.toArray.size := by
      have := (List.getElem?_eq_some_iff.mp hu).1
      simpa using this
    refine wpAny_pyNext_enum_itemD (Draws.tuple (A := X.A.in1) (I.ok.hd hc) it a hai its.toArray) he ⟨hit, p⟩ hlt hne (by simp [hne, Ne.symm hae]) fun y h' tk hy ho hit' hT hsz hk => ?_
    have hyu : y = u := by
      have hy' : its.toArray[i]? = some y := hy
      have : its[i]? = some y := by simpa using hy'
      rw [hu] at this; exact (Option.some.inj this).symm
    subst hyu
    refine ⟨_, rfl, wpAny_letOwnedTupleGo_enum (s := { s with heap := h', toks := tk + 1 }) ho fun h'' he' sb => ?_⟩
    have hT2 : h''.get? s.heap.objs.size = some { cls := .type "tuple", data := .seq #[.int i tk, y] } := (sb.2 _ (Nat.ne_of_gt hel)).trans hT
    have new : ObjOk X.prog X.w (upd H s.heap.objs.size (.tup [.int (i : Nat), x])) h'' s.heap.objs.size (.tup [.int (i : Nat), x]) :=
      ⟨by show 2 ≤ sizeLine; decide, [.int i tk, y], .cons ⟨_, rfl⟩ (.cons ru .nil), ⟨_, hT2, rfl, _, rfl⟩⟩
    have I1 : Inv X pins σ (upd H s.heap.objs.size (.tup [.int (i : Nat), x])) { s with heap := h'', toks := tk + 1 } :=
      I.turnedNew (ch := [e, it]) (fun b ob hb q => (sb.2 b (fun z => hb (by simp [z]))).trans (hk b ob (fun z => hb (by simp [z])) (fun z => hb (by simp [z])) q)) hf (Nat.le_refl _) new
    refine ⟨.ref s.heap.objs.size, _, I1, rfl, ⟨_, x, rfl, I.hok.fresh (Nat.le_refl _), rfl, fun ys hy => by rw [I.tuple_inj hy hq]; exact hx⟩, ⟨⟨y, ?_⟩, hit'.1.at fun o q => (sb.2 it (Ne.symm hne)).trans q, hne, hai, hae⟩, fun b hb => ?_⟩
    · rw [show ((i + 1 : Nat) : Int) = (i : Int) + 1 by omega]
      exact he'
    · have hb' : b < s.heap.objs.size := by
        rcases (show b = e ∨ b = it by simpa using hb) with z | z
        · subst z; exact hel
        · subst z; exact hil
      rw [upd_ne (Nat.ne_of_lt hb')]
      exact (hf b hb).1
  done := by
    intro X hP hw hK hc i pins s σ H E I hf st hg
    subst hP hw hK
    obtain ⟨⟨old, he⟩, hit, hne, hai, hae⟩ := st
    obtain ⟨xs, hq, hx⟩ := hg
    obtain ⟨its, rv, p, hz⟩ := I.tuple hq
    obtain ⟨f0, f1, f2, f3, f4, f5⟩ := hf it (by simp)
    have hl := rv.length
    have hend : its.toArray[i]? = none := by simp; omega
    exact wpAny_pyNext_enum_endD (drawn_out (A := X.A.in1) (I.ok.hd hc) hai hend) he ⟨rfl, hit, p⟩ fun h' eb => ⟨rfl, I.turned (t' := s.toks) (fun b o hb q => eb b o hb q) f0 f1 f3 f4 f5⟩
  self := fun A i s Q E st h => by
    obtain ⟨⟨_, he⟩, _⟩ := st
    exact wpAny_pyIter_enum he h
def iEnumT (K : PySem.W.Frag) (ta : TA) : TI := fun σ H R => ta σ H fun vs H1 => ∃ a xs, vs = [.ref a] ∧ SqT K H1 a xs ∧ R (IteT K a) H1
theorem pi_enumT {X : Cx} {e : Expr} {ta : TA} {p pos tpos : Pos} {elts : List Expr} {kk : Nat} (hg : Gl X "enumerate") (hm : X.mg "enumerate" = none) (ha : PA X [e] ta) (hs : starEach [e] X.env = [(false, eval e X.env)] := by rfl) :
    PI X (.Tuple elts kk tpos) (.Call (.Name "enumerate" p) [e] [] pos) (iEnumT X.K ta) := by
  refine ⟨fun pins s σ H R I h => ?_⟩
  refine Call_ (ld_blt I hg hm boot_enumerate (PyProof.Rows.callWith_type1 (thn (ha.run pos pins s σ H _ I h) fun us s1 ⟨vs, H1, I1, r1, q1⟩ => ?_) hs rfl))
  obtain ⟨a, xs, ex, hq, q⟩ := q1
  subst ex
  cases r1 with
  | cons r rr =>
    cases rr
    cases r
    obtain ⟨its, rv, p', hz⟩ := I1.tuple hq
    obtain ⟨oa, hoa, _⟩ := id p'
    have hal := Heap.lt_size hoa
    refine call_enum_T p' fun h' he hit hk => wpAny_pyIter_enum he ?_
    have I2 : Inv X pins σ H1 { s1 with heap := h' } := I1.kept (t' := s1.toks) hk
    refine ⟨s1.heap.objs.size + 1, [s1.heap.objs.size + 1, s1.heap.objs.size], _, _, H1, rfl, I2, turn_enumT a (s1.heap.objs.size + 1) s1.heap.objs.size, ⟨⟨.none, he⟩, hit, Nat.succ_ne_self _, Nat.ne_of_lt hal, Nat.ne_of_lt (Nat.lt_succ_of_lt hal)⟩, fun b hb => ?_, q⟩
    have hle : s1.heap.objs.size ≤ b := by
      rcases (show b = s1.heap.objs.size + 1 ∨ b = s1.heap.objs.size by simpa using hb) with z | z
      · rw [z]; exact Nat.le_succ _
      · rw [z]; exact Nat.le_refl _
    exact I1.fpOk hle (I1.hok.fresh hle)
theorem walk_enumT {K : PySem.W.Frag} {a : Addr} {xs : List V} : Walk (IteT K a) xs.length (fun H => SqT K H a xs) (YPair (fun i => some (.int (i : Nat))) (fun i => xs[i]?)) := by
  refine ⟨fun i _ hi q => ⟨xs, xs[i], q, by simp [hi]⟩, fun _ q => ⟨xs, q, Nat.le_refl _⟩, fun i H v H' _ q y => ?_⟩
  obtain ⟨T, x, rfl, hT, rfl, f⟩ := y
  exact ⟨T, _, x, rfl, hT, rfl, rfl, f xs q⟩
end IvR
set_option Elab.async false
set_option linter.all false
set_option maxRecDepth 100000
/-! IvRules2: own rules: sum, max, min of a tuple of ints. -/
namespace IvR
open PySem PySem.Spec PyProof.Rows L2

section
variable {prog : Program} {w : World} {A : Around} {E : Value → Shared → Prop} {s : Shared} {a : Addr} {xs : Array (Int × Tok)}
theorem iterT {Q : Value → Shared → Prop} (hl : s.heap.IsTuple a (intItems xs))
    (h : ∀ s₂ : Shared, s₂ = { s with heap := s.heap.push { cls := .type "tuple_iterator", data := .fields #[.ref a, .int 0 0] } } →
      (s₂.heap.IsTupleIter s.heap.objs.size a 0 ∧ s₂.heap.IsTuple a (intItems xs)) → (∀ b ∈ [s.heap.objs.size, a], b < s₂.heap.objs.size) → a ≠ s.heap.objs.size → Q (.ref s.heap.objs.size) s₂) :
    wpAny (model prog w) A (pyIter (.ref a)) Q E s := by
  have hlt : a < s.heap.objs.size := by obtain ⟨_, e, _⟩ := hl; exact Heap.lt_size e
  refine wpAny_pyIter_tuple hl (h _ rfl ⟨⟨_, Heap.get?_push_size _ rfl, rfl, rfl⟩, hl.at fun o e => Heap.get?_push_of_some _ e⟩ (fun b hb => ?_) (Nat.ne_of_lt hlt))
  show b < (s.heap.push _).objs.size
  rw [Heap.size_push]
  rcases (show b = s.heap.objs.size ∨ b = a by simpa using hb) with z | z
  · rw [z]; exact Nat.lt_succ_self _
  · rw [z]; exact Nat.lt_succ_of_lt hlt
theorem keptT {h' : Heap} (hk : ∀ b o, b ∉ [s.heap.objs.size] → (s.heap.push { cls := .type "tuple_iterator", data := .fields #[.ref a, .int 0 0] }).get? b = some o → h'.get? b = some o) :
    ∀ b o, s.heap.get? b = some o → h'.get? b = some o := fun b o e =>
  hk b o (fun hm => Nat.lt_irrefl _ ((show b = s.heap.objs.size by simpa using hm) ▸ Heap.lt_size e)) (Heap.get?_push_of_some _ e)
theorem sumT0 {Q : Value → Shared → Prop} (hh : A.handled = none) (hl : s.heap.IsTuple a (intItems xs))
    (h : ∀ h' tk t', (∀ b o, s.heap.get? b = some o → h'.get? b = some o) → Q (.int (preSum (numAt xs) xs.size) t') { s with heap := h', toks := tk }) : wpAny (model prog w) A (call (.builtin "sum") [.ref a]) Q E s := by
  refine call_sum_walkG (iterT hl fun s₂ e st hfp hlI => ?_)
  subst e
  refine ⟨_, _, _, _, _, _, numAt xs, rfl, Walks.tuple (A := A.in1) hh _ a hlI (intItems xs), st, hfp, (fun _ _ => intItems_at), fun h' tk t' hk => ?_⟩
  have := h h' tk t' (keptT hk)
  simpa [intItems] using this
theorem maxT0 {Q : Value → Shared → Prop} (hh : A.handled = none) (hl : s.heap.IsTuple a (intItems xs)) (hne : 0 < xs.size)
    (h : ∀ v h' tk, (intItems xs)[argBest (fun i j => decide (numAt xs i > numAt xs j)) (xs.size - 1)]? = some v → (∀ b o, s.heap.get? b = some o → h'.get? b = some o) → Q v { s with heap := h', toks := tk }) :
    wpAny (model prog w) A (call (.builtin "max") [.ref a]) Q E s := by
  refine call_max_walk (iterT hl fun s₂ e st hfp hlI => ?_)
  subst e
  refine ⟨_, _, _, _, _, _, _, rfl, Walks.tuple (A := A.in1) hh _ a hlI (intItems xs), st, hfp, by simpa [intItems] using hne, CmpOf.ints_gt (numAt xs) (fun _ _ => intItems_at), fun v h' tk hP hk => ?_⟩
  exact h v h' tk (by simpa [intItems] using hP) (keptT hk)
theorem minT0 {Q : Value → Shared → Prop} (hh : A.handled = none) (hl : s.heap.IsTuple a (intItems xs)) (hne : 0 < xs.size)
    (h : ∀ v h' tk, (intItems xs)[argBest (fun i j => decide (numAt xs i < numAt xs j)) (xs.size - 1)]? = some v → (∀ b o, s.heap.get? b = some o → h'.get? b = some o) → Q v { s with heap := h', toks := tk }) :
    wpAny (model prog w) A (call (.builtin "min") [.ref a]) Q E s := by
  refine call_min_walk (iterT hl fun s₂ e st hfp hlI => ?_)
  subst e
  refine ⟨_, _, _, _, _, _, _, rfl, Walks.tuple (A := A.in1) hh _ a hlI (intItems xs), st, hfp, by simpa [intItems] using hne, CmpOf.ints_lt (numAt xs) (fun _ _ => intItems_at), fun v h' tk hP hk => ?_⟩
  exact h v h' tk (by simpa [intItems] using hP) (keptT hk)
variable {its : List Value} {ns : List Int} {Q : Value → Shared → Prop}
theorem sumT (hh : A.handled = none) (hl : s.heap.IsTuple a its.toArray) (hi : IntsAre its ns) (h : ∀ h' tk t', (∀ b o, s.heap.get? b = some o → h'.get? b = some o) → Q (.int ns.sum t') { s with heap := h', toks := tk }) :
    wpAny (model prog w) A (call (.builtin "sum") [.ref a]) Q E s := by
  obtain ⟨xs, e⟩ := hi.allInts.items
  have hn : numsOf (intItems xs).toList = ns := by rw [← e]; exact hi.numsOf
  rw [nums_intItems] at hn
  rw [e] at hl
  refine sumT0 hh hl fun h' tk t' hk => ?_
  have := h h' tk t' hk
  rw [preSum_eq, List.take_of_length_le (by simp), hn]; exact this
theorem maxT (hh : A.handled = none) (hl : s.heap.IsTuple a its.toArray) (hi : IntsAre its ns) (hne : 0 < ns.length)
    (h : ∀ h' tk M t', (∀ b o, s.heap.get? b = some o → h'.get? b = some o) → M ∈ ns → (∀ x, x ∈ ns → x ≤ M) → Q (.int M t') { s with heap := h', toks := tk }) : wpAny (model prog w) A (call (.builtin "max") [.ref a]) Q E s := by
  obtain ⟨xs, e⟩ := hi.allInts.items
  have hn : numsOf (intItems xs).toList = ns := by rw [← e]; exact hi.numsOf
  rw [nums_intItems] at hn
  subst hn
  rw [e] at hl
  have hsz : 0 < xs.size := by simpa using hne
  refine maxT0 hh hl hsz fun v h' tk hv hk => ?_
  obtain ⟨t, rfl⟩ := intItems_at hv
  obtain ⟨h1, h2⟩ := argBest_gt (numAt xs) (xs.size - 1)
  refine h h' tk _ t hk ?_ fun x hx => ?_
  · rw [numAt_eq]; exact PySem.getD_mem (by rw [List.length_map, Array.length_toList]; omega)
  · obtain ⟨j, hj, rfl⟩ := mem_getD hx
    rw [List.length_map, Array.length_toList] at hj
    rw [← numAt_eq]; exact h2 j (by omega)
theorem minT (hh : A.handled = none) (hl : s.heap.IsTuple a its.toArray) (hi : IntsAre its ns) (hne : 0 < ns.length)
    (h : ∀ h' tk M t', (∀ b o, s.heap.get? b = some o → h'.get? b = some o) → M ∈ ns → (∀ x, x ∈ ns → M ≤ x) → Q (.int M t') { s with heap := h', toks := tk }) : wpAny (model prog w) A (call (.builtin "min") [.ref a]) Q E s := by
  obtain ⟨xs, e⟩ := hi.allInts.items
  have hn : numsOf (intItems xs).toList = ns := by rw [← e]; exact hi.numsOf
  rw [nums_intItems] at hn
  subst hn
  rw [e] at hl
  have hsz : 0 < xs.size := by simpa using hne
  refine minT0 hh hl hsz fun v h' tk hv hk => ?_
  obtain ⟨t, rfl⟩ := intItems_at hv
  obtain ⟨h1, h2⟩ := argBest_lt (numAt xs) (xs.size - 1)
  refine h h' tk _ t hk ?_ fun x hx => ?_
  · rw [numAt_eq]; exact PySem.getD_mem (by rw [List.length_map, Array.length_toList]; omega)
  · obtain ⟨j, hj, rfl⟩ := mem_getD hx
    rw [List.length_map, Array.length_toList] at hj
    rw [← numAt_eq]; exact h2 j (by omega)
end
variable {X : Cx}
def rSumT (K : PySem.W.Frag) : List V → Hp → VK → Prop := fun vs H Q => ∃ (a : Addr) (ns : List Int), vs = [V.ref a] ∧ SqT K H a (ns.map V.int) ∧ Q (.int ns.sum) H
def rMaxT (K : PySem.W.Frag) : List V → Hp → VK → Prop := fun vs H Q => ∃ (a : Addr) (ns : List Int), vs = [V.ref a] ∧ SqT K H a (ns.map V.int) ∧ 0 < ns.length ∧ ∀ m, m ∈ ns → (∀ y, y ∈ ns → y ≤ m) → Q (.int m) H
def rMinT (K : PySem.W.Frag) : List V → Hp → VK → Prop := fun vs H Q => ∃ (a : Addr) (ns : List Int), vs = [V.ref a] ∧ SqT K H a (ns.map V.int) ∧ 0 < ns.length ∧ ∀ m, m ∈ ns → (∀ y, y ∈ ns → m ≤ y) → Q (.int m) H
theorem cr_sumT (hc : X.calm = true) : CallR X (.builtin "sum") (rSumT X.K) := by
  intro pins s σ H vs us Q I r h
  obtain ⟨a, ns, rfl, hs, q⟩ := h
  obtain ⟨its, rv, hl, _⟩ := I.tuple hs
  rw [Vals.ref1 r]
  exact sumT (I.ok.hd hc) hl rv.ints fun h' tk t' hk => ⟨.int _, H, I.kept hk, ⟨_, rfl⟩, q⟩
theorem cr_maxT (hc : X.calm = true) : CallR X (.builtin "max") (rMaxT X.K) := by
  intro pins s σ H vs us Q I r h
  obtain ⟨a, ns, rfl, hs, hne, q⟩ := h
  obtain ⟨its, rv, hl, _⟩ := I.tuple hs
  rw [Vals.ref1 r]
  exact maxT (I.ok.hd hc) hl rv.ints hne fun h' tk m t' hk h1 h2 => ⟨.int _, H, I.kept hk, ⟨_, rfl⟩, q m h1 h2⟩
theorem cr_minT (hc : X.calm = true) : CallR X (.builtin "min") (rMinT X.K) := by
  intro pins s σ H vs us Q I r h
  obtain ⟨a, ns, rfl, hs, hne, q⟩ := h
  obtain ⟨its, rv, hl, _⟩ := I.tuple hs
  rw [Vals.ref1 r]
  exact minT (I.ok.hd hc) hl rv.ints hne fun h' tk m t' hk h1 h2 => ⟨.int _, H, I.kept hk, ⟨_, rfl⟩, q m h1 h2⟩
end IvR
set_option Elab.async false
set_option linter.all false
set_option maxRecDepth 100000
/-! IvRules3: own rules: x in a tuple, by the data. -/
namespace IvR
open PySem PySem.Spec PyProof.Rows L2
variable {X : Cx}
def rInTD (K : PySem.W.Frag) : R2 := fun x y H Q => ∃ d ds, Dp K H x d ∧ Dp K H y (.tuple ds) ∧ SeqAt.shaped d = true ∧ SeqAt.shaped (.tuple ds) = true ∧ Q (.bl (ds.any fun z => PyData.eqv z d)) H
def rNotInTD (K : PySem.W.Frag) : R2 := fun x y H Q => ∃ d ds, Dp K H x d ∧ Dp K H y (.tuple ds) ∧ SeqAt.shaped d = true ∧ SeqAt.shaped (.tuple ds) = true ∧ Q (.bl (!ds.any fun z => PyData.eqv z d)) H
theorem op_inTD (hu : X.A.units + 65 < cLine) : OpR X (compareOp .In) (rInTD X.K) := by
  intro pins s σ H x y v u Q I rx ry h
  obtain ⟨d, ds, hd, he, sd, se, q⟩ := h
  obtain ⟨as, r1⟩ := Dp.reads I d x v hd rx
  obtain ⟨bs, r2⟩ := Dp.reads I (.tuple ds) y u he ry
  exact SeqAt.in_tuple_reads r2 r1 (SeqAt.canLay_of_shaped se) (SeqAt.canLay_of_shaped sd) (room_in_shaped sd hu) ⟨.bl _, H, I, rfl, q⟩
theorem op_notInTD (hu : X.A.units + 65 < cLine) : OpR X (compareOp .NotIn) (rNotInTD X.K) := by
  intro pins s σ H x y v u Q I rx ry h
  obtain ⟨d, ds, hd, he, sd, se, q⟩ := h
  obtain ⟨as, r1⟩ := Dp.reads I d x v hd rx
  obtain ⟨bs, r2⟩ := Dp.reads I (.tuple ds) y u he ry
  exact SeqAt.notIn_tuple_reads r2 r1 (SeqAt.canLay_of_shaped se) (SeqAt.canLay_of_shaped sd) (room_in_shaped sd hu) ⟨.bl _, H, I, rfl, q⟩
end IvR
set_option Elab.async false
set_option linter.all false
set_option maxRecDepth 100000
/-! IvRules4: own rules: sorted of a list of alike data; of a list of one. -/
namespace IvR
open PySem PySem.Spec PyProof.Rows L2
variable {X : Cx}
def rSortedD (K : PySem.W.Frag) : List V → Hp → VK → Prop := fun vs H Q => ∃ (a : Addr) (ys : List V) (ds : List PyData), vs = [V.ref a] ∧ SqL K H a ys ∧ DpAll K H ys ds ∧ PySem.W.AllAlike ds ∧ PySem.W.Sortable ds ∧ (∀ d ∈ ds, d.depth ≤ 60) ∧
  ∀ p, H p = none → Q (.ref p) (upd H p (.lst (((ys.zip ds).mergeSort (PySem.W.dataLe false Prod.snd)).map Prod.fst)))
def rSorted1 (K : PySem.W.Frag) : List V → Hp → VK → Prop := fun vs H Q => ∃ (a : Addr) (ys : List V), vs = [V.ref a] ∧ SqL K H a ys ∧ ys.length ≤ 1 ∧ ∀ p, H p = none → Q (.ref p) (upd H p (.lst ys))
theorem dpAll_each {s : Shared} {pins : List (Addr × Obj)} {σ : L2.St} {H : Hp} (I : Inv X pins σ H s) : ∀ {ys : List V} {ds : List PyData} {its : List Value}, DpAll X.K H ys ds → Vals ys its →
    PySem.W.EachIs (fun v (b : V × PyData) => RelV b.1 v) its (ys.zip ds) ∧ PySem.W.EachIs (fun v (b : V × PyData) => ∃ as, Reads s.heap v b.2 as) its (ys.zip ds) ∧ (ys.zip ds).map Prod.snd = ds
  | [], [], [], _, _ => ⟨.nil, .nil, rfl⟩
  | _ :: _, [], _, d, _ => by cases d
  | [], _ :: _, _, d, _ => by cases d
  | y :: ys, d :: ds, its, hd, hv => by
    cases hd with
    | cons h1 h2 =>
      cases hv with
      | cons r1 r2 =>
        obtain ⟨e1, e2, e3⟩ := dpAll_each I h2 r2
        exact ⟨.cons r1 e1, .cons (Dp.reads I d y _ h1 r1) e2, by simp [e3]⟩
theorem each_vals : ∀ {out : List Value} {zs : List (V × PyData)}, PySem.W.EachIs (fun v (b : V × PyData) => RelV b.1 v) out zs → Vals (zs.map Prod.fst) out
  | _, _, .nil => .nil
  | _, _, .cons r t => .cons r (each_vals t)
theorem cr_sortedD (hu : X.A.units + 65 < cLine) : CallR X (.builtin "sorted") (rSortedD X.K) := by
  intro pins s σ H vs us Q I r h
  obtain ⟨a, ys, ds, rfl, hs, hd, hal, hk, hdep, q⟩ := h
  obtain ⟨its, rv, hl, hz⟩ := I.list hs
  rw [Vals.ref1 r]
  obtain ⟨e1, e2, e3⟩ := dpAll_each I hd rv
  have hlen : (ys.zip ds).length = ys.length := by
    rw [← e1.length, rv.length]
  refine PySem.W.sorted_data (enc := Prod.snd) (bs := ys.zip ds) (R := fun v b => RelV b.1 v) hl.isList e1 e2 (by rw [e3]; exact hal) (by rw [e3]; exact hk) (by rw [hlen]; exact hz) (fun b hb => ?_) fun out ho hout => ?_
  · have := hdep b.2 (by rw [← e3]; exact List.mem_map.mpr ⟨b, hb, rfl⟩)
    omega
  · obtain ⟨ep, he'⟩ := PyProof.Rows.sortedAll_at s.heap its out.toArray
    have v := each_vals hout
    have hz' : (((ys.zip ds).mergeSort (PySem.W.dataLe false Prod.snd)).map Prod.fst).length ≤ sizeLine := by
      rw [List.length_map, List.length_mergeSort, hlen]; exact hz
    exact ⟨.ref _, upd H (s.heap.objs.size + 1) (.lst (((ys.zip ds).mergeSort (PySem.W.dataLe false Prod.snd)).map Prod.fst)), I.laid (t' := s.toks) (fun _ _ => PyProof.Rows.sortedAll_old) (Nat.le_succ _) ⟨hz', out, ep, v, he'⟩, rfl, q _ (I.hok.fresh (Nat.le_succ _))⟩
theorem cr_sorted1 : CallR X (.builtin "sorted") (rSorted1 X.K) := by
  intro pins s σ H vs us Q I r h
  obtain ⟨a, ys, rfl, hs, h1, q⟩ := h
  obtain ⟨its, rv, hl, hz⟩ := I.list hs
  rw [Vals.ref1 r]
  have hlen := rv.length
  refine SrtO.sorted_ord (ltv := fun _ _ => false) ⟨fun _ _ h => (nomatch h), fun _ _ _ _ _ => rfl⟩ hl.isList (by rw [← rv.length]; exact hz) (fun h2 => absurd h2 (by omega)) fun out o1 o2 => ?_
  have hp := o2.perm
  have ho : out = its := by
    match its, hlen, hp with
    | [], _, hp => exact List.perm_nil.mp hp
    | [x], _, hp => exact List.perm_singleton.mp hp
    | _ :: _ :: _, hlen, _ => simp at hlen; omega
  obtain ⟨ep, he'⟩ := PyProof.Rows.sortedAll_at s.heap its out.toArray
  exact ⟨.ref _, upd H (s.heap.objs.size + 1) (.lst ys), I.laid (t' := s.toks) (fun _ _ => PyProof.Rows.sortedAll_old) (Nat.le_succ _) ⟨hz, out, ep, by rw [ho]; exact rv, he'⟩, rfl, q _ (I.hok.fresh (Nat.le_succ _))⟩
end IvR
namespace IvR
open PySem PySem.Spec PySem.Calls PyProof.Rows PySem.W
section
variable {prog : Program} {w : World} {A : Around} {E : Value → Shared → Prop} {s : Shared}
/-- the items of a tuple, taken into a list -/
theorem taken_T {l : Addr} {vs : List Value} {Q : List Value → Shared → Prop} (hl : s.heap.IsTuple l vs.toArray) (hsz : vs.length ≤ sizeLine)
    (h : Q vs { s with heap := (s.heap.push (seqObj "list" #[] 0)).update s.heap.objs.size (Obj.mapSeq (· ++ vs.toArray)) }) : wpAny (model prog w) A (collect (.ref l)) Q E s := by
  obtain ⟨o, ho, hc, n, hd⟩ := hl
  have hn : (s.heap.push (seqObj "list" #[] 0)).get? s.heap.objs.size = some (seqObj "list" #[] 0) := Heap.get?_push_size _ rfl
  have hp : (s.heap.push (seqObj "list" #[] 0)).get? l = some o := Heap.get?_push_of_some _ ho
  have e0 : ((#[] : Array Value) ++ vs.toArray).toList = vs := by simp
  unfold collect
  refine wpAny_bind (wpAny_runValue (codeAny_builtin entry_proto_collect' ?_)); show wpAny _ _ (do again (.builtin "list.__iadd__" ⟨[← newList [], .ref l], []⟩)) _ _ s
  refine wpAny_bind (wpAny_newList (wpAny_pure ⟨Code.quiet_builtin _ (by decide +kernel), codeAny_builtin entry_list_iadd' ?_⟩)); show wpAny _ _ (Builtin.List.listExtendWith (.ref s.heap.objs.size) (.ref l) (.ref s.heap.objs.size)) _ _ { s with heap := s.heap.push (seqObj "list" #[] 0) }
  unfold Builtin.List.listExtendWith
  refine wpAny_bind (wpAny_typeOf (T := "tuple") ⟨o, hp, hc⟩ ?_)
  rw [if_pos (by rw [show (Value.type "tuple" == Value.type "tuple") = true from rfl]; simp)]
  refine wpAny_bind (listItems_at hp hd ?_); refine wpAny_bind (listItems_at (xs := #[]) (n := 0) hn rfl ?_); rw [if_neg (by simp)]
  refine wpAny_bind (listUpdate_at (xs := #[]) (n := 0) hn rfl ?_ (Nat.zero_le _) (by show (#[] ++ vs.toArray).size ≤ sizeLine + 1; simp only [Array.size_append, List.size_toArray, List.length_nil]; omega)); refine wpAny_pure ?_
  show wpAny (model prog w) A (do
      let u ← load s.heap.objs.size
      match u.data with
      | .seq xs _ => pure xs.toList
      | _ => unsupported "internal:collect") Q E { s with heap := (s.heap.push (seqObj "list" #[] 0)).update s.heap.objs.size (Obj.mapSeq (· ++ vs.toArray)) }
  refine wpAny_bind (wpAny_load (get?_update_seq hn _) ?_)
  show wpAny _ _ (pure ((#[] : Array Value) ++ vs.toArray).toList) Q E _; rw [e0]; exact wpAny_pure h
/-- sorted of a tuple is a sort of a new list of its items -/
theorem sorted_T {l : Addr} {vs : List Value} {Q : Value → Shared → Prop} (hl : s.heap.IsTuple l vs.toArray) (hL : vs.length ≤ sizeLine)
    (body : ∀ E' : Value → Shared → Prop, wpAny (model prog w) A.in1.in1 (Builtin.«list.sort» ⟨[.ref (s.heap.objs.size + 1)], []⟩) (fun f s' => f = .done (.ret .none) ∧ Q (.ref (s.heap.objs.size + 1)) s') E' { s with heap := copyHeap s.heap vs }) :
    wpAny (model prog w) A (call (.builtin "sorted") [.ref l]) Q E s := by
  have hz : ((s.heap.push (seqObj "list" #[] 0)).update s.heap.objs.size (Obj.mapSeq (· ++ vs.toArray))).objs.size = s.heap.objs.size + 1 := by rw [Heap.size_update, size_push']
  refine call_function_entry_kw kind_sorted plain_sorted entry_sorted (args_sorted1 _) ?_; unfold Builtin.«sorted»
  refine wpAny_bind (m := checkCount "sorted" 1 1 _) (wpAny_pure ?_); refine wpAny_bind (taken_T hl hL ?_); refine wpAny_bind (wpAny_newList ?_ hL)
  show wpAny _ _ _ _ _ { s with heap := copyHeap s.heap vs }; rw [hz]
  refine wpAny_bind (wpAny_holding (wpAny_call_entry_kw slot_list_sort ⟨_, copyHeap_at s.heap vs, rfl⟩ entry_list_sort ?go (args_list_sort _)))
  case go =>
    show wpAny (model prog w) A.in1.in1 (Builtin.«list.sort» ⟨[.ref (s.heap.objs.size + 1)], []⟩) _ _ _
    exact wpAny_mono (body _) (fun f s' hf => by obtain ⟨rfl, hq⟩ := hf; exact ⟨_, rfl, wpAny_pure ⟨_, rfl, hq⟩⟩) fun _ _ e => e
theorem sorted_dataT {β : Type} {vs : List Value} {bs : List β} {enc : β → PyData} {R : Value → β → Prop} {l : Addr} {Q : Value → Shared → Prop} (hl : s.heap.IsTuple l vs.toArray) (e : EachIs R vs bs) (er : EachIs (fun v b => ∃ as, Reads s.heap v (enc b) as) vs bs) (hal : AllAlike (bs.map enc)) (hk : Sortable (bs.map enc)) (hL : bs.length ≤ sizeLine)
    (hu : ∀ b, b ∈ bs → A.units + 2 + (enc b).depth < cLine) (h : ∀ out, out.length = bs.length → EachIs R out (bs.mergeSort (dataLe false enc)) → Q (.ref (s.heap.objs.size + 1)) { s with heap := sortedAll s.heap vs (List.toArray out) }) :
    wpAny (model prog w) A (call (.builtin "sorted") [.ref l]) Q E s := by
  have er' : EachIs (fun v b => ∃ as, Reads (sortingHeap (copyHeap s.heap vs) (s.heap.objs.size + 1) vs) v (enc b) as) vs bs := er.mono fun _ _ ⟨as, r⟩ => ⟨as, PyProof.Rows.Reads.keeps (fun _ _ => sorting_copy_old) r⟩
  have S := SortsAt.data (prog := prog) (w := w) (A := A.in1.in1) (s := { s with heap := sortingHeap (copyHeap s.heap vs) (s.heap.objs.size + 1) vs }) (each_map (R := fun v d => ∃ as, Reads (sortingHeap (copyHeap s.heap vs) (s.heap.objs.size + 1) vs) v d as) enc er') hal hk (bound_map hu)
  have z : vs.length ≤ sizeLine := by rw [e.length]; exact hL
  exact sorted_T hl z fun _ => list_sort_vals (s := { s with heap := copyHeap s.heap vs }) (copyHeap_at s.heap vs) S z ⟨rfl, h _ (by rw [sortVals_length false rfl]; exact e.length) (sortVals_data false e er' hal)⟩
end
end IvR
namespace IvR
open PySem PySem.Spec PyProof.Rows L2
variable {X : Cx}
def rSortedT (K : PySem.W.Frag) : List V → Hp → VK → Prop := fun vs H Q => ∃ (a : Addr) (ys : List V) (ds : List PyData), vs = [V.ref a] ∧ SqT K H a ys ∧ DpAll K H ys ds ∧ PySem.W.AllAlike ds ∧ PySem.W.Sortable ds ∧ (∀ d ∈ ds, d.depth ≤ 60) ∧
  ∀ p, H p = none → Q (.ref p) (upd H p (.lst (((ys.zip ds).mergeSort (PySem.W.dataLe false Prod.snd)).map Prod.fst)))
theorem cr_sortedT (hu : X.A.units + 65 < cLine) : CallR X (.builtin "sorted") (rSortedT X.K) := by
  intro pins s σ H vs us Q I r h
  obtain ⟨a, ys, ds, rfl, hs, hd, hal, hk, hdep, q⟩ := h
  obtain ⟨its, rv, hl, hz⟩ := I.tuple hs
  rw [Vals.ref1 r]
  obtain ⟨e1, e2, e3⟩ := dpAll_each I hd rv
  have hlen : (ys.zip ds).length = ys.length := by
    rw [← e1.length, rv.length]
  have hl' : s.heap.IsTuple a its.toArray := by
    obtain ⟨o, h1, h2, n, h3⟩ := hl
    exact ⟨o, h1, h2, n, h3⟩
  refine sorted_dataT (enc := Prod.snd) (bs := ys.zip ds) (R := fun v b => RelV b.1 v) hl' e1 e2 (by rw [e3]; exact hal) (by rw [e3]; exact hk) (by rw [hlen]; exact hz) (fun b hb => ?_) fun out ho hout => ?_
  · have := hdep b.2 (by rw [← e3]; exact List.mem_map.mpr ⟨b, hb, rfl⟩)
    omega
  · obtain ⟨ep, he'⟩ := PyProof.Rows.sortedAll_at s.heap its out.toArray
    have v := each_vals hout
    have hz' : (((ys.zip ds).mergeSort (PySem.W.dataLe false Prod.snd)).map Prod.fst).length ≤ sizeLine := by
      rw [List.length_map, List.length_mergeSort, hlen]; exact hz
    exact ⟨.ref _, upd H (s.heap.objs.size + 1) (.lst (((ys.zip ds).mergeSort (PySem.W.dataLe false Prod.snd)).map Prod.fst)), I.laid (t' := s.toks) (fun _ _ => PyProof.Rows.sortedAll_old) (Nat.le_succ _) ⟨hz', out, ep, v, he'⟩, rfl, q _ (I.hok.fresh (Nat.le_succ _))⟩
end IvR
set_option Elab.async false
set_option linter.all false
set_option maxRecDepth 100000
/-! IvRules5: own rules over the hand layer: len of a dict; the keys of a walk, each once. -/
namespace IvR
open PySem PySem.Spec PyProof.Rows L2
theorem call_lenD {X : Cx} : CallR X (.builtin "len") (fun xs H Q => ∃ a kvs, xs = [.ref a] ∧ Rd H a (.dK kvs) ∧ Q (.int kvs.length) H) := by
  intro pins s σ H xs us Q I r h
  obtain ⟨a, kvs, rfl, e, q⟩ := h
  obtain ⟨u, rfl, rx⟩ := vals1 r
  cases rx
  exact d_len I e fun t s' I' => ⟨.int kvs.length, H, I', ⟨t, rfl⟩, q⟩
theorem keys_put {κ : Type} [DecidableEq κ] (kvs : List (κ × V)) (k : κ) (v : V) : (putK kvs k v).map (·.1) = if k ∈ kvs.map (·.1) then kvs.map (·.1) else kvs.map (·.1) ++ [k] := by
  unfold putK
  by_cases h : k ∈ kvs.map (·.1)
  · rw [if_pos h, if_pos (by
      obtain ⟨p, hp, rfl⟩ := List.mem_map.mp h
      exact List.any_eq_true.mpr ⟨p, hp, by simp⟩), List.map_map]
    refine List.map_congr_left fun p _ => ?_
    by_cases q : p.1 = k
    · simp [q]
    · simp [q]
  · rw [if_neg h, if_neg (fun z => h ?_)]
    · simp
    · obtain ⟨p, hp, q⟩ := List.any_eq_true.mp z
      exact List.mem_map.mpr ⟨p, hp, by simpa using q⟩
theorem dist_it {J : It} {n : Nat} {G : Hp → Prop} {Y : Nat → Hp → V → Hp → Prop} (w : Walk J n G Y) {σ : L2.St} {i : Nat} {H1 : Hp} {D : Addr} {Qd : Hp → Prop} (hi : i < σ.length) (Pv : Nat → Hp → Prop) (h0 : Pv 0 (upd H1 D (.dK [])))
    (hG : ∀ j H, j ≤ n → Pv j H → G H) (hw : ∀ x, wipe ((wipe σ [i]).set i (some x)) [i] = wipe σ [i])
    (hs : ∀ j x H H', j < n → Pv j H → Y j H x H' → ∃ kvs k, x = kV k ∧ H' D = some (.dK kvs) ∧ kvs.length < sizeLine ∧ Pv (j + 1) (upd H' D (.dK (putK kvs k (.bl true))))) (hd : ∀ H, Pv n H → Qd H) :
    ∃ W : Nat → Nat → Hp → Prop, (∃ m, W 0 m (upd H1 D (.dK []))) ∧ ∀ j m H, W j m H →
      (J.stop j H ∧ Qd H) ∨ (J.go j H ∧ ∃ Nx : Hp → Prop, (∀ H', Nx H' → ∃ m', m' < m ∧ W (j + 1) m' H') ∧ ∀ x H', J.yld j H x H' → gName i x (wipe σ [i]) H' fun σ2 H2 => wipe σ2 [i] = wipe σ [i] ∧ tYes σ2 H2 fun b H3 =>
        if b = true then tVar i σ2 H3 fun y H4 => tC (.bl true) σ2 H4 fun z H5 => ∃ kvs k, y = kV k ∧ H5 D = some (.dK kvs) ∧ kvs.length < sizeLine ∧ Nx (upd H5 D (.dK (putK kvs k z))) else Nx H3) := by
  refine ⟨fun j m H => j + m = n ∧ Pv j H, ⟨n, Nat.zero_add n, h0⟩, fun j m H ⟨hm, p⟩ => ?_⟩
  have g := hG j H (hm ▸ Nat.le_add_right j m) p
  rcases Nat.eq_zero_or_pos m with e | e
  · subst e
    rw [Nat.add_zero] at hm
    subst hm
    exact .inl ⟨w.stops H g, hd H p⟩
  · have hlt : j < n := by omega
    refine .inr ⟨w.goes j H hlt g, Pv (j + 1), fun H' p' => ⟨m - 1, Nat.sub_lt e Nat.one_pos, by omega, p'⟩, fun x H' y => ?_⟩
    obtain ⟨kvs, k, q1, q2, q3, q4⟩ := hs j x H H' hlt p (w.yields j H x H' hlt g y)
    refine ⟨hw x, ?_⟩
    unfold tYes
    simp only [if_true]
    exact ⟨x, by rw [List.getElem?_set_self (by rw [wipe_length]; exact hi)], kvs, k, q1, q2, q3, q4⟩
end IvR
set_option Elab.async false
set_option linter.all false
set_option maxRecDepth 100000
/-! IvSound1: values over the layer's heap: what stands for what (Rep), what a state stands for (SR), steps (Stp), results (Res). -/
namespace Iv
open PySem PySem.Spec PyProof.Rows
open L2 (V Hp HO SqL SqT upd upd_same upd_ne ne_of_none VK TE TA TT TI TS TG Cx Inv RelV Vals)

variable {K : PySem.W.Frag}

/-- a tuple that stands for good -/
def TupAt (K : PySem.W.Frag) (H : Hp) (a : Addr) (vs : List V) : Prop := H a = some (.tup vs) ∨ ∀ H', SqT K H' a vs
theorem TupAt.sq {H : Hp} {a : Addr} {vs : List V} (h : TupAt K H a vs) : SqT K H a vs := by
  rcases h with h | h
  · exact .inl (.inl h)
  · exact h H

mutual
inductive Rep (K : PySem.W.Frag) (H : Hp) : V → D → List Addr → Prop
  | none : Rep K H .non .none []
  | bool (b : Bool) : Rep K H (.bl b) (.bool b) []
  | int (i : Int) : Rep K H (.int i) (.int i) []
  | str (x : Str) : Rep K H (.str x) (.str x) []
  | list {a : Addr} {vs : List V} {xs : List D} {Fs : List (List Addr)} : H a = some (.lst vs) → RepL K H vs xs Fs → Rep K H (.ref a) (.list xs) (a :: Fs.flatten)
  | tuple {a : Addr} {vs : List V} {xs : List D} {Fs : List (List Addr)} : TupAt K H a vs → RepL K H vs xs Fs → Rep K H (.ref a) (.tuple xs) Fs.flatten
inductive RepL (K : PySem.W.Frag) (H : Hp) : List V → List D → List (List Addr) → Prop
  | nil : RepL K H [] [] []
  | cons {v : V} {vs : List V} {x : D} {xs : List D} {F : List Addr} {Fs : List (List Addr)} : Rep K H v x F → RepL K H vs xs Fs → RepL K H (v :: vs) (x :: xs) (F :: Fs)
end

/-- the cells of F and all tuples stay -/
def Kp (F : List Addr) (H H' : Hp) : Prop := (∀ a ∈ F, ∀ o, H a = some o → H' a = some o) ∧ ∀ a vs, H a = some (.tup vs) → H' a = some (.tup vs)
theorem Kp.refl (F : List Addr) (H : Hp) : Kp F H H := ⟨fun _ _ _ h => h, fun _ _ h => h⟩
theorem Kp.sub {F F' : List Addr} {H H' : Hp} (k : Kp F H H') (h : ∀ a ∈ F', a ∈ F) : Kp F' H H' := ⟨fun a ha => k.1 a (h a ha), k.2⟩
theorem Kp.trans {F : List Addr} {H H1 H2 : Hp} (k : Kp F H H1) (l : Kp F H1 H2) : Kp F H H2 := ⟨fun a ha o e => l.1 a ha o (k.1 a ha o e), fun a vs e => l.2 a vs (k.2 a vs e)⟩
theorem Kp.of_same {F : List Addr} {H H' : Hp} (h : ∀ a o, H a = some o → H' a = some o) : Kp F H H' := ⟨fun a _ o e => h a o e, fun a vs e => h a _ e⟩
theorem TupAt.kp {H H' : Hp} {F : List Addr} {a : Addr} {vs : List V} (h : TupAt K H a vs) (k : Kp F H H') : TupAt K H' a vs := by
  rcases h with h | h
  · exact .inl (k.2 _ _ h)
  · exact .inr h

mutual
theorem Rep.kp {H H' : Hp} : ∀ {v : V} {d : D} {F : List Addr}, Rep K H v d F → Kp F H H' → Rep K H' v d F
  | _, _, _, .none, _ => .none
  | _, _, _, .bool b, _ => .bool b
  | _, _, _, .int i, _ => .int i
  | _, _, _, .str x, _ => .str x
  | _, _, _, .list e r, k => .list (k.1 _ List.mem_cons_self _ e) (RepL.kp r (k.sub fun _ h => List.mem_cons_of_mem _ h))
  | _, _, _, .tuple e r, k => .tuple (e.kp k) (RepL.kp r k)
theorem RepL.kp {H H' : Hp} : ∀ {vs : List V} {ds : List D} {Fs : List (List Addr)}, RepL K H vs ds Fs → Kp Fs.flatten H H' → RepL K H' vs ds Fs
  | _, _, _, .nil, _ => .nil
  | _, _, _, .cons r t, k => .cons (Rep.kp r (k.sub fun _ h => by simp [h])) (RepL.kp t (k.sub fun _ h => by simp only [List.flatten_cons, List.mem_append]; exact .inr h))
end
mutual
theorem Rep.there {H : Hp} : ∀ {v : V} {d : D} {F : List Addr}, Rep K H v d F → ∀ a ∈ F, ∃ vs, H a = some (.lst vs)
  | _, _, _, .none, _, h => nomatch h
  | _, _, _, .bool b, _, h => nomatch h
  | _, _, _, .int i, _, h => nomatch h
  | _, _, _, .str x, _, h => nomatch h
  | _, _, _, .list e r, a, h => by
    rcases List.mem_cons.mp h with z | z
    · exact ⟨_, z ▸ e⟩
    · exact RepL.there r a z
  | _, _, _, .tuple e r, a, h => RepL.there r a h
theorem RepL.there {H : Hp} : ∀ {vs : List V} {ds : List D} {Fs : List (List Addr)}, RepL K H vs ds Fs → ∀ a ∈ Fs.flatten, ∃ vs, H a = some (.lst vs)
  | _, _, _, .nil, _, h => nomatch h
  | _, _, _, .cons r t, a, h => by
    simp only [List.flatten_cons, List.mem_append] at h
    rcases h with z | z
    · exact Rep.there r a z
    · exact RepL.there t a z
end
mutual
theorem Rep.lf_nil {H : Hp} : ∀ {v : V} {d : D} {F : List Addr}, Rep K H v d F → lf d = true → F = []
  | _, _, _, .none, _ => rfl
  | _, _, _, .bool b, _ => rfl
  | _, _, _, .int i, _ => rfl
  | _, _, _, .str x, _ => rfl
  | _, _, _, .list e r, h => by simp [lf] at h
  | _, _, _, .tuple e r, h => RepL.lfs_nil r (by simpa [lf] using h)
theorem RepL.lfs_nil {H : Hp} : ∀ {vs : List V} {ds : List D} {Fs : List (List Addr)}, RepL K H vs ds Fs → lfs ds = true → Fs.flatten = []
  | _, _, _, .nil, _ => rfl
  | _, _, _, .cons r t, h => by
    simp only [lfs, Bool.and_eq_true] at h
    simp [Rep.lf_nil r h.1, RepL.lfs_nil t h.2]
end
theorem RepL.len {H : Hp} : ∀ {vs : List V} {ds : List D} {Fs : List (List Addr)}, RepL K H vs ds Fs → vs.length = ds.length ∧ Fs.length = ds.length
  | _, _, _, .nil => ⟨rfl, rfl⟩
  | _, _, _, .cons _ t => by simp [RepL.len t]
theorem RepL.get {H : Hp} : ∀ {vs : List V} {ds : List D} {Fs : List (List Addr)} {i : Nat} {d : D}, RepL K H vs ds Fs → ds[i]? = some d → ∃ v F, vs[i]? = some v ∧ Fs[i]? = some F ∧ Rep K H v d F
  | _, _, _, _, _, .nil, e => by simp at e
  | _, _, _, 0, _, .cons r _, e => by simp at e; subst e; exact ⟨_, _, rfl, rfl, r⟩
  | _, _, _, i + 1, _, .cons _ t, e => by
    obtain ⟨v, F, h1, h2, h3⟩ := RepL.get (i := i) t (by simpa using e)
    exact ⟨v, F, by simpa using h1, by simpa using h2, h3⟩
theorem RepL.append {H : Hp} : ∀ {vs ws : List V} {ds es : List D} {Fs Gs : List (List Addr)}, RepL K H vs ds Fs → RepL K H ws es Gs → RepL K H (vs ++ ws) (ds ++ es) (Fs ++ Gs)
  | _, _, _, _, _, _, .nil, q => q
  | _, _, _, _, _, _, .cons r t, q => .cons r (RepL.append t q)
theorem RepL.take {H : Hp} : ∀ {vs : List V} {ds : List D} {Fs : List (List Addr)} (n : Nat), RepL K H vs ds Fs → RepL K H (vs.take n) (ds.take n) (Fs.take n)
  | _, _, _, 0, _ => .nil
  | _, _, _, _ + 1, .nil => .nil
  | _, _, _, n + 1, .cons r t => .cons r (RepL.take n t)
theorem RepL.drop {H : Hp} : ∀ {vs : List V} {ds : List D} {Fs : List (List Addr)} (n : Nat), RepL K H vs ds Fs → RepL K H (vs.drop n) (ds.drop n) (Fs.drop n)
  | _, _, _, 0, r => r
  | _, _, _, _ + 1, .nil => .nil
  | _, _, _, n + 1, .cons _ t => RepL.drop n t
theorem RepL.set {H : Hp} {v : V} {d : D} {F : List Addr} (r : Rep K H v d F) : ∀ {vs : List V} {ds : List D} {Fs : List (List Addr)} (i : Nat), RepL K H vs ds Fs → RepL K H (vs.set i v) (ds.set i d) (Fs.set i F)
  | _, _, _, _, .nil => .nil
  | _, _, _, 0, .cons _ t => .cons r t
  | _, _, _, i + 1, .cons q t => .cons q (RepL.set r i t)
theorem RepL.eraseIdx {H : Hp} : ∀ {vs : List V} {ds : List D} {Fs : List (List Addr)} (i : Nat), RepL K H vs ds Fs → RepL K H (vs.eraseIdx i) (ds.eraseIdx i) (Fs.eraseIdx i)
  | _, _, _, _, .nil => .nil
  | _, _, _, 0, .cons _ t => t
  | _, _, _, i + 1, .cons q t => .cons q (RepL.eraseIdx i t)
theorem RepL.reverse {H : Hp} : ∀ {vs : List V} {ds : List D} {Fs : List (List Addr)}, RepL K H vs ds Fs → RepL K H vs.reverse ds.reverse Fs.reverse
  | _, _, _, .nil => .nil
  | _, _, _, .cons r t => by simp only [List.reverse_cons]; exact (RepL.reverse t).append (.cons r .nil)
theorem RepL.ints {H : Hp} : ∀ {vs : List V} {ds : List D} {Fs : List (List Addr)} {ns : List Int}, RepL K H vs ds Fs → intsOf ds = some ns → vs = ns.map V.int ∧ Fs.flatten = []
  | _, _, _, _, .nil, e => by simp [intsOf] at e; subst e; exact ⟨rfl, rfl⟩
  | _, _, _, _, .cons r t, e => by
    cases r with
    | int i =>
      simp only [intsOf, Option.map_eq_some_iff] at e
      obtain ⟨q, e1, e2⟩ := e
      subst e2
      obtain ⟨h1, h2⟩ := RepL.ints t e1
      exact ⟨by simp [h1], by simpa using h2⟩
    | _ => simp [intsOf] at e
theorem RepL.bools {H : Hp} : ∀ {vs : List V} {ds : List D} {Fs : List (List Addr)} {bs : List Bool}, RepL K H vs ds Fs → boolsOf ds = some bs → vs = bs.map V.bl ∧ Fs.flatten = []
  | _, _, _, _, .nil, e => by simp [boolsOf] at e; subst e; exact ⟨rfl, rfl⟩
  | _, _, _, _, .cons r t, e => by
    cases r with
    | bool i =>
      simp only [boolsOf, Option.map_eq_some_iff] at e
      obtain ⟨q, e1, e2⟩ := e
      subst e2
      obtain ⟨h1, h2⟩ := RepL.bools t e1
      exact ⟨by simp [h1], by simpa using h2⟩
    | _ => simp [boolsOf] at e
theorem RepL.of_ints {H : Hp} : ∀ (ns : List Int), RepL K H (ns.map V.int) (ns.map PyData.int) (ns.map fun _ => [])
  | [] => .nil
  | n :: ns => .cons (.int n) (RepL.of_ints ns)
theorem flat_nil {α β : Type} : ∀ (ns : List α), (ns.map fun _ => ([] : List β)).flatten = []
  | [] => rfl
  | _ :: ns => by simp
/-- deep data of the layer -/
theorem SqL.of' {H : Hp} {a : Addr} {xs : List V} (h : H a = some (.lst xs)) : SqL K H a xs := .inl (.inl h)
mutual
theorem Rep.dp {H : Hp} : ∀ {v : V} {d : D} {F : List Addr}, Rep K H v d F → L2.Dp K H v d
  | _, _, _, .none => .non
  | _, _, _, .bool b => .bl b
  | _, _, _, .int i => .int i
  | _, _, _, .str x => .str x
  | _, _, _, .list e r => .lst (SqL.of' e) (RepL.dp r)
  | _, _, _, .tuple e r => .tup e.sq (RepL.dp r)
theorem RepL.dp {H : Hp} : ∀ {vs : List V} {ds : List D} {Fs : List (List Addr)}, RepL K H vs ds Fs → L2.DpAll K H vs ds
  | _, _, _, .nil => .nil
  | _, _, _, .cons r t => .cons (Rep.dp r) (RepL.dp t)
end

/-! ### states -/
def sl (s : St) (i : Nat) : Sl := s.1.getD i .no
def SlOk (K : PySem.W.Frag) (ah : Option Addr) (H : Hp) (o : Option (Option V)) : Sl → List Addr → Prop
  | .no, F => F = []
  | .sh d, F => ∃ x, o = some (some x) ∧ Rep K H x d F
  | .ow d, F => ∃ x, o = some (some x) ∧ Rep K H x d F
  | .hd, F => F = [] ∧ ∃ a, ah = some a ∧ o = some (some (.ref a))
def HandOk (K : PySem.W.Frag) (H : Hp) : Option Addr → G → List Addr → Prop
  | none, none, Fg => Fg = []
  | some a, some xs, Fg => ∃ vs Fs, H a = some (.lst vs) ∧ RepL K H vs xs Fs ∧ Fg = Fs.flatten ∧ a ∉ Fg
  | _, _, _ => False
abbrev Fp := Nat → List Addr
structure SR (K : PySem.W.Frag) (ah : Option Addr) (H0 : Hp) (σ : L2.St) (H : Hp) (s : St) (Fs : Fp) (Fg : List Addr) : Prop where
  len : σ.length = s.1.length
  slot : ∀ i, SlOk K ah H σ[i]? (sl s i) (Fs i)
  own : ∀ i d, sl s i = .ow d → (Fs i).Nodup ∧ ∀ a ∈ Fs i, H0 a = none ∧ a ∉ Fg ∧ ∀ j, j ≠ i → a ∉ Fs j
  noah : ∀ i, ∀ a ∈ Fs i, some a ≠ ah
  hand : HandOk K H ah s.2 Fg
  keep : ∀ a o, H0 a = some o → some a ≠ ah → H a = some o
theorem SlOk.there {ah : Option Addr} {H : Hp} {o : Option (Option V)} {x : Sl} {F : List Addr} (h : SlOk K ah H o x F) : ∀ a ∈ F, ∃ vs, H a = some (.lst vs) := by
  intro a ha
  cases x with
  | no => have e : F = [] := h; subst e; cases ha
  | sh d => obtain ⟨x, _, r⟩ := h; exact r.there a ha
  | ow d => obtain ⟨x, _, r⟩ := h; exact r.there a ha
  | hd => have e : F = [] := h.1; subst e; cases ha
theorem SlOk.kp {ah : Option Addr} {H H' : Hp} {o : Option (Option V)} {x : Sl} {F : List Addr} (h : SlOk K ah H o x F) (k : Kp F H H') : SlOk K ah H' o x F := by
  cases x with
  | no => exact h
  | sh d => obtain ⟨x, e, r⟩ := h; exact ⟨x, e, r.kp k⟩
  | ow d => obtain ⟨x, e, r⟩ := h; exact ⟨x, e, r.kp k⟩
  | hd => exact h
theorem HandOk.there {ah : Option Addr} {H : Hp} {g : G} {Fg : List Addr} (h : HandOk K H ah g Fg) : ∀ a ∈ Fg, ∃ vs, H a = some (.lst vs) := by
  intro a ha
  cases ah with
  | none =>
    cases g with
    | none => have e : Fg = [] := h; subst e; cases ha
    | some xs => exact h.elim
  | some b =>
    cases g with
    | none => exact h.elim
    | some xs => obtain ⟨vs, Fs, _, r, e, _⟩ := h; subst e; exact r.there a ha
theorem HandOk.noah {ah : Option Addr} {H : Hp} {g : G} {Fg : List Addr} (h : HandOk K H ah g Fg) : ∀ a ∈ Fg, some a ≠ ah := by
  intro a ha
  cases ah with
  | none => exact fun e => nomatch e
  | some b =>
    cases g with
    | none => exact h.elim
    | some xs => obtain ⟨vs, Fs, _, r, e, n⟩ := h; intro q; cases q; exact n ha
theorem HandOk.kp {ah : Option Addr} {H H' : Hp} {g : G} {Fg : List Addr} (h : HandOk K H ah g Fg) (k : Kp Fg H H') (ka : ∀ a, ah = some a → ∀ o, H a = some o → H' a = some o) : HandOk K H' ah g Fg := by
  cases ah with
  | none => cases g with
    | none => exact h
    | some xs => exact h.elim
  | some b => cases g with
    | none => exact h.elim
    | some xs => obtain ⟨vs, Fs, e, r, e2, n⟩ := h; subst e2; exact ⟨vs, Fs, ka b rfl _ e, r.kp k, rfl, n⟩
theorem HandOk.at_ {ah : Option Addr} {H : Hp} {g : G} {Fg : List Addr} (h : HandOk K H ah g Fg) {a : Addr} (e : ah = some a) : ∃ vs, H a = some (.lst vs) := by
  subst e
  cases g with
  | none => exact h.elim
  | some xs => obtain ⟨vs, Fs, e, _⟩ := h; exact ⟨vs, e⟩
/-- all objects are kept -/
theorem SR.same {ah : Option Addr} {H0 H H' : Hp} {σ : L2.St} {s : St} {Fs : Fp} {Fg : List Addr} (R : SR K ah H0 σ H s Fs Fg) (h : ∀ a o, H a = some o → H' a = some o) : SR K ah H0 σ H' s Fs Fg :=
  ⟨R.len, fun i => (R.slot i).kp (.of_same h), R.own, R.noah, R.hand.kp (.of_same h) fun a _ o e => h a o e, fun a o e n => h a o (R.keep a o e n)⟩
theorem SR.new {ah : Option Addr} {H0 H : Hp} {σ : L2.St} {s : St} {Fs : Fp} {Fg : List Addr} (R : SR K ah H0 σ H s Fs Fg) {a : Addr} (h : H a = none) (n : some a ≠ ah) : H0 a = none := by
  cases q : H0 a with
  | none => rfl
  | some o => rw [R.keep a o q n] at h; cases h
theorem SR.newah {ah : Option Addr} {H0 H : Hp} {σ : L2.St} {s : St} {Fs : Fp} {Fg : List Addr} (R : SR K ah H0 σ H s Fs Fg) {a : Addr} (h : H a = none) : some a ≠ ah := by
  intro e
  obtain ⟨vs, q⟩ := R.hand.at_ e.symm
  rw [h] at q; cases q
theorem SR.notFs {ah : Option Addr} {H0 H : Hp} {σ : L2.St} {s : St} {Fs : Fp} {Fg : List Addr} (R : SR K ah H0 σ H s Fs Fg) {a : Addr} (h : H a = none) (i : Nat) : a ∉ Fs i := by
  intro m
  obtain ⟨vs, q⟩ := (R.slot i).there a m
  rw [h] at q; cases q
theorem SR.notFg {ah : Option Addr} {H0 H : Hp} {σ : L2.St} {s : St} {Fs : Fp} {Fg : List Addr} (R : SR K ah H0 σ H s Fs Fg) {a : Addr} (h : H a = none) : a ∉ Fg := by
  intro m
  obtain ⟨vs, q⟩ := R.hand.there a m
  rw [h] at q; cases q

/-- what an expression may change: the hand, what it pops from -/
structure Stp (ah : Option Addr) (P : List Nat) (H : Hp) (s : St) (Fs : Fp) (Fg : List Addr) (H' : Hp) (s' : St) (Fs' : Fp) (Fg' : List Addr) : Prop where
  ext : ∀ a o, H a = some o → some a ≠ ah → (∀ i ∈ P, a ∉ Fs i) → H' a = some o
  tup : ∀ a vs, H a = some (.tup vs) → H' a = some (.tup vs)
  fs : ∀ i, i ∉ P → Fs' i = Fs i ∧ sl s' i = sl s i
  fsub : ∀ i, ∀ a ∈ Fs' i, a ∈ Fs i
  fg : ∀ a ∈ Fg', a ∈ Fg
  len : s'.1.length = s.1.length
  pow : ∀ i ∈ P, ∃ d, sl s i = .ow d
  there : ∀ a, H' a = none → H a = none
theorem Stp.refl {ah : Option Addr} {H : Hp} {s : St} {Fs : Fp} {Fg : List Addr} : Stp ah [] H s Fs Fg H s Fs Fg :=
  ⟨fun _ _ e _ _ => e, fun _ _ e => e, fun _ _ => ⟨rfl, rfl⟩, fun _ _ h => h, fun _ h => h, rfl, fun _ h => (nomatch h), fun _ e => e⟩
theorem Stp.same {ah : Option Addr} {H H' : Hp} {s : St} {Fs : Fp} {Fg : List Addr} (h : ∀ a o, H a = some o → H' a = some o) : Stp ah [] H s Fs Fg H' s Fs Fg :=
  ⟨fun a o e _ _ => h a o e, fun a _ e => h a _ e, fun _ _ => ⟨rfl, rfl⟩, fun _ _ h => h, fun _ h => h, rfl, fun _ h => (nomatch h), fun a e => by
    cases q : H a with
    | none => rfl
    | some o => rw [h a o q] at e; cases e⟩
theorem Stp.trans {ah : Option Addr} {P Q : List Nat} {H H1 H2 : Hp} {s s1 s2 : St} {Fs Fs1 Fs2 : Fp} {Fg Fg1 Fg2 : List Addr} (a : Stp ah P H s Fs Fg H1 s1 Fs1 Fg1) (b : Stp ah Q H1 s1 Fs1 Fg1 H2 s2 Fs2 Fg2) : Stp ah (P ++ Q) H s Fs Fg H2 s2 Fs2 Fg2 where
  ext := fun x o e n h => b.ext x o (a.ext x o e n fun i hi => h i (List.mem_append_left _ hi)) n fun i hi m => h i (List.mem_append_right _ hi) (a.fsub i x m)
  tup := fun x vs e => b.tup x vs (a.tup x vs e)
  fs := fun i hi => by
    have h1 := a.fs i fun z => hi (List.mem_append_left _ z)
    have h2 := b.fs i fun z => hi (List.mem_append_right _ z)
    exact ⟨h2.1.trans h1.1, h2.2.trans h1.2⟩
  fsub := fun i x m => a.fsub i x (b.fsub i x m)
  fg := fun x m => a.fg x (b.fg x m)
  len := b.len.trans a.len
  pow := fun i hi => by
    rcases List.mem_append.mp hi with z | z
    · exact a.pow i z
    · by_cases hp : i ∈ P
      · exact a.pow i hp
      · obtain ⟨d, e⟩ := b.pow i z
        exact ⟨d, (a.fs i hp).2 ▸ e⟩
  there := fun x e => a.there x (b.there x e)
/-- a thing apart from the hand and from what is popped stays -/
theorem Stp.kp {ah : Option Addr} {P : List Nat} {H H' : Hp} {s s' : St} {Fs Fs' : Fp} {Fg Fg' : List Addr} (a : Stp ah P H s Fs Fg H' s' Fs' Fg') {F : List Addr} (h1 : ∀ x ∈ F, some x ≠ ah) (h2 : ∀ i ∈ P, ∀ x ∈ F, x ∉ Fs i) : Kp F H H' :=
  ⟨fun x hx o e => a.ext x o e (h1 x hx) fun i hi => h2 i hi x hx, a.tup⟩

/-- what is handed back: seen from the state ahead (H, Fs, Fg) -/
structure Res (K : PySem.W.Frag) (ah : Option Addr) (H0 : Hp) (M : Nat → Bool) (P : List Nat) (H : Hp) (Fs : Fp) (Fg : List Addr) (fr : Prop) (H' : Hp) (Fs' : Fp) (Fg' : List Addr) (F : List Addr) : Prop where
  noah : ∀ a ∈ F, some a ≠ ah
  frame : ∀ a ∈ F, H a = none ∨ (∃ i, M i = true ∧ a ∈ Fs i) ∨ a ∈ Fg
  fresh : fr → F.Nodup ∧ ∀ a ∈ F, H0 a = none ∧ a ∉ Fg' ∧ (∀ j, a ∉ Fs' j) ∧ (H a = none ∨ ∃ i ∈ P, a ∈ Fs i)
theorem Res.nil {ah : Option Addr} {H0 H H' : Hp} {M : Nat → Bool} {P : List Nat} {Fs Fs' : Fp} {Fg Fg' : List Addr} {fr : Prop} : Res K ah H0 M P H Fs Fg fr H' Fs' Fg' [] :=
  ⟨fun _ h => (nomatch h), fun _ h => (nomatch h), fun _ => ⟨.nil, fun _ h => (nomatch h)⟩⟩
end Iv
set_option Elab.async false
set_option linter.all false
set_option maxRecDepth 100000
set_option maxHeartbeats 4000000
/-! IvSound2: the readings of terms; arguments in a row; an operation by values. -/
namespace Iv
open PySem PySem.Spec PyProof.Rows
open L2 (V Hp HO SqL SqT upd upd_same upd_ne ne_of_none VK TE TA TT TI TS TG Cx Inv RelV Vals PE PT PA OpR UnR CallR IxR SlR)

variable {K : PySem.W.Frag} {F : Fns}

theorem E.fr_fresh : ∀ (e : E) (v : D), e.fr = true → e.fresh v = true
  | .cst _, v, _ => by cases v <;> rfl
  | .var _, _, h => by simp [E.fr] at h
  | .op o es, v, h => by
    unfold E.fr at h
    unfold E.fresh
    cases ha : atomOp o with
    | true => rfl
    | false =>
      rw [ha] at h
      simp only [Bool.false_or] at h
      simp [h]
  | .and _ _, v, _ => by cases v <;> rfl
  | .or _ _, v, _ => by cases v <;> rfl
  | .not _, v, _ => by cases v <;> rfl
  | .ifx _ a b, v, h => by
    unfold E.fr at h
    unfold E.fresh
    simp only [Bool.and_eq_true] at h
    rw [E.fr_fresh a v h.1, E.fr_fresh b v h.2]; rfl
  | .chain _ _ _ _ _, v, _ => by cases v <;> rfl
  | .comp _ _ _ _ e, v, h => by
    unfold E.fr at h
    unfold E.fresh
    simp [h]
  | .call _ _ _, v, _ => by cases v <;> rfl
  | .pop _, v, _ => by cases v <;> rfl
  | .popat _ _, v, _ => by cases v <;> rfl
  | .hix _ _, _, h => by simp [E.fr] at h
theorem E.frs_frl : ∀ (es : List E) (vs : List D), E.fr.frs es = true → es.length = vs.length → E.fresh.frl es vs = true
  | [], [], _, _ => rfl
  | [], _ :: _, _, h => by simp at h
  | _ :: _, [], _, h => by simp at h
  | e :: es, v :: vs, h, hl => by
    unfold E.fr.frs at h
    unfold E.fresh.frl
    simp only [Bool.and_eq_true] at h
    rw [E.fr_fresh e v h.1, E.frs_frl es vs h.2 (by simpa using hl)]
    simp

def tIE (K : PySem.W.Frag) (F : Fns) (c : E) : TE := fun σ H Q => ∃ (ah : Option Addr) (H0 : Hp) (s : St) (Fs : Fp) (Fg : List Addr) (d : D) (s' : St),
  SR K ah H0 σ H s Fs Fg ∧ ev F c s = some (d, s') ∧ ∀ (v : V) (H' : Hp) (Fs' : Fp) (Fg' Fx : List Addr) (P : List Nat), (∀ i ∈ P, i ∈ c.popL) → SR K ah H0 σ H' s' Fs' Fg' → Stp ah P H s Fs Fg H' s' Fs' Fg' → Rep K H' v d Fx →
    Res K ah H0 c.mentions P H Fs Fg (c.fresh d = true) H' Fs' Fg' Fx → Q v H'
def tIA (K : PySem.W.Frag) (F : Fns) (cs : List E) : TA := fun σ H Q => ∃ (ah : Option Addr) (H0 : Hp) (s : St) (Fs : Fp) (Fg : List Addr) (ds : List D) (s' : St),
  SR K ah H0 σ H s Fs Fg ∧ evs F cs s = some (ds, s') ∧ ∀ (vs : List V) (H' : Hp) (Fs' : Fp) (Fg' : List Addr) (Fxs : List (List Addr)) (P : List Nat), (∀ i ∈ P, i ∈ E.popL.pls cs) → SR K ah H0 σ H' s' Fs' Fg' → Stp ah P H s Fs Fg H' s' Fs' Fg' → RepL K H' vs ds Fxs →
    Res K ah H0 (E.mentions.ms cs) P H Fs Fg (E.fresh.frl cs ds = true) H' Fs' Fg' Fxs.flatten → Q vs H'

theorem tIA_nil {σ : L2.St} {H : Hp} {Q : List V → Hp → Prop} (h : tIA K F [] σ H Q) : L2.tNil σ H Q := by
  obtain ⟨ah, H0, s, Fs, Fg, ds, s', R, e, k⟩ := h
  simp only [evs, Option.some.injEq, Prod.mk.injEq] at e
  obtain ⟨rfl, rfl⟩ := e
  exact k [] H Fs Fg [] [] (fun _ h => nomatch h) R .refl .nil .nil

theorem evs_cons {c : E} {cs : List E} {s s' : St} {ds : List D} (h : evs F (c :: cs) s = some (ds, s')) : ∃ d s1 ds1, ev F c s = some (d, s1) ∧ evs F cs s1 = some (ds1, s') ∧ ds = d :: ds1 := by
  unfold evs at h
  cases h1 : ev F c s with
  | none => rw [h1] at h; cases h
  | some r =>
    obtain ⟨d, s1⟩ := r
    rw [h1] at h
    simp only [Option.bind_some] at h
    cases h2 : evs F cs s1 with
    | none => rw [h2] at h; cases h
    | some q =>
      obtain ⟨ds1, s2⟩ := q
      rw [h2] at h
      simp only [Option.map_some, Option.some.injEq, Prod.mk.injEq] at h
      obtain ⟨e1, e2⟩ := h
      subst e2
      exact ⟨d, s1, ds1, rfl, h2, e1.symm⟩

theorem evs_len : ∀ {cs : List E} {s s' : St} {ds : List D}, evs F cs s = some (ds, s') → cs.length = ds.length
  | [], s, s', ds, h => by
    simp only [evs, Option.some.injEq, Prod.mk.injEq] at h
    obtain ⟨rfl, _⟩ := h; rfl
  | c :: cs, s, s', ds, h => by
    obtain ⟨d, s2, ds1, _, q, rfl⟩ := evs_cons h
    simp [evs_len q]
/-- a value that stands ahead of a step -/
theorem ahead_kp {ah : Option Addr} {H0 H H1 H2 : Hp} {σ : L2.St} {s s1 s2 : St} {Fs Fs1 Fs2 : Fp} {Fg Fg1 Fg2 Fx : List Addr} {c : E} {d : D} {P0 P P' : List Nat} {v : V}
    (R : SR K ah H0 σ H s Fs Fg) (St1 : Stp ah P0 H s Fs Fg H1 s1 Fs1 Fg1) (rs : Res K ah H0 c.mentions P0 H Fs Fg (c.fresh d = true) H1 Fs1 Fg1 Fx)
    (St2 : Stp ah P H1 s1 Fs1 Fg1 H2 s2 Fs2 Fg2) (hs : ∀ i ∈ P, i ∈ P') (hp : c.ahead P' = true ∨ lf d = true) (rp : Rep K H1 v d Fx) : Kp Fx H1 H2 := by
  refine St2.kp rs.noah fun i hi x hx hm => ?_
  rcases hp with hp | hp
  · unfold E.ahead at hp
    rw [Bool.or_eq_true] at hp
    rcases hp with hp | hp
    · exact (((rs.fresh (E.fr_fresh _ _ hp)).2 x hx).2.2.1 i) hm
    · have hmi : c.mentions i = false := by
        have := List.all_eq_true.mp hp i (hs i hi)
        simpa using this
      obtain ⟨w, ho⟩ : ∃ w, sl s i = .ow w := by
        by_cases z : i ∈ P0
        · exact St1.pow i z
        · obtain ⟨w, e⟩ := St2.pow i hi
          exact ⟨w, (St1.fs i z).2 ▸ e⟩
      have hmF := St1.fsub i x hm
      have o := ((R.own i w ho).2 x hmF)
      rcases rs.frame x hx with z | ⟨j, hj, z⟩ | z
      · obtain ⟨vs, q⟩ := (R.slot i).there x hmF
        rw [z] at q; cases q
      · by_cases e : j = i
        · subst e; rw [hmi] at hj; cases hj
        · exact o.2.2 j e z
      · exact o.2.1 z
  · have e := rp.lf_nil hp
    subst e; cases hx

theorem tIA_cons {c : E} {cs : List E} {σ : L2.St} {H : Hp} {Q : List V → Hp → Prop} (hp : c.ahead (E.popL.pls cs) = true) (h : tIA K F (c :: cs) σ H Q) : L2.tCons (tIE K F c) (tIA K F cs) σ H Q := by
  obtain ⟨ah, H0, s, Fs, Fg, ds, s', R, e, k⟩ := h
  obtain ⟨d, s1, ds1, e1, e2, rfl⟩ := evs_cons e
  refine ⟨ah, H0, s, Fs, Fg, d, s1, R, e1, fun v H1 Fs1 Fg1 Fx P1 hP1 R1 St1 rp rs => ?_⟩
  refine ⟨ah, H0, s1, Fs1, Fg1, ds1, s', R1, e2, fun vs H2 Fs2 Fg2 Fxs P2 hP2 R2 St2 rps rss => ?_⟩
  have kp := ahead_kp R St1 rs St2 hP2 (.inl hp) rp
  refine k (v :: vs) H2 Fs2 Fg2 (Fx :: Fxs) (P1 ++ P2) (fun i hi => by
    unfold E.popL.pls
    rcases List.mem_append.mp hi with z | z
    · exact List.mem_append_left _ (hP1 i z)
    · exact List.mem_append_right _ (hP2 i z)) R2 (St1.trans St2) (.cons (rp.kp kp) rps) ⟨fun a ha => ?_, fun a ha => ?_, fun hf => ?_⟩
  · simp only [List.flatten_cons, List.mem_append] at ha
    rcases ha with z | z
    · exact rs.noah a z
    · exact rss.noah a z
  · simp only [List.flatten_cons, List.mem_append] at ha
    unfold E.mentions.ms
    rcases ha with z | z
    · rcases rs.frame a z with q | ⟨i, q, m⟩ | q
      · exact .inl q
      · exact .inr (.inl ⟨i, by simp [q], m⟩)
      · exact .inr (.inr q)
    · rcases rss.frame a z with q | ⟨i, q, m⟩ | q
      · exact .inl (St1.there a q)
      · exact .inr (.inl ⟨i, by simp [q], St1.fsub i a m⟩)
      · exact .inr (.inr (St1.fg a q))
  · unfold E.fresh.frl at hf
    simp only [Bool.and_eq_true, Bool.or_eq_true] at hf
    obtain ⟨hf1, hf2⟩ := hf
    obtain ⟨n2, f2⟩ := rss.fresh hf2
    have tail : ∀ a ∈ Fxs.flatten, H0 a = none ∧ a ∉ Fg2 ∧ (∀ j, a ∉ Fs2 j) ∧ (H a = none ∨ ∃ i ∈ P1 ++ P2, a ∈ Fs i) := fun a ha => by
      obtain ⟨q1, q2, q3, q4⟩ := f2 a ha
      refine ⟨q1, q2, q3, ?_⟩
      rcases q4 with z | ⟨i, hi, m⟩
      · exact .inl (St1.there a z)
      · exact .inr ⟨i, List.mem_append_right _ hi, St1.fsub i a m⟩
    have head : Fx.Nodup ∧ ∀ a ∈ Fx, H0 a = none ∧ a ∉ Fg1 ∧ (∀ j, a ∉ Fs1 j) ∧ (H a = none ∨ ∃ i ∈ P1, a ∈ Fs i) := by
      rcases hf1 with z | z
      · have e := rp.lf_nil z
        subst e
        exact ⟨.nil, fun _ h => (nomatch h)⟩
      · exact rs.fresh z
    refine ⟨?_, fun a ha => ?_⟩
    · rw [List.flatten_cons, List.nodup_append]
      refine ⟨head.1, n2, fun a h1 b h2 q => ?_⟩
      subst q
      rcases (f2 a h2).2.2.2 with z | ⟨i, _, m⟩
      · obtain ⟨vs', q⟩ := rp.there a h1
        rw [z] at q; cases q
      · exact (head.2 a h1).2.2.1 i m
    · simp only [List.flatten_cons, List.mem_append] at ha
      rcases ha with z | z
      · obtain ⟨q1, q2, q3, q4⟩ := head.2 a z
        refine ⟨q1, fun m => q2 (St2.fg a m), fun j m => q3 j (St2.fsub j a m), ?_⟩
        rcases q4 with z | ⟨i, hi, m⟩
        · exact .inl z
        · exact .inr ⟨i, List.mem_append_left _ hi, m⟩
      · exact tail a z

/-- an operation by values -/
def OpV (K : PySem.W.Frag) (o : Op) (vs : List V) (H : Hp) (Q : VK) : Prop := ∃ (ds : List D) (Fs : List (List Addr)) (d : D), opS o ds = some d ∧ RepL K H vs ds Fs ∧
  ∀ (v : V) (H' : Hp) (Fx : List Addr), (∀ a x, H a = some x → H' a = some x) → Rep K H' v d Fx → (∀ a ∈ Fx, H a = none ∨ a ∈ Fs.flatten) → (Fs.flatten.Nodup → Fx.Nodup) →
    ((atomOp o = true ∨ (allocOp o = true ∧ ∃ xs, d = .list xs ∧ lfs xs = true)) → Fx.Nodup ∧ ∀ a ∈ Fx, H a = none) → Q v H'

theorem tIE_op {o : Op} {cs : List E} {σ : L2.St} {H : Hp} {Q : VK} (h : tIE K F (.op o cs) σ H Q) : tIA K F cs σ H fun vs H1 => OpV K o vs H1 Q := by
  obtain ⟨ah, H0, s, Fs, Fg, d, s', R, e, k⟩ := h
  unfold ev at e
  cases e1 : evs F cs s with
  | none => rw [e1] at e; cases e
  | some r =>
    obtain ⟨ds, s1⟩ := r
    rw [e1] at e
    simp only [Option.bind_some] at e
    cases e2 : opS o ds with
    | none => rw [e2] at e; cases e
    | some d1 =>
      rw [e2] at e
      simp only [Option.map_some, Option.some.injEq, Prod.mk.injEq] at e
      obtain ⟨rfl, rfl⟩ := e
      refine ⟨ah, H0, s, Fs, Fg, ds, s1, R, e1, fun vs H1 Fs1 Fg1 Fxs P hP R1 St1 rps rss => ?_⟩
      refine ⟨ds, Fxs, d1, e2, rps, fun v H' Fx same rp n1 n2 n3 => ?_⟩
      have St2 : Stp ah [] H1 s1 Fs1 Fg1 H' s1 Fs1 Fg1 := .same same
      have St : Stp ah P H s Fs Fg H' s1 Fs1 Fg1 := by
        have := St1.trans St2
        rw [List.append_nil] at this
        exact this
      refine k v H' Fs1 Fg1 Fx P hP (R1.same same) St rp ⟨fun a ha => ?_, fun a ha => ?_, fun hf => ?_⟩
      · rcases n1 a ha with z | z
        · exact R1.newah z
        · exact rss.noah a z
      · rcases n1 a ha with z | z
        · exact .inl (St1.there a z)
        · exact rss.frame a z
      · have new : ∀ a, H1 a = none → H0 a = none ∧ a ∉ Fg1 ∧ (∀ j, a ∉ Fs1 j) ∧ (H a = none ∨ ∃ i ∈ P, a ∈ Fs i) := fun a z =>
          ⟨R1.new z (R1.newah z), R1.notFg z, fun j => R1.notFs z j, .inl (St1.there a z)⟩
        have byArgs : E.fresh.frl cs ds = true → Fx.Nodup ∧ ∀ a ∈ Fx, H0 a = none ∧ a ∉ Fg1 ∧ (∀ j, a ∉ Fs1 j) ∧ (H a = none ∨ ∃ i ∈ P, a ∈ Fs i) := fun q => by
          obtain ⟨m1, m2⟩ := rss.fresh q
          refine ⟨n2 m1, fun a ha => ?_⟩
          rcases n1 a ha with z | z
          · exact new a z
          · exact m2 a z
        have hlen : cs.length = ds.length := evs_len e1
        unfold E.fresh at hf
        simp only [Bool.or_eq_true] at hf
        rcases hf with (hf | hf) | hf
        · obtain ⟨m1, m2⟩ := n3 (.inl hf)
          exact ⟨m1, fun a ha => new a (m2 a ha)⟩
        · exact byArgs (E.frs_frl cs ds hf hlen)
        · have byAlloc : ∀ xs, d1 = .list xs → allocOp o = true → lfs xs = true → Fx.Nodup ∧ ∀ a ∈ Fx, H0 a = none ∧ a ∉ Fg1 ∧ (∀ j, a ∉ Fs1 j) ∧ (H a = none ∨ ∃ i ∈ P, a ∈ Fs i) := fun xs q1 q2 q3 => by
            obtain ⟨m1, m2⟩ := n3 (.inr ⟨q2, xs, q1, q3⟩)
            exact ⟨m1, fun a ha => new a (m2 a ha)⟩
          split at hf
          · rename_i xs
            refine byArgs ?_
            have : ds = xs := by
              simp only [opS] at e2
              split at e2
              · simpa using e2
              · cases e2
            rw [this]; exact hf
          · rename_i xs
            refine byArgs ?_
            have : ds = xs := by
              simp only [opS] at e2
              split at e2
              · simpa using e2
              · cases e2
            rw [this]; exact hf
          · rename_i xs _
            simp only [Bool.and_eq_true] at hf
            exact byAlloc xs rfl hf.1 hf.2
          · cases hf

theorem PE.imp {X : Cx} {e : Expr} {t t' : TE} (h : PE X e t) (i : ∀ σ H Q, t' σ H Q → t σ H Q) : PE X e t' := ⟨fun pins s σ H Q I hw => h.run pins s σ H Q I (i σ H Q hw)⟩
theorem PT.imp {X : Cx} {e : Expr} {t t' : TT} (h : PT X e t) (i : ∀ σ H Q, t' σ H Q → t σ H Q) : PT X e t' := ⟨fun pins s σ H Q I hw => h.run pins s σ H Q I (i σ H Q hw)⟩
theorem PA.imp {X : Cx} {e : List Expr} {t t' : TA} (h : PA X e t) (i : ∀ σ H Q, t' σ H Q → t σ H Q) : PA X e t' := ⟨fun pos pins s σ H Q I hw => h.run pos pins s σ H Q I (i σ H Q hw)⟩
end Iv
set_option Elab.async false
set_option linter.all false
set_option maxRecDepth 100000
set_option maxHeartbeats 1000000
/-! IvSound3: the operations by values. -/
namespace Iv
open PySem PySem.Spec PyProof.Rows
open L2 (V Hp HO SqL SqT upd upd_same upd_ne ne_of_none VK TE TA TT TI TS TG Cx Inv RelV Vals PE PT PA OpR UnR CallR IxR SlR)

theorem opImp {X : Cx} {f : Value → Value → Sem Value} {r r' : L2.R2} (h : OpR X f r) (i : ∀ x y H Q, r' x y H Q → r x y H Q) : OpR X f r' :=
  fun pins s σ H x y v u Q I rx ry q => h pins s σ H x y v u Q I rx ry (i x y H Q q)
theorem unImp {X : Cx} {f : Value → Sem Value} {r r' : V → Hp → VK → Prop} (h : UnR X f r) (i : ∀ x H Q, r' x H Q → r x H Q) : UnR X f r' :=
  fun pins s σ H x v Q I rx q => h pins s σ H x v Q I rx (i x H Q q)
theorem callImp {X : Cx} {f : Value} {r r' : List V → Hp → VK → Prop} (h : CallR X f r) (i : ∀ x H Q, r' x H Q → r x H Q) : CallR X f r' :=
  fun pins s σ H x v Q I rx q => h pins s σ H x v Q I rx (i x H Q q)
theorem callOr {X : Cx} {f : Value} {r r' : List V → Hp → VK → Prop} (h : CallR X f r) (h' : CallR X f r') : CallR X f (fun x H Q => r x H Q ∨ r' x H Q) :=
  fun pins s σ H x v Q I rx q => q.elim (h pins s σ H x v Q I rx) (h' pins s σ H x v Q I rx)
theorem ixImp {X : Cx} {r r' : L2.R2} (h : IxR X r) (i : ∀ x y H Q, r' x y H Q → r x y H Q) : IxR X r' :=
  fun a b pins s σ H x y v u Q I rx ry q => h a b pins s σ H x y v u Q I rx ry (i x y H Q q)
theorem slImp {X : Cx} {r r' : V → Option Int → Option Int → Hp → VK → Prop} (h : SlR X r) (i : ∀ x l u H Q, r' x l u H Q → r x l u H Q) : SlR X r' :=
  fun pins s σ H x v vl vu lo hi sl Q I rx a b c q => h pins s σ H x v vl vu lo hi sl Q I rx a b c (i x lo hi H Q q)

section
variable {K : PySem.W.Frag} {o : Op} {H : Hp} {Q : VK} {x y z : V}
theorem opV1 (h : OpV K o [x] H Q) : ∃ a F d, opS o [a] = some d ∧ Rep K H x a F ∧ ∀ (v : V) (H' : Hp) (Fx : List Addr), (∀ a x, H a = some x → H' a = some x) → Rep K H' v d Fx → (∀ a ∈ Fx, H a = none ∨ a ∈ F) → (F.Nodup → Fx.Nodup) →
    ((atomOp o = true ∨ (allocOp o = true ∧ ∃ xs, d = .list xs ∧ lfs xs = true)) → Fx.Nodup ∧ ∀ a ∈ Fx, H a = none) → Q v H' := by
  obtain ⟨ds, Fs, d, e, r, k⟩ := h
  cases r with
  | cons r t =>
    cases t
    exact ⟨_, _, d, e, r, fun v H' Fx h1 h2 h3 h4 h5 => k v H' Fx h1 h2 (by simpa using h3) (by simpa using h4) h5⟩
theorem opV2 (h : OpV K o [x, y] H Q) : ∃ a b F G d, opS o [a, b] = some d ∧ Rep K H x a F ∧ Rep K H y b G ∧ ∀ (v : V) (H' : Hp) (Fx : List Addr), (∀ a x, H a = some x → H' a = some x) → Rep K H' v d Fx → (∀ a ∈ Fx, H a = none ∨ a ∈ F ++ G) → ((F ++ G).Nodup → Fx.Nodup) →
    ((atomOp o = true ∨ (allocOp o = true ∧ ∃ xs, d = .list xs ∧ lfs xs = true)) → Fx.Nodup ∧ ∀ a ∈ Fx, H a = none) → Q v H' := by
  obtain ⟨ds, Fs, d, e, r, k⟩ := h
  cases r with
  | cons r t =>
    cases t with
    | cons r2 t =>
      cases t
      exact ⟨_, _, _, _, d, e, r, r2, fun v H' Fx h1 h2 h3 h4 h5 => k v H' Fx h1 h2 (by simpa using h3) (by simpa using h4) h5⟩
/-- the end with a value that has no cells -/
theorem fin0 {F : List Addr} {A : Prop} {d : D} {v : V} (r : Rep K H v d [])
    (k : ∀ (v : V) (H' : Hp) (Fx : List Addr), (∀ a x, H a = some x → H' a = some x) → Rep K H' v d Fx → (∀ a ∈ Fx, H a = none ∨ a ∈ F) → (F.Nodup → Fx.Nodup) → (A → Fx.Nodup ∧ ∀ a ∈ Fx, H a = none) → Q v H') : Q v H :=
  k v H [] (fun _ _ h => h) r (fun _ h => (nomatch h)) (fun _ => .nil) fun _ => ⟨.nil, fun _ h => (nomatch h)⟩
theorem upd_keeps {p : Addr} {o : HO} (h : H p = none) : ∀ a x, H a = some x → upd H p o a = some x := fun a x e => by
  rw [upd_ne (ne_of_none e h)]; exact e
/-- .. with a new list of old things -/
theorem finL {F : List Addr} {A : Prop} {xs : List D} {vs : List V} {Gs : List (List Addr)} {p : Addr} (hp : H p = none) (r : RepL K H vs xs Gs) (hs : ∀ a ∈ Gs.flatten, a ∈ F) (hn : F.Nodup → Gs.flatten.Nodup) (ha : A → lfs xs = true)
    (k : ∀ (v : V) (H' : Hp) (Fx : List Addr), (∀ a x, H a = some x → H' a = some x) → Rep K H' v (.list xs) Fx → (∀ a ∈ Fx, H a = none ∨ a ∈ F) → (F.Nodup → Fx.Nodup) → (A → Fx.Nodup ∧ ∀ a ∈ Fx, H a = none) → Q v H') : Q (.ref p) (upd H p (.lst vs)) := by
  have np : p ∉ Gs.flatten := fun m => by
    obtain ⟨ws, e⟩ := r.there p m
    rw [hp] at e; cases e
  refine k (.ref p) _ (p :: Gs.flatten) (upd_keeps hp) (.list upd_same (r.kp (.of_same (upd_keeps hp)))) (fun a m => ?_) (fun n => ?_) fun q => ?_
  · rcases List.mem_cons.mp m with e | m
    · subst e; exact .inl hp
    · exact .inr (hs a m)
  · exact List.nodup_cons.mpr ⟨np, hn n⟩
  · have e := r.lfs_nil (ha q)
    rw [e]
    exact ⟨List.nodup_cons.mpr ⟨by simp, .nil⟩, fun a m => by
      have : a = p := by simpa using m
      subst this; exact hp⟩
theorem finT {F : List Addr} {A : Prop} {xs : List D} {vs : List V} {Gs : List (List Addr)} {p : Addr} (hp : H p = none) (r : RepL K H vs xs Gs) (hs : ∀ a ∈ Gs.flatten, a ∈ F) (hn : F.Nodup → Gs.flatten.Nodup) (hA : ¬ A)
    (k : ∀ (v : V) (H' : Hp) (Fx : List Addr), (∀ a x, H a = some x → H' a = some x) → Rep K H' v (.tuple xs) Fx → (∀ a ∈ Fx, H a = none ∨ a ∈ F) → (F.Nodup → Fx.Nodup) → (A → Fx.Nodup ∧ ∀ a ∈ Fx, H a = none) → Q v H') : Q (.ref p) (upd H p (.tup vs)) :=
  k (.ref p) _ Gs.flatten (upd_keeps hp) (.tuple (.inl upd_same) (r.kp (.of_same (upd_keeps hp)))) (fun a m => .inr (hs a m)) hn fun q => (hA q).elim
/-- .. with an old tuple -/
theorem finT0 {F : List Addr} {A : Prop} {xs : List D} {vs : List V} {Gs : List (List Addr)} {p : Addr} (hp : TupAt K H p vs) (r : RepL K H vs xs Gs) (hs : ∀ a ∈ Gs.flatten, a ∈ F) (hn : F.Nodup → Gs.flatten.Nodup) (hA : ¬ A)
    (k : ∀ (v : V) (H' : Hp) (Fx : List Addr), (∀ a x, H a = some x → H' a = some x) → Rep K H' v (.tuple xs) Fx → (∀ a ∈ Fx, H a = none ∨ a ∈ F) → (F.Nodup → Fx.Nodup) → (A → Fx.Nodup ∧ ∀ a ∈ Fx, H a = none) → Q v H') : Q (.ref p) H :=
  k (.ref p) _ Gs.flatten (fun _ _ h => h) (.tuple hp r) (fun a m => .inr (hs a m)) hn fun q => (hA q).elim
theorem noA {o : Op} (h1 : atomOp o = false := by rfl) (h2 : allocOp o = false := by rfl) {d : D} : ¬ (atomOp o = true ∨ (allocOp o = true ∧ ∃ xs, d = .list xs ∧ lfs xs = true)) := by
  rw [h1, h2]; simp
theorem noT {o : Op} (h1 : atomOp o = false := by rfl) {ys : List D} : ¬ (atomOp o = true ∨ (allocOp o = true ∧ ∃ xs, PyData.tuple ys = .list xs ∧ lfs xs = true)) := by
  rw [h1]; simp
theorem isA {o : Op} (h1 : atomOp o = false := by rfl) {ys : List D} : (atomOp o = true ∨ (allocOp o = true ∧ ∃ xs, PyData.list ys = .list xs ∧ lfs xs = true)) → lfs ys = true := by
  rw [h1]
  intro h
  rcases h with h | ⟨_, xs, e, h⟩
  · cases h
  · cases e; exact h
end

theorem line_eq : (line : Nat) = sizeLine := by rw [sizeLine_eq]; rfl
theorem flat2 {F G : List (List Addr)} : (F ++ G).flatten = F.flatten ++ G.flatten := List.flatten_append
/-- what a body may rely on -/
structure Cok (X : Cx) : Prop where
  calm : X.calm = true
  un : X.A.units + 65 < cLine

section
variable {X : Cx}
theorem opR_add : OpR X (binaryOp .Add) (fun x y H Q => OpV X.K .add [x, y] H Q) := by
  refine opImp ((L2.op_add.or (L2.op_cat.or L2.op_catA))) fun x y H Q h => ?_
  obtain ⟨a, b, F, G, d, e, r1, r2, k⟩ := opV2 h
  cases r1 <;> cases r2 <;> first | (simp only [opS] at e; cases e; done) | skip
  · simp only [opS, Option.some.injEq] at e
    subst e
    exact .inl ⟨_, _, rfl, rfl, fin0 (.int _) k⟩
  · rename_i a vs xs Fs ha ra b ws ys Gs hb rb
    simp only [opS] at e
    split at e
    · rename_i hl
      cases e
      refine .inr (.inl ⟨a, b, vs, ws, rfl, rfl, ha, hb, by rw [ra.len.1, rb.len.1, ← line_eq]; exact hl, fun p hp => finL hp (ra.append rb) (fun c m => ?_) (fun n => ?_) isA k⟩)
      · rw [flat2, List.mem_append] at m
        simp only [List.cons_append, List.mem_cons, List.mem_append]
        rcases m with m | m
        · exact .inr (.inl m)
        · exact .inr (.inr (.inr m))
      · rw [flat2]
        have n' := (List.nodup_cons.mp n).2
        exact n'.sublist ((List.Sublist.refl _).append (List.sublist_cons_self _ _))
    · cases e
  · rename_i a vs xs Fs ha ra b ws ys Gs hb rb
    simp only [opS] at e
    split at e
    · rename_i hl
      cases e
      have hm : ∀ c ∈ (Fs ++ Gs).flatten, c ∈ Fs.flatten ++ Gs.flatten := fun c m => by rw [flat2] at m; exact m
      refine .inr (.inr ⟨a, b, vs, ws, rfl, rfl, ha.sq, hb.sq, by rw [ra.len.1, rb.len.1, ← line_eq]; exact hl, fun z => ?_, fun _ z => ?_, fun _ _ p hp => finT hp (ra.append rb) hm (fun n => by rw [flat2]; exact n) noT k⟩)
      · subst z
        cases ra
        exact finT0 hb rb (fun c m => by simpa using m) (fun n => by simpa using n) noT k
      · subst z
        cases rb
        rw [List.append_nil] at k
        exact finT0 ha ra (fun c m => by simpa using m) (fun n => by simpa using n) noT k
    · cases e
theorem opR_sub : OpR X (binaryOp .Sub) (fun x y H Q => OpV X.K .sub [x, y] H Q) := by
  refine opImp (L2.op_sub) fun x y H Q h => ?_
  obtain ⟨a, b, F, G, d, e, r1, r2, k⟩ := opV2 h
  cases r1 <;> cases r2 <;> first | (simp only [opS] at e; cases e; done) | skip
  simp only [opS, Option.some.injEq] at e
  subst e
  exact ⟨_, _, rfl, rfl, fin0 (.int _) k⟩
theorem rep_nil : ∀ {xs : List D} {vs : List V} {Fs : List (List Addr)} {K : PySem.W.Frag} {H : Hp} (r : RepL K H vs xs Fs) (n : Nat) , lfs xs = true → ∃ Gs, RepL K H (List.replicate n vs).flatten (List.replicate n xs).flatten Gs ∧ Gs.flatten = [] := by
  intro xs vs Fs K H r n h
  induction n with
  | zero => exact ⟨[], .nil, rfl⟩
  | succ n ih =>
    obtain ⟨Gs, r2, e⟩ := ih
    exact ⟨Fs ++ Gs, by simpa [List.replicate_succ] using r.append r2, by rw [flat2, r.lfs_nil h, e]; rfl⟩
theorem opR_mul : OpR X (binaryOp .Mult) (fun x y H Q => OpV X.K .mul [x, y] H Q) := by
  refine opImp (((L2.op_mul.or L2.op_mulW).or (L2.op_rep.or L2.op_repT))) fun x y H Q h => ?_
  obtain ⟨a, b, F, G, d, e, r1, r2, k⟩ := opV2 h
  cases r1 <;> cases r2 <;> first | (simp only [opS] at e; cases e; done) | skip
  · rename_i i j
    simp only [opS] at e
    split at e
    · rename_i hm
      cases e
      simp only [mulOk, Bool.or_eq_true, Bool.and_eq_true, decide_eq_true_eq] at hm
      simp only [two64] at hm
      rcases hm with (⟨h1, h2⟩ | ⟨h1, h2⟩) | h3
      · exact .inl (.inl ⟨_, _, rfl, rfl, .inl ⟨by omega, by omega⟩, fin0 (.int _) k⟩)
      · exact .inl (.inl ⟨_, _, rfl, rfl, .inr ⟨by omega, by omega⟩, fin0 (.int _) k⟩)
      · exact .inl (.inr ⟨_, _, rfl, rfl, h3, fin0 (.int _) k⟩)
    · cases e
  · rename_i a vs xs Fs ha ra j
    simp only [opS] at e
    split at e
    · rename_i hm
      cases e
      simp only [small62, Bool.and_eq_true, decide_eq_true_eq] at hm
      simp only [two62] at hm
      obtain ⟨⟨⟨h1, h2⟩, h3⟩, h4⟩ := hm
      obtain ⟨Gs, rg, eg⟩ := rep_nil ra j.toNat h4
      refine .inr (.inl ⟨a, j, vs, rfl, rfl, ha, by omega, by omega, by rw [ra.len.1, ← line_eq]; exact h3, fun p hp => finL hp rg (fun c m => by rw [eg] at m; cases m) (fun n => by rw [eg]; exact .nil) isA k⟩)
    · cases e
  · rename_i a vs xs Fs ha ra j
    simp only [opS] at e
    split at e
    · rename_i hm
      cases e
      simp only [Bool.and_eq_true, decide_eq_true_eq] at hm
      obtain ⟨⟨⟨⟨h1, h2⟩, h3⟩, h4⟩, h5⟩ := hm
      obtain ⟨Gs, rg, eg⟩ := rep_nil ra j.toNat h5
      refine .inr (.inr ⟨a, j, vs, rfl, rfl, ha.sq, fun z => ?_, h1, h2, by rw [ra.len.1]; exact h4, fun p hp => finT hp rg (fun c m => by rw [eg] at m; cases m) (fun n => by rw [eg]; exact .nil) noT k⟩)
      have := ra.len.1
      rw [z] at this
      simp at this
      omega
    · cases e
theorem opR_fdiv : OpR X (binaryOp .FloorDiv) (fun x y H Q => OpV X.K .fdiv [x, y] H Q) := by
  refine opImp (L2.op_fdivW) fun x y H Q h => ?_
  obtain ⟨a, b, F, G, d, e, r1, r2, k⟩ := opV2 h
  cases r1 <;> cases r2 <;> first | (simp only [opS] at e; cases e; done) | skip
  simp only [opS] at e
  split at e
  · rename_i hm
    cases e
    simp only [divOk, Bool.and_eq_true, decide_eq_true_eq] at hm
    exact ⟨_, _, rfl, rfl, hm, fin0 (.int _) k⟩
  · cases e
theorem opR_mod : OpR X (binaryOp .Mod) (fun x y H Q => OpV X.K .mod [x, y] H Q) := by
  refine opImp (L2.op_mod) fun x y H Q h => ?_
  obtain ⟨a, b, F, G, d, e, r1, r2, k⟩ := opV2 h
  cases r1 <;> cases r2 <;> first | (simp only [opS] at e; cases e; done) | skip
  simp only [opS] at e
  split at e
  · rename_i hm
    cases e
    exact ⟨_, _, rfl, rfl, hm, fin0 (.int _) k⟩
  · cases e
theorem opR_pow : OpR X (binaryOp .Pow) (fun x y H Q => OpV X.K .pow [x, y] H Q) := by
  refine opImp (L2.op_pow) fun x y H Q h => ?_
  obtain ⟨a, b, F, G, d, e, r1, r2, k⟩ := opV2 h
  cases r1 <;> cases r2 <;> first | (simp only [opS] at e; cases e; done) | skip
  simp only [opS] at e
  split at e
  · rename_i hm
    cases e
    simp only [powOk, Bool.and_eq_true, decide_eq_true_eq] at hm
    exact ⟨_, _, rfl, rfl, ⟨hm.1.1, hm.1.2, hm.2⟩, fin0 (.int _) k⟩
  · cases e
theorem unR_neg : UnR X (unaryOp .USub) (fun x H Q => OpV X.K .neg [x] H Q) := by
  refine unImp L2.un_neg fun x H Q h => ?_
  obtain ⟨a, F, d, e, r1, k⟩ := opV1 h
  cases r1 <;> first | (simp only [opS] at e; cases e; done) | skip
  simp only [opS, Option.some.injEq] at e
  subst e
  exact ⟨_, rfl, fin0 (.int _) k⟩
theorem opR_eq (hu : X.A.units + 65 < cLine) : OpR X (compareOp .Eq) (fun x y H Q => OpV X.K .eq [x, y] H Q) := by
  refine opImp ((L2.op_eqD (Nat.lt_of_succ_lt hu))) fun x y H Q h => ?_
  obtain ⟨a, b, F, G, d, e, r1, r2, k⟩ := opV2 h
  simp only [opS] at e
  split at e
  · rename_i hm
    cases e
    simp only [Bool.and_eq_true, eqOk] at hm
    exact ⟨a, b, r1.dp, r2.dp, hm.1, hm.2, fin0 (.bool _) k⟩
  · cases e
theorem opR_ne (hu : X.A.units + 65 < cLine) : OpR X (compareOp .NotEq) (fun x y H Q => OpV X.K .ne [x, y] H Q) := by
  refine opImp ((L2.op_neD (Nat.lt_of_succ_lt hu))) fun x y H Q h => ?_
  obtain ⟨a, b, F, G, d, e, r1, r2, k⟩ := opV2 h
  simp only [opS] at e
  split at e
  · rename_i hm
    cases e
    simp only [Bool.and_eq_true, eqOk] at hm
    exact ⟨a, b, r1.dp, r2.dp, hm.1, hm.2, fin0 (.bool _) k⟩
  · cases e
theorem opR_in (hu : X.A.units + 65 < cLine) : OpR X (compareOp .In) (fun x y H Q => OpV X.K .isin [x, y] H Q) := by
  refine opImp ((L2.op_inD hu).or (IvR.op_inTD hu)) fun x y H Q h => ?_
  obtain ⟨a, b, F, G, d, e, r1, r2, k⟩ := opV2 h
  cases r2 <;> first | (simp only [opS] at e; cases e; done) | skip
  all_goals
    rename_i c vs xs Fs hc rc
    simp only [opS] at e
    split at e
    case isFalse => cases e
    rename_i hm
    cases e
    simp only [Bool.and_eq_true, eqOk] at hm
  · exact .inl ⟨a, xs, r1.dp, (Rep.list hc rc).dp, hm.1, hm.2, fin0 (.bool _) k⟩
  · exact .inr ⟨a, xs, r1.dp, (Rep.tuple hc rc).dp, hm.1, hm.2, fin0 (.bool _) k⟩
theorem opR_notin (hu : X.A.units + 65 < cLine) : OpR X (compareOp .NotIn) (fun x y H Q => OpV X.K .notin [x, y] H Q) := by
  refine opImp ((L2.op_notInD hu).or (IvR.op_notInTD hu)) fun x y H Q h => ?_
  obtain ⟨a, b, F, G, d, e, r1, r2, k⟩ := opV2 h
  cases r2 <;> first | (simp only [opS] at e; cases e; done) | skip
  all_goals
    rename_i c vs xs Fs hc rc
    simp only [opS] at e
    split at e
    case isFalse => cases e
    rename_i hm
    cases e
    simp only [Bool.and_eq_true, eqOk] at hm
  · exact .inl ⟨a, xs, r1.dp, (Rep.list hc rc).dp, hm.1, hm.2, fin0 (.bool _) k⟩
  · exact .inr ⟨a, xs, r1.dp, (Rep.tuple hc rc).dp, hm.1, hm.2, fin0 (.bool _) k⟩
theorem opR_lt : OpR X (compareOp .Lt) (fun x y H Q => OpV X.K .lt [x, y] H Q) := by
  refine opImp (L2.op_lt) fun x y H Q h => ?_
  obtain ⟨a, b, F, G, d, e, r1, r2, k⟩ := opV2 h
  cases r1 <;> cases r2 <;> first | (simp only [opS] at e; cases e; done) | skip
  simp only [opS, Option.some.injEq] at e
  subst e
  exact ⟨_, _, rfl, rfl, fin0 (.bool _) k⟩
theorem opR_le : OpR X (compareOp .LtE) (fun x y H Q => OpV X.K .le [x, y] H Q) := by
  refine opImp (L2.op_le) fun x y H Q h => ?_
  obtain ⟨a, b, F, G, d, e, r1, r2, k⟩ := opV2 h
  cases r1 <;> cases r2 <;> first | (simp only [opS] at e; cases e; done) | skip
  simp only [opS, Option.some.injEq] at e
  subst e
  exact ⟨_, _, rfl, rfl, fin0 (.bool _) k⟩
theorem opR_gt : OpR X (compareOp .Gt) (fun x y H Q => OpV X.K .gt [x, y] H Q) := by
  refine opImp (L2.op_gt) fun x y H Q h => ?_
  obtain ⟨a, b, F, G, d, e, r1, r2, k⟩ := opV2 h
  cases r1 <;> cases r2 <;> first | (simp only [opS] at e; cases e; done) | skip
  simp only [opS, Option.some.injEq] at e
  subst e
  exact ⟨_, _, rfl, rfl, fin0 (.bool _) k⟩
theorem opR_ge : OpR X (compareOp .GtE) (fun x y H Q => OpV X.K .ge [x, y] H Q) := by
  refine opImp (L2.op_ge) fun x y H Q h => ?_
  obtain ⟨a, b, F, G, d, e, r1, r2, k⟩ := opV2 h
  cases r1 <;> cases r2 <;> first | (simp only [opS] at e; cases e; done) | skip
  simp only [opS, Option.some.injEq] at e
  subst e
  exact ⟨_, _, rfl, rfl, fin0 (.bool _) k⟩
theorem opR_is : OpR X (compareOp .Is) (fun x y H Q => OpV X.K .is_ [x, y] H Q) := by
  refine opImp ((L2.op_isN.or L2.op_isBl)) fun x y H Q h => ?_
  obtain ⟨a, b, F, G, d, e, r1, r2, k⟩ := opV2 h
  cases r1 <;> cases r2 <;> first | (simp only [opS] at e; cases e; done) | skip
  all_goals (simp only [opS, Option.some.injEq] at e; subst e)
  · exact .inl ⟨rfl, fin0 (.bool _) k⟩
  · exact .inl ⟨rfl, fin0 (.bool _) k⟩
  · exact .inr ⟨_, _, rfl, rfl, fin0 (.bool _) k⟩
  · exact .inl ⟨rfl, fin0 (.bool _) k⟩
  · exact .inl ⟨rfl, fin0 (.bool _) k⟩
  · exact .inl ⟨rfl, fin0 (.bool _) k⟩
theorem opR_isnt : OpR X (compareOp .IsNot) (fun x y H Q => OpV X.K .isnt [x, y] H Q) := by
  refine opImp ((L2.op_notN.or L2.op_notBl)) fun x y H Q h => ?_
  obtain ⟨a, b, F, G, d, e, r1, r2, k⟩ := opV2 h
  cases r1 <;> cases r2 <;> first | (simp only [opS] at e; cases e; done) | skip
  all_goals (simp only [opS, Option.some.injEq] at e; subst e)
  · exact .inl ⟨rfl, fin0 (.bool _) k⟩
  · exact .inl ⟨rfl, fin0 (.bool _) k⟩
  · exact .inr ⟨_, _, rfl, rfl, fin0 (.bool _) k⟩
  · exact .inl ⟨rfl, fin0 (.bool _) k⟩
  · exact .inl ⟨rfl, fin0 (.bool _) k⟩
  · exact .inl ⟨rfl, fin0 (.bool _) k⟩
theorem atI_get {α : Type} {xs : List α} {i : Int} {d : α} (h : atI xs i = some d) : ∃ j, ixN xs.length i = some j ∧ xs[j]? = some d := by
  unfold atI at h
  cases e : ixN xs.length i with
  | none => rw [e] at h; cases h
  | some j => rw [e] at h; exact ⟨j, rfl, h⟩
theorem mem_flat {F : List Addr} {Fs : List (List Addr)} {j : Nat} (h : Fs[j]? = some F) : ∀ a ∈ F, a ∈ Fs.flatten := fun a m =>
  List.mem_flatten.mpr ⟨F, List.mem_of_getElem? h, m⟩
theorem nodup_flat : ∀ {Fs : List (List Addr)} {F : List Addr} {j : Nat}, Fs[j]? = some F → Fs.flatten.Nodup → F.Nodup
  | [], _, _, h, _ => by simp at h
  | G :: Fs, F, 0, h, n => by
    simp at h; subst h
    rw [List.flatten_cons, List.nodup_append] at n
    exact n.1
  | G :: Fs, F, j + 1, h, n => by
    rw [List.flatten_cons, List.nodup_append] at n
    exact nodup_flat (j := j) (by simpa using h) n.2.1
theorem ixR : IxR X (fun x y H Q => OpV X.K .ix [x, y] H Q) := by
  refine ixImp (L2.ix_list.or L2.ix_tup) fun x y H Q h => ?_
  obtain ⟨a, b, F, G, d, e, r1, r2, k⟩ := opV2 h
  cases r1 <;> cases r2 <;> first | (simp only [opS] at e; cases e; done) | skip
  · rename_i p vs xs Fs hp rp i
    simp only [opS] at e
    obtain ⟨j, e1, e2⟩ := atI_get e
    obtain ⟨v, F, h1, h2, h3⟩ := rp.get e2
    refine .inl ⟨p, vs, i, v, rfl, rfl, SqL.of' hp, ?_, ?_⟩
    · show (L2.ixN vs.length i).bind (fun j => vs[j]?) = some v
      rw [rp.len.1, show L2.ixN xs.length i = some j from e1]
      exact h1
    · refine k v H F (fun _ _ h => h) h3 (fun a m => .inr (by simp [mem_flat h2 a m])) (fun n => ?_) fun q => (noA (o := .ix) rfl rfl q).elim
      rw [List.append_nil] at n
      exact nodup_flat h2 (List.nodup_cons.mp n).2
  · rename_i p vs xs Fs hp rp i
    simp only [opS] at e
    obtain ⟨j, e1, e2⟩ := atI_get e
    obtain ⟨v, F, h1, h2, h3⟩ := rp.get e2
    refine .inr ⟨p, vs, i, v, rfl, rfl, hp.sq, ?_, ?_⟩
    · show (L2.ixN vs.length i).bind (fun j => vs[j]?) = some v
      rw [rp.len.1, show L2.ixN xs.length i = some j from e1]
      exact h1
    · refine k v H F (fun _ _ h => h) h3 (fun a m => .inr (by simp [mem_flat h2 a m])) (fun n => ?_) fun q => (noA (o := .ix) rfl rfl q).elim
      rw [List.append_nil] at n
      exact nodup_flat h2 n
theorem cut_eq {α : Type} (xs : List α) (lo hi : Option Int) : cut xs lo hi = (xs.drop (HT.sIx xs.length 0 lo)).take (HT.sIx xs.length xs.length hi - HT.sIx xs.length 0 lo) := by
  have e : ∀ (n d : Nat) (o : Option Int), sIx n d o = HT.sIx n d o := fun n d o => by cases o <;> rfl
  unfold cut
  rw [e, e]
def PartV (y : V) (l : Option Int) : Prop := (y = .non ∧ l = none) ∨ ∃ i, y = .int i ∧ l = some i
theorem part_of {K : PySem.W.Frag} {H : Hp} {y : V} {l lo : Option Int} {a : D} {F : List Addr} (p : PartV y l) (r : Rep K H y a F) (e : part a = some lo) : lo = l := by
  rcases p with ⟨rfl, rfl⟩ | ⟨i, rfl, rfl⟩
  · cases r; simp [part] at e; exact e.symm
  · cases r; simp [part] at e; exact e.symm
theorem sub_flat : ∀ {l m : List (List Addr)}, l.Sublist m → l.flatten.Sublist m.flatten
  | _, _, .slnil => .slnil
  | _, _, .cons a h => by rw [List.flatten_cons]; exact (sub_flat h).trans (List.sublist_append_right _ _)
  | _, _, .cons_cons a h => by rw [List.flatten_cons, List.flatten_cons]; exact (List.Sublist.refl _).append (sub_flat h)
theorem slR : SlR X (fun x l u H Q => ∃ y z, PartV y l ∧ PartV z u ∧ OpV X.K .slice [x, y, z] H Q) := by
  refine slImp (L2.sl_list.or L2.sl_tupA) fun x l u H Q h => ?_
  obtain ⟨y, z, p1, p2, ds, Fs, d, e, r, k⟩ := h
  cases r with
  | cons r1 t =>
    cases t with
    | cons r2 t =>
      cases t with
      | cons r3 t =>
        cases t
        cases r1 <;> first | (simp only [opS] at e; cases e; done) | skip
        · rename_i xs2 F2 xs3 F3 a vs xs Fs ha ra
          simp only [opS, Option.bind_eq_some_iff, Option.map_eq_some_iff] at e
          obtain ⟨lo, e1, hi, e2, rfl⟩ := e
          have q1 := part_of p1 r2 e1
          have q2 := part_of p2 r3 e2
          subst q1 q2
          refine .inl ⟨a, vs, rfl, SqL.of' ha, fun p hp => ?_⟩
          have rc : RepL X.K H (L2.cutV vs lo hi) (cut xs lo hi) ((Fs.drop (HT.sIx xs.length 0 lo)).take (HT.sIx xs.length xs.length hi - HT.sIx xs.length 0 lo)) := by
            rw [cut_eq]
            unfold L2.cutV
            rw [ra.len.1]
            exact (ra.drop _).take _
          have sb : ((Fs.drop (HT.sIx xs.length 0 lo)).take (HT.sIx xs.length xs.length hi - HT.sIx xs.length 0 lo)).Sublist Fs := (List.take_sublist _ _).trans (List.drop_sublist _ _)
          refine finL hp rc (fun c m => ?_) (fun n => ?_) isA k
          · have : c ∈ Fs.flatten := (sub_flat sb).subset m
            simp [this]
          · simp only [List.flatten_cons, List.cons_append, List.nodup_cons] at n
            exact (n.2.sublist (List.sublist_append_left _ _)).sublist (sub_flat sb)
        · rename_i xs2 F2 xs3 F3 a vs xs Fs ha ra
          simp only [opS, Option.bind_eq_some_iff, Option.map_eq_some_iff] at e
          obtain ⟨lo, e1, hi, e2, rfl⟩ := e
          have q1 := part_of p1 r2 e1
          have q2 := part_of p2 r3 e2
          subst q1 q2
          have rc : RepL X.K H (L2.cutV vs lo hi) (cut xs lo hi) ((Fs.drop (HT.sIx xs.length 0 lo)).take (HT.sIx xs.length xs.length hi - HT.sIx xs.length 0 lo)) := by
            rw [cut_eq]
            unfold L2.cutV
            rw [ra.len.1]
            exact (ra.drop _).take _
          have sb : ((Fs.drop (HT.sIx xs.length 0 lo)).take (HT.sIx xs.length xs.length hi - HT.sIx xs.length 0 lo)).Sublist Fs := (List.take_sublist _ _).trans (List.drop_sublist _ _)
          have m1 : ∀ c ∈ ((Fs.drop (HT.sIx xs.length 0 lo)).take (HT.sIx xs.length xs.length hi - HT.sIx xs.length 0 lo)).flatten, c ∈ (Fs.flatten :: [F2, F3]).flatten := fun c m => by
            have : c ∈ Fs.flatten := (sub_flat sb).subset m
            simp [this]
          have n1 : (Fs.flatten :: [F2, F3]).flatten.Nodup → ((Fs.drop (HT.sIx xs.length 0 lo)).take (HT.sIx xs.length xs.length hi - HT.sIx xs.length 0 lo)).flatten.Nodup := fun n => by
            simp only [List.flatten_cons] at n
            exact (n.sublist (List.sublist_append_left _ _)).sublist (sub_flat sb)
          refine .inr ⟨a, vs, rfl, ha.sq, fun hw => ?_, fun hw p hp => finT hp rc m1 n1 noT k⟩
          have ev : L2.cutV vs lo hi = vs := by
            unfold L2.cutV
            rw [hw.1, hw.2]
            simp
          rw [ev] at rc
          exact finT0 ha rc m1 n1 noT k
theorem callR_len : CallR X (.builtin "len") (fun xs H Q => OpV X.K .len xs H Q) := by
  refine callImp L2.call_len fun xs H Q h => ?_
  obtain ⟨ds, Fs, d, e, r, k⟩ := h
  cases r with
  | nil => simp only [opS] at e; cases e
  | cons r t =>
    cases t with
    | cons r2 t => simp only [opS] at e; cases e
    | nil =>
      cases r <;> first | (simp only [opS] at e; cases e; done) | skip
      · rename_i a vs xs Fs ha ra
        simp only [opS, Option.some.injEq] at e
        subst e
        refine ⟨_, vs.length, rfl, .inl ⟨vs, SqL.of' ha, rfl⟩, ?_⟩
        rw [ra.len.1]
        exact fin0 (.int _) k
      · rename_i a vs xs Fs ha ra
        simp only [opS, Option.some.injEq] at e
        subst e
        refine ⟨_, vs.length, rfl, .inr ⟨vs, ha.sq, rfl⟩, ?_⟩
        rw [ra.len.1]
        exact fin0 (.int _) k
theorem callR_abs : CallR X (.builtin "abs") (fun xs H Q => OpV X.K .abs xs H Q) := by
  refine callImp L2.call_abs fun xs H Q h => ?_
  obtain ⟨ds, Fs, d, e, r, k⟩ := h
  cases r with
  | nil => simp only [opS] at e; cases e
  | cons r t =>
    cases t with
    | cons r2 t => simp only [opS] at e; cases e
    | nil =>
      cases r <;> first | (simp only [opS] at e; cases e; done) | skip
      simp only [opS, Option.some.injEq] at e
      subst e
      exact ⟨_, rfl, fin0 (.int _) k⟩
theorem callR_int : CallR X (.type "int") (fun xs H Q => OpV X.K .int xs H Q) := by
  refine callImp L2.call_int1 fun xs H Q h => ?_
  obtain ⟨ds, Fs, d, e, r, k⟩ := h
  cases r with
  | nil => simp only [opS] at e; cases e
  | cons r t =>
    cases t with
    | cons r2 t => simp only [opS] at e; cases e
    | nil =>
      cases r <;> first | (simp only [opS] at e; cases e; done) | skip
      · simp only [opS, Option.some.injEq] at e
        subst e
        exact .inr ⟨_, rfl, fin0 (.int _) k⟩
      · simp only [opS, Option.some.injEq] at e
        subst e
        exact .inl ⟨_, rfl, fin0 (.int _) k⟩
theorem foldl_max : ∀ (r : List Int) (n : Int), (∀ y ∈ n :: r, y ≤ r.foldl max n) ∧ r.foldl max n ∈ n :: r
  | [], n => by simp
  | x :: r, n => by
    obtain ⟨h1, h2⟩ := foldl_max r (max n x)
    simp only [List.foldl_cons]
    refine ⟨fun y hy => ?_, ?_⟩
    · have h0 := h1 (max n x) List.mem_cons_self
      rcases List.mem_cons.mp hy with e | hy
      · subst e; omega
      · rcases List.mem_cons.mp hy with e | hy
        · subst e; omega
        · exact h1 y (List.mem_cons_of_mem _ hy)
    · rcases List.mem_cons.mp h2 with e | h2
      · rw [e]
        rcases Int.le_total n x with z | z
        · rw [Int.max_eq_right z]; simp
        · rw [Int.max_eq_left z]; simp
      · simp [h2]
theorem foldl_min : ∀ (r : List Int) (n : Int), (∀ y ∈ n :: r, r.foldl min n ≤ y) ∧ r.foldl min n ∈ n :: r
  | [], n => by simp
  | x :: r, n => by
    obtain ⟨h1, h2⟩ := foldl_min r (min n x)
    simp only [List.foldl_cons]
    refine ⟨fun y hy => ?_, ?_⟩
    · have h0 := h1 (min n x) List.mem_cons_self
      rcases List.mem_cons.mp hy with e | hy
      · subst e; omega
      · rcases List.mem_cons.mp hy with e | hy
        · subst e; omega
        · exact h1 y (List.mem_cons_of_mem _ hy)
    · rcases List.mem_cons.mp h2 with e | h2
      · rw [e]
        rcases Int.le_total n x with z | z
        · rw [Int.min_eq_left z]; simp
        · rw [Int.min_eq_right z]; simp
      · simp [h2]
theorem callR_max2 (hc : X.calm = true) : CallR X (.builtin "max") (fun xs H Q => OpV X.K .max2 xs H Q) := by
  refine callImp (L2.call_max2 hc) fun xs H Q h => ?_
  obtain ⟨ds, Fs, d, e, r, k⟩ := h
  cases r with
  | nil => simp only [opS] at e; cases e
  | cons r t =>
    cases t with
    | nil => simp only [opS] at e; cases e
    | cons r2 t =>
      cases t with
      | cons r3 t => simp only [opS] at e; cases e
      | nil =>
        cases r <;> cases r2 <;> first | (simp only [opS] at e; cases e; done) | skip
        simp only [opS, Option.some.injEq] at e
        subst e
        exact ⟨_, _, rfl, fin0 (.int _) k⟩
theorem callR_min2 (hc : X.calm = true) : CallR X (.builtin "min") (fun xs H Q => OpV X.K .min2 xs H Q) := by
  refine callImp (L2.call_min2 hc) fun xs H Q h => ?_
  obtain ⟨ds, Fs, d, e, r, k⟩ := h
  cases r with
  | nil => simp only [opS] at e; cases e
  | cons r t =>
    cases t with
    | nil => simp only [opS] at e; cases e
    | cons r2 t =>
      cases t with
      | cons r3 t => simp only [opS] at e; cases e
      | nil =>
        cases r <;> cases r2 <;> first | (simp only [opS] at e; cases e; done) | skip
        simp only [opS, Option.some.injEq] at e
        subst e
        exact ⟨_, _, rfl, fin0 (.int _) k⟩
end
end Iv
set_option Elab.async false
set_option linter.all false
set_option maxRecDepth 100000
set_option maxHeartbeats 1000000
/-! IvSound4: more operations by values. -/
namespace Iv
open PySem PySem.Spec PyProof.Rows
open L2 (V Hp HO SqL SqT upd upd_same upd_ne ne_of_none VK TE TA TT TI TS TG Cx Inv RelV Vals PE PT PA OpR UnR CallR IxR SlR)
section
variable {K : PySem.W.Frag} {o : Op} {H : Hp} {Q : VK} {xs : List V}
theorem ar1 (h : OpV K o xs H Q) (only : ∀ ds d, opS o ds = some d → ∃ a, ds = [a]) : ∃ x, xs = [x] ∧ OpV K o [x] H Q := by
  obtain ⟨ds, Fs, d, e, r, k⟩ := h
  obtain ⟨a, rfl⟩ := only ds d e
  cases r with
  | cons r t =>
    cases t
    exact ⟨_, rfl, [a], _, d, e, .cons r .nil, k⟩
end
section
variable {X : Cx}
theorem only_sum : ∀ ds d, opS .sum ds = some d → ∃ a, ds = [a] := by
  intro ds d e
  match ds, e with
  | [a], _ => exact ⟨a, rfl⟩
  | [], e => simp [opS] at e
  | a :: b :: r, e => cases a <;> simp [opS] at e
theorem only_all : ∀ ds d, opS .all ds = some d → ∃ a, ds = [a] := by
  intro ds d e
  match ds, e with
  | [a], _ => exact ⟨a, rfl⟩
  | [], e => simp [opS] at e
  | a :: b :: r, e => cases a <;> simp [opS] at e
theorem only_any : ∀ ds d, opS .any ds = some d → ∃ a, ds = [a] := by
  intro ds d e
  match ds, e with
  | [a], _ => exact ⟨a, rfl⟩
  | [], e => simp [opS] at e
  | a :: b :: r, e => cases a <;> simp [opS] at e
theorem only_max : ∀ ds d, opS .maxL ds = some d → ∃ a, ds = [a] := by
  intro ds d e
  match ds, e with
  | [a], _ => exact ⟨a, rfl⟩
  | [], e => simp [opS] at e
  | a :: b :: r, e => cases a <;> simp [opS] at e
theorem only_min : ∀ ds d, opS .minL ds = some d → ∃ a, ds = [a] := by
  intro ds d e
  match ds, e with
  | [a], _ => exact ⟨a, rfl⟩
  | [], e => simp [opS] at e
  | a :: b :: r, e => cases a <;> simp [opS] at e
theorem only_tuple : ∀ ds d, opS .tuple ds = some d → ∃ a, ds = [a] := by
  intro ds d e
  match ds, e with
  | [a], _ => exact ⟨a, rfl⟩
  | [], e => simp [opS] at e
  | a :: b :: r, e => cases a <;> simp [opS] at e
theorem only_list : ∀ ds d, opS .list ds = some d → ∃ a, ds = [a] := by
  intro ds d e
  match ds, e with
  | [a], _ => exact ⟨a, rfl⟩
  | [], e => simp [opS] at e
  | a :: b :: r, e => cases a <;> simp [opS] at e
theorem only_sorted : ∀ ds d, opS .sorted ds = some d → ∃ a, ds = [a] := by
  intro ds d e
  match ds, e with
  | [a], _ => exact ⟨a, rfl⟩
  | [], e => simp [opS] at e
  | a :: b :: r, e => cases a <;> simp [opS] at e
theorem callR_sum (hc : X.calm = true) : CallR X (.builtin "sum") (fun xs H Q => OpV X.K .sum xs H Q) := by
  refine callImp ((L2.cr_sum hc).or (IvR.cr_sumT hc)) fun xs H Q h => ?_
  obtain ⟨x, rfl, h⟩ := ar1 h only_sum
  obtain ⟨a, F, d, e, r, k⟩ := opV1 h
  clear h
  cases r <;> first | (simp only [opS] at e; cases e; done) | skip
  all_goals
    rename_i p vs ys Fs hp rp
    simp only [opS, Option.map_eq_some_iff] at e
    obtain ⟨ns, e1, rfl⟩ := e
    obtain ⟨rfl, _⟩ := rp.ints e1
  · exact .inl ⟨p, ns, rfl, SqL.of' hp, fin0 (.int _) k⟩
  · exact .inr ⟨p, ns, rfl, hp.sq, fin0 (.int _) k⟩
theorem callR_all (hc : X.calm = true) : CallR X (.builtin "all") (fun xs H Q => OpV X.K .all xs H Q) := by
  refine callImp (L2.cr_all hc) fun xs H Q h => ?_
  obtain ⟨x, rfl, h⟩ := ar1 h only_all
  obtain ⟨a, F, d, e, r, k⟩ := opV1 h
  clear h
  cases r <;> first | (simp only [opS] at e; cases e; done) | skip
  rename_i p vs ys Fs hp rp
  simp only [opS, Option.map_eq_some_iff] at e
  obtain ⟨ns, e1, rfl⟩ := e
  obtain ⟨rfl, _⟩ := rp.bools e1
  exact ⟨p, ns, rfl, SqL.of' hp, fin0 (.bool _) k⟩
theorem callR_any (hc : X.calm = true) : CallR X (.builtin "any") (fun xs H Q => OpV X.K .any xs H Q) := by
  refine callImp (L2.cr_any hc) fun xs H Q h => ?_
  obtain ⟨x, rfl, h⟩ := ar1 h only_any
  obtain ⟨a, F, d, e, r, k⟩ := opV1 h
  clear h
  cases r <;> first | (simp only [opS] at e; cases e; done) | skip
  rename_i p vs ys Fs hp rp
  simp only [opS, Option.map_eq_some_iff] at e
  obtain ⟨ns, e1, rfl⟩ := e
  obtain ⟨rfl, _⟩ := rp.bools e1
  exact ⟨p, ns, rfl, SqL.of' hp, fin0 (.bool _) k⟩
theorem callR_maxL (hc : X.calm = true) : CallR X (.builtin "max") (fun xs H Q => OpV X.K .maxL xs H Q) := by
  refine callImp ((L2.cr_max hc).or (IvR.cr_maxT hc)) fun xs H Q h => ?_
  obtain ⟨x, rfl, h⟩ := ar1 h only_max
  obtain ⟨a, F, d, e, r, k⟩ := opV1 h
  clear h
  cases r <;> first | (simp only [opS] at e; cases e; done) | skip
  all_goals
    rename_i p vs ys Fs hp rp
    simp only [opS, Option.bind_eq_some_iff] at e
    obtain ⟨ns, e1, e⟩ := e
    obtain ⟨rfl, _⟩ := rp.ints e1
    obtain ⟨n, r, rfl⟩ : ∃ n r, ns = n :: r := by
      cases ns with
      | nil => cases e
      | cons n r => exact ⟨n, r, rfl⟩
    simp only [Option.some.injEq] at e
    subst e
    have pick : ∀ m, m ∈ n :: r → (∀ y, y ∈ n :: r → y ≤ m) → Q (.int m) H := fun m hm hl => by
      obtain ⟨h1, h2⟩ := foldl_max r n
      have : m = r.foldl max n := Int.le_antisymm (h1 m hm) (hl _ h2)
      subst this
      exact fin0 (.int _) k
  · exact .inl ⟨p, n :: r, rfl, SqL.of' hp, by simp, pick⟩
  · exact .inr ⟨p, n :: r, rfl, hp.sq, by simp, pick⟩
theorem callR_minL (hc : X.calm = true) : CallR X (.builtin "min") (fun xs H Q => OpV X.K .minL xs H Q) := by
  refine callImp ((L2.cr_min hc).or (IvR.cr_minT hc)) fun xs H Q h => ?_
  obtain ⟨x, rfl, h⟩ := ar1 h only_min
  obtain ⟨a, F, d, e, r, k⟩ := opV1 h
  clear h
  cases r <;> first | (simp only [opS] at e; cases e; done) | skip
  all_goals
    rename_i p vs ys Fs hp rp
    simp only [opS, Option.bind_eq_some_iff] at e
    obtain ⟨ns, e1, e⟩ := e
    obtain ⟨rfl, _⟩ := rp.ints e1
    obtain ⟨n, r, rfl⟩ : ∃ n r, ns = n :: r := by
      cases ns with
      | nil => cases e
      | cons n r => exact ⟨n, r, rfl⟩
    simp only [Option.some.injEq] at e
    subst e
    have pick : ∀ m, m ∈ n :: r → (∀ y, y ∈ n :: r → m ≤ y) → Q (.int m) H := fun m hm hl => by
      obtain ⟨h1, h2⟩ := foldl_min r n
      have : m = r.foldl min n := Int.le_antisymm (hl _ h2) (h1 m hm)
      subst this
      exact fin0 (.int _) k
  · exact .inl ⟨p, n :: r, rfl, SqL.of' hp, by simp, pick⟩
  · exact .inr ⟨p, n :: r, rfl, hp.sq, by simp, pick⟩
theorem callR_tuple : CallR X (.type "tuple") (fun xs H Q => OpV X.K .tuple xs H Q) := by
  intro pins s σ H xs us Q I rx h
  obtain ⟨x, rfl, h⟩ := ar1 h only_tuple
  obtain ⟨u, rfl, ru⟩ := L2.vals1 rx
  refine L2.rl_tuple pins s σ H x u Q I ru ?_
  obtain ⟨a, F, d, e, r, k⟩ := opV1 h
  clear h
  cases r <;> first | (simp only [opS] at e; cases e; done) | skip
  · rename_i p vs ys Fs hp rp
    simp only [opS, Option.some.injEq] at e
    subst e
    exact .inl ⟨p, vs, rfl, SqL.of' hp, fun q hq => finT hq rp (fun c m => List.mem_cons_of_mem _ m) (fun n => (List.nodup_cons.mp n).2) noT k⟩
  · rename_i p vs ys Fs hp rp
    simp only [opS, Option.some.injEq] at e
    subst e
    exact .inr ⟨p, vs, rfl, hp.sq, finT0 hp rp (fun c m => m) (fun n => n) noT k⟩
theorem callR_list : CallR X (.type "list") (fun xs H Q => OpV X.K .list xs H Q) := by
  refine callImp L2.call_list_of fun xs H Q h => ?_
  obtain ⟨x, rfl, h⟩ := ar1 h only_list
  obtain ⟨a, F, d, e, r, k⟩ := opV1 h
  clear h
  cases r <;> first | (simp only [opS] at e; cases e; done) | skip
  · rename_i p vs ys Fs hp rp
    simp only [opS, Option.some.injEq] at e
    subst e
    exact ⟨p, vs, rfl, .inl (SqL.of' hp), fun q hq => finL hq rp (fun c m => List.mem_cons_of_mem _ m) (fun n => (List.nodup_cons.mp n).2) isA k⟩
  · rename_i p vs ys Fs hp rp
    simp only [opS, Option.some.injEq] at e
    subst e
    exact ⟨p, vs, rfl, .inr hp.sq, fun q hq => finL hq rp (fun c m => m) (fun n => n) isA k⟩
theorem insI_perm (x : Int) : ∀ r : List Int, (insI x r).Perm (x :: r)
  | [] => .refl _
  | y :: r => by
    unfold insI
    split
    · exact .refl _
    · exact ((insI_perm x r).cons y).trans (.swap x y r)
theorem sortI_perm : ∀ r : List Int, (sortI r).Perm r
  | [] => .refl _
  | x :: r => (insI_perm x _).trans ((sortI_perm r).cons x)
theorem insI_sorted (x : Int) : ∀ {r : List Int}, r.Pairwise (· ≤ ·) → (insI x r).Pairwise (· ≤ ·)
  | [], _ => by simp [insI]
  | y :: r, h => by
    rw [List.pairwise_cons] at h
    unfold insI
    split
    · rename_i hx
      rw [List.pairwise_cons]
      refine ⟨fun z hz => ?_, List.pairwise_cons.mpr h⟩
      rcases List.mem_cons.mp hz with e | hz
      · subst e; exact hx
      · exact Int.le_trans hx (h.1 z hz)
    · rename_i hx
      rw [List.pairwise_cons]
      refine ⟨fun z hz => ?_, insI_sorted x h.2⟩
      have := (insI_perm x r).mem_iff.mp hz
      rcases List.mem_cons.mp this with e | hz
      · subst e; omega
      · exact h.1 z hz
theorem sortI_sorted : ∀ r : List Int, (sortI r).Pairwise (· ≤ ·)
  | [] => .nil
  | x :: r => insI_sorted x (sortI_sorted r)
theorem alike_of {xs : List D} (h : alikeB xs = true) : PySem.W.AllAlike xs := fun d hd e he => by
  unfold alikeB at h
  rw [List.all_eq_true] at h
  have h2 := h d hd
  rw [List.all_eq_true] at h2
  exact h2 e he
theorem sortB_spec {xs : List D} (h : sortB xs = true) : PySem.W.AllAlike xs ∧ PySem.W.Sortable xs ∧ ∀ d ∈ xs, d.depth ≤ 60 := by
  unfold sortB at h
  simp only [Bool.and_eq_true, Bool.or_eq_true] at h
  obtain ⟨⟨h1, h2⟩, h3⟩ := h
  refine ⟨alike_of h1, ?_, fun d hd => ?_⟩
  · rcases h2 with h2 | h2
    · refine .inl fun d hd => ?_
      have := List.all_eq_true.mp h2 d hd
      unfold tupN at this
      split at this
      · exact ⟨_, _, rfl⟩
      · cases this
    · refine .inr fun d hd => ?_
      have := List.all_eq_true.mp h2 d hd
      unfold notT at this
      split at this
      · cases this
      · cases this
      · rename_i n1 n2
        exact ⟨n2, n1⟩
  · have := List.all_eq_true.mp h3 d hd
    simpa using this
theorem repL_nil {K : PySem.W.Frag} {H : Hp} : ∀ {zs : List (V × D)}, (∀ z ∈ zs, Rep K H z.1 z.2 []) → RepL K H (zs.map Prod.fst) (zs.map Prod.snd) (zs.map fun _ => [])
  | [], _ => .nil
  | z :: zs, h => .cons (h z List.mem_cons_self) (repL_nil fun y m => h y (List.mem_cons_of_mem _ m))
theorem repL_zip {K : PySem.W.Frag} {H : Hp} : ∀ {ys : List V} {ds : List D} {Fs : List (List Addr)}, RepL K H ys ds Fs → lfs ds = true → (∀ z ∈ ys.zip ds, Rep K H z.1 z.2 []) ∧ (ys.zip ds).map Prod.snd = ds
  | [], [], _, .nil, _ => ⟨fun z m => (by cases m), rfl⟩
  | y :: ys, d :: ds, _, .cons r t, h => by
    have h' : (lf d && lfs ds) = true := h
    rw [Bool.and_eq_true] at h'
    obtain ⟨h1, h2⟩ := repL_zip t h'.2
    refine ⟨fun z m => ?_, by rw [List.zip_cons_cons, List.map_cons, h2]⟩
    rcases List.mem_cons.mp (show z ∈ (y, d) :: ys.zip ds from m) with rfl | m
    · have e := r.lf_nil h'.1
      subst e; exact r
    · exact h1 z m
theorem sort_rep {K : PySem.W.Frag} {H : Hp} {ys : List V} {ds : List D} {Fs : List (List Addr)} (r : RepL K H ys ds Fs) (h : lfs ds = true) : ∃ Gs, RepL K H (((ys.zip ds).mergeSort (PySem.W.dataLe false Prod.snd)).map Prod.fst) (sortD ds) Gs ∧ Gs.flatten = [] ∧ lfs (sortD ds) = true := by
  obtain ⟨h1, h2⟩ := repL_zip r h
  have e : ((ys.zip ds).mergeSort (PySem.W.dataLe false Prod.snd)).map Prod.snd = sortD ds := by
    have := List.map_mergeSort (r := PySem.W.dataLe false Prod.snd) (s := PySem.W.dataLe false id) (f := Prod.snd) (l := ys.zip ds) (fun a _ b _ => rfl)
    rw [this, h2]; rfl
  have h3 := repL_nil (K := K) (H := H) (zs := (ys.zip ds).mergeSort (PySem.W.dataLe false Prod.snd)) fun z m => h1 z ((List.mergeSort_perm _ _).mem_iff.mp m)
  rw [e] at h3
  refine ⟨_, h3, flat_nil _, ?_⟩
  have : ∀ l : List D, (∀ x ∈ l, lf x = true) ↔ lfs l = true := fun l => by
    induction l with
    | nil => exact ⟨fun _ => rfl, fun _ x m => by cases m⟩
    | cons x l ih =>
      show _ ↔ (lf x && lfs l) = true
      rw [Bool.and_eq_true, ← ih]
      exact ⟨fun q => ⟨q x List.mem_cons_self, fun y m => q y (List.mem_cons_of_mem _ m)⟩, fun q y m => by
        rcases List.mem_cons.mp m with rfl | m
        · exact q.1
        · exact q.2 y m⟩
  exact (this _).mp fun x m => (this ds).mpr h x ((List.mergeSort_perm _ _).mem_iff.mp m)
theorem callR_sorted (hu : X.A.units + 65 < cLine) : CallR X (.builtin "sorted") (fun xs H Q => OpV X.K .sorted xs H Q) := by
  refine callImp ((L2.cr_sortedI.or (IvR.cr_sortedD hu)).or (IvR.cr_sorted1.or (IvR.cr_sortedT hu))) fun xs H Q h => ?_
  obtain ⟨x, rfl, h⟩ := ar1 h only_sorted
  obtain ⟨a, F, d, e, r, k⟩ := opV1 h
  clear h
  cases r <;> first | (simp only [opS] at e; cases e; done) | skip
  · rename_i p vs ys Fs hp rp
    simp only [opS] at e
    split at e
    · rename_i ns e1
      cases e
      obtain ⟨rfl, _⟩ := rp.ints e1
      refine .inl (.inl ⟨p, ns, rfl, SqL.of' hp, fun ns' q h1 h2 hq => ?_⟩)
      have : ns' = sortI ns := PySem.W.ksm_same (h1.trans (sortI_perm ns).symm) h2 (sortI_sorted ns)
      subst this
      have ro := RepL.of_ints (K := X.K) (H := H) (sortI ns)
      refine k (.ref q) _ (q :: ((sortI ns).map fun _ => ([] : List Addr)).flatten) (upd_keeps hq) (.list upd_same (ro.kp (.of_same (upd_keeps hq)))) (fun c m => ?_) (fun _ => ?_) fun _ => ?_
      · rw [flat_nil] at m
        have : c = q := by simpa using m
        subst this; exact .inl hq
      · rw [flat_nil]; simp
      · rw [flat_nil]
        exact ⟨by simp, fun c m => by
          have : c = q := by simpa using m
          subst this; exact hq⟩
    · split at e
      case isFalse => cases e
      rename_i hc
      cases e
      rw [Bool.and_eq_true] at hc
      obtain ⟨hlf, hc⟩ := hc
      by_cases hb : sortB ys = true
      · obtain ⟨s1, s2, s3⟩ := sortB_spec hb
        obtain ⟨Gs, g1, g2, g3⟩ := sort_rep rp hlf
        exact .inl (.inr ⟨p, vs, ys, rfl, SqL.of' hp, rp.dp, s1, s2, s3, fun q hq => finL hq g1 (fun a m => by rw [g2] at m; cases m) (fun _ => by rw [g2]; exact .nil) (fun _ => g3) k⟩)
      · rw [Bool.or_eq_true, decide_eq_true_eq] at hc
        have h1 := hc.resolve_right hb
        have e1 : sortD ys = ys := by
          match ys, h1 with
          | [], _ => simp [sortD]
          | [y], _ => simp [sortD]
          | _ :: _ :: _, h1 => simp at h1
        have e2 := rp.lfs_nil hlf
        refine .inr (.inl ⟨p, vs, rfl, SqL.of' hp, by rw [rp.len.1]; exact h1, fun q hq => ?_⟩)
        rw [e1] at k
        exact finL hq rp (fun a m => by rw [e2] at m; cases m) (fun _ => by rw [e2]; exact .nil) (fun _ => hlf) k
  · rename_i p vs ys Fs hp rp
    simp only [opS] at e
    split at e
    case isFalse => cases e
    rename_i hc
    cases e
    rw [Bool.and_eq_true] at hc
    obtain ⟨s1, s2, s3⟩ := sortB_spec hc.2
    obtain ⟨Gs, g1, g2, g3⟩ := sort_rep rp hc.1
    exact .inr (.inr ⟨p, vs, ys, rfl, hp.sq, rp.dp, s1, s2, s3, fun q hq => finL hq g1 (fun a m => by rw [g2] at m; cases m) (fun _ => by rw [g2]; exact .nil) (fun _ => g3) k⟩)
/-! ### isinstance -/
def tyD : D → Value
  | .none => .type "NoneType"
  | .bool _ => .type "bool"
  | .int _ => .type "int"
  | .str _ => .type "str"
  | .list _ => .type "list"
  | .tuple _ => .type "tuple"
  | .dict _ => .none
theorem ty_of {K : PySem.W.Frag} {H : Hp} {x : V} {d : D} {F : List Addr} (r : Rep K H x d F) : L2.TyX K H x (tyD d) := by
  cases r with
  | none => exact .base .non
  | bool b => exact .base (.bl b)
  | int i => exact .base (.int i)
  | str z => exact .base (.str z)
  | list h _ => exact .base (.lst h)
  | tuple h _ =>
    rcases h with h | h
    · exact .base (.tup h)
    · rcases h H with (h' | ⟨o, h'⟩) | ⟨o, its, n, h1, h2, _⟩
      · exact .base (.tup h')
      · exact .fTuple h'
      · exact .kTuple h1 h2
end
end Iv
set_option Elab.async false
set_option linter.all false
set_option maxRecDepth 100000
set_option maxHeartbeats 1000000
/-! IvSound5: how a term's text is read (cE); the readings of single terms. -/
namespace Iv
open PySem PySem.Spec PyProof.Rows
open L2 (V Hp HO SqL SqT upd upd_same upd_ne ne_of_none VK TE TA TT TI TS TG Cx Inv RelV Vals PE PT PA PW OpR UnR CallR IxR SlR)

structure Gam where
  N : List Str
  sc : List (Str × NameKind)
  fns : List (Str × Bool)
  cst : List (Str × D)

def findIx (x : Str) : List Str → Option Nat
  | [] => none
  | y :: r => if x = y then some 0 else (findIx x r).map (· + 1)
theorem findIx_get {x : Str} : ∀ {l : List Str} {i : Nat}, findIx x l = some i → l[i]? = some x
  | [], _, h => by simp [findIx] at h
  | y :: r, i, h => by
    unfold findIx at h
    split at h
    · rename_i e; cases h; subst e; rfl
    · rw [Option.map_eq_some_iff] at h
      obtain ⟨j, e, rfl⟩ := h
      simpa using findIx_get e
def isLoc (k : Option NameKind) : Bool := match k with
  | some .local | some .cell | some .free => true
  | _ => false
def isSt (k : Option NameKind) : Bool := match k with
  | some .local | some .cell => true
  | _ => false
def isGl (k : Option NameKind) : Bool := match k with
  | some .globalImplicit => true
  | _ => false
def plainName (x : Str) : Bool := !(x == ("__debug__" : Str)) && !(x == ("__classdict__" : Str)) && !(x == ("__name__" : Str))
def Gam.any (γ : Gam) (x : Str) : Option Nat := if isLoc (γ.sc.lookup x) && plainName x then findIx x γ.N else none
def Gam.slot (γ : Gam) (x : Str) : Option Nat := if x == ("hand" : Str) then none else γ.any x
def Gam.hand (γ : Gam) (x : Str) : Option Nat := if x == ("hand" : Str) then γ.any x else none
def Gam.gl (γ : Gam) (x : Str) : Bool := isGl (γ.sc.lookup x) && plainName x
def fnIx (x : Str) : List (Str × Bool) → Option (Nat × Bool)
  | [] => none
  | (y, b) :: r => if x = y then some (0, b) else (fnIx x r).map fun p => (p.1 + 1, p.2)
theorem fnIx_get {x : Str} : ∀ {l : List (Str × Bool)} {i : Nat} {b : Bool}, fnIx x l = some (i, b) → l[i]? = some (x, b)
  | [], _, _, h => by simp [fnIx] at h
  | (y, c) :: r, i, b, h => by
    unfold fnIx at h
    split at h
    · rename_i e; cases h; subst e; rfl
    · rw [Option.map_eq_some_iff] at h
      obtain ⟨⟨j, d⟩, e, q⟩ := h
      cases q
      simpa using fnIx_get e

def binOp : Operator → Option Op
  | .Add => some .add
  | .Sub => some .sub
  | .Mult => some .mul
  | .FloorDiv => some .fdiv
  | .Mod => some .mod
  | .Pow => some .pow
  | _ => none
def cmpOp : CmpOp → Op
  | .Eq => .eq
  | .NotEq => .ne
  | .Lt => .lt
  | .LtE => .le
  | .Gt => .gt
  | .GtE => .ge
  | .Is => .is_
  | .IsNot => .isnt
  | .In => .isin
  | .NotIn => .notin
/-- a built-in by its name and how many arguments it has -/
def blt (x : Str) (n : Nat) : Option Op :=
  if n = 1 then
    (if x = ("len" : Str) then some .len else if x = ("abs" : Str) then some .abs else if x = ("int" : Str) then some .int else if x = ("max" : Str) then some .maxL else if x = ("min" : Str) then some .minL
    else if x = ("sum" : Str) then some .sum else if x = ("all" : Str) then some .all else if x = ("any" : Str) then some .any else if x = ("tuple" : Str) then some .tuple else if x = ("list" : Str) then some .list
    else if x = ("sorted" : Str) then some .sorted else none)
  else if n = 2 then (if x = ("max" : Str) then some .max2 else if x = ("min" : Str) then some .min2 else none)
  else none
def isType (x : Str) : Option Op :=
  if x = ("int" : Str) then some .isint else if x = ("bool" : Str) then some .isbool else if x = ("tuple" : Str) then some .istup else if x = ("list" : Str) then some .islist else if x = ("str" : Str) then some .isstr else none
def bltNames : List Str := ["len", "abs", "int", "max", "min", "sum", "all", "any", "tuple", "list", "sorted", "isinstance", "bool", "range", "enumerate", "zip", "reversed", "str"]

/-- no star, no slice, no set -/
def plainE : Expr → Bool
  | .Starred _ _ => false
  | .Slice _ _ _ _ => false
  | .Set _ _ _ => false
  | _ => true
def testOk : Expr → Bool
  | .IfExp _ _ _ _ => false
  | .UnaryOp .Not e _ => testOk e
  | .BoolOp _ es _ => go es
  | _ => true
where
  go : List Expr → Bool
    | [] => true
    | e :: es => testOk e && go es

def mapO (f : Expr → Option E) : List Expr → Option (List E)
  | [] => some []
  | e :: es => if plainE e then (f e).bind fun c => (mapO f es).map (c :: ·) else none
def cBools (f : Expr → Option E) (op : BoolOp) : List Expr → Option E
  | [] => none
  | [e] => f e
  | e :: es => (f e).bind fun a => (cBools f op es).map fun b => match op with
    | .And => .and a b
    | .Or => .or a b
def cPart (f : Expr → Option E) : Option Expr → Option E
  | none => some (.cst .none)
  | some e => (f e).map fun c => .op .idx [c]
def Gam.stk (γ : Gam) (x : Str) : Option Nat := if isSt (γ.sc.lookup x) && !(x == ("hand" : Str)) && plainName x then findIx x γ.N else none
def cTg (γ : Gam) : Expr → Option Tg
  | .Name x _ => (γ.stk x).map .nm
  | .Tuple es _ _ => (go es).map .tp
  | _ => none
where
  go : List Expr → Option (List Nat)
    | [] => some []
    | .Name x _ :: es => (γ.stk x).bind fun i => (go es).map (i :: ·)
    | _ => none
def isTupE : Expr → Bool
  | .Tuple _ _ _ => true
  | _ => false
/-- an iterable: its kind, its parts -/
def cIt (f : Expr → Option E) (γ : Gam) (tg : Expr) (e : Expr) : Option (IK × List E) :=
  match e with
  | .Call (.Name x _) es [] _ =>
    if γ.gl x then
      (if x = ("range" : Str) then (if es.length = 1 ∨ es.length = 2 then (mapO f es).map fun cs => (.rng, cs) else none)
      else if x = ("enumerate" : Str) then (if es.length = 1 ∧ isTupE tg then (mapO f es).map fun cs => (.enum, cs) else none)
      else if x = ("zip" : Str) then (if es.length = 2 ∧ isTupE tg then (mapO f es).map fun cs => (.zip, cs) else none)
      else if x = ("reversed" : Str) then (if es.length = 1 then (mapO f es).map fun cs => (.rev, cs) else none)
      else if plainE e then (f e).map fun c => (.val, [c]) else none)
    else none
  | e => if plainE e then (f e).map fun c => (.val, [c]) else none
def cCond (f : Expr → Option E) : List Expr → Option (Option E)
  | [] => some none
  | [e] => if testOk e then (f e).map some else none
  | _ => none
def nodupB : List Nat → Bool
  | [] => true
  | x :: r => !r.contains x && nodupB r
/-- a comprehension's own names with their places -/
def ownOf (N : List Str) (ns : List (Str × NameKind)) : List (Str × Nat) := ns.filterMap fun p => match p.2 with
  | .local | .cell => (findIx p.1 N).map fun i => (p.1, i)
  | _ => none

def cSub (f : Expr → Option E) (γ : Gam) (v i : Expr) : Option E :=
  match i with
  | .Slice none none (some (.UnaryOp .USub (.Constant (.int 1) _ _) _)) _ => (f v).map fun cv => .op .slrev [cv]
  | .Slice lo hi none _ => (f v).bind fun cv => (cPart f lo).bind fun cl => (cPart f hi).map fun ch => .op .slice [cv, cl, ch]
  | i => if plainE i then (match v with
    | .Name x p => (match γ.hand x with
      | some j => (f i).map fun c => .hix j c
      | none => (f (.Name x p)).bind fun cv => (f i).map fun c => .op .ix [cv, c])
    | v => (f v).bind fun cv => (f i).map fun c => .op .ix [cv, c]) else none
/-- list(range(..)) -/
def cRng (f : Expr → Option E) (γ : Gam) (x : Str) (es : List Expr) : Option E := if x = ("list" : Str) then (match es with
  | [.Call (.Name r _) as [] _] => if r = ("range" : Str) ∧ γ.gl r = true ∧ (as.length = 1 ∨ as.length = 2) then (mapO f as).map fun cs => .op .lrng cs else none
  | _ => none) else none
def nameE : Expr → Option Str
  | .Name x _ => some x
  | _ => none
def trueE : Expr → Bool
  | .Constant (.bool b) _ _ => b
  | _ => false
/-- len({x: True for x in ..}) -/
def cDist (f : Expr → Option E) (γ : Gam) (x : Str) (es : List Expr) : Option E := if x = ("len" : Str) then (match es with
  | [.DictComp kx vx [⟨tg, it, ifs, z⟩] scope _] => (nameE kx).bind fun a => (nameE tg).bind fun b =>
    if z = 0 ∧ ifs = [] ∧ (trueE vx && plainE it && L2.blkC γ.N { kind := .function, names := γ.sc, isGenerator := false, isCoroutine := false } scope (ownOf γ.N scope.names)) = true then
      (cIt f γ tg it).bind fun p => (Gam.stk { γ with sc := scope.names } b).bind fun i => (Gam.any { γ with sc := scope.names } a).bind fun j =>
        if i = j ∧ (ownOf γ.N scope.names).map (·.2) = [i] then some (.op .ndist [.comp (.nm i) p.1 p.2 none (.var i)]) else none
    else none
  | _ => none) else none
def cCall (f : Expr → Option E) (γ : Gam) (fn : Expr) (es : List Expr) (pos : Pos) : Option E :=
  match fn with
  | .Name x _ =>
    if γ.gl x then
      (match fnIx x γ.fns with
      | some (g, true) => (match es with
        | .Name y _ :: es => (γ.hand y).bind fun j => (mapO f es).map fun cs => .call g (some j) cs
        | _ => none)
      | some (g, false) => (mapO f es).map fun cs => .call g none cs
      | none =>
        if x = ("isinstance" : Str) then (match es with
          | [e, .Name t _] => if plainE e && γ.gl t && bltNames.contains t then (isType t).bind fun o => (f e).map fun c => .op o [c] else none
          | _ => none)
        else (match cRng f γ x es with
          | some c => some c
          | none => match cDist f γ x es with
          | some c => some c
          | none => if bltNames.contains x then (blt x es.length).bind fun o => (mapO f es).map fun cs => .op o cs else none))
    else none
  | .Attribute (.Name x _) m apos =>
    if m = ("pop" : Str) ∧ (apos.endLine == pos.line) = true then (match es with
      | [] => (γ.slot x).map .pop
      | [e] => if plainE e then (γ.slot x).bind fun i => (f e).map fun c => .popat i c else none
      | _ => none) else none
  | _ => none

def cE : Nat → Gam → Expr → Option E
  | 0, _, _ => none
  | n + 1, γ, .Constant c _ _ => match c with
    | .int i => some (.cst (.int i))
    | .bool b => some (.cst (.bool b))
    | .none => some (.cst .none)
    | .str x => some (.cst (.str x))
    | _ => none
  | n + 1, γ, .Name x _ => match γ.slot x with
    | some i => some (.var i)
    | none => if γ.gl x then (γ.cst.lookup x).map .cst else none
  | n + 1, γ, .BinOp a op b _ => (cE n γ a).bind fun ca => (cE n γ b).bind fun cb => (binOp op).map fun o => .op o [ca, cb]
  | n + 1, γ, .UnaryOp .USub a _ => (cE n γ a).map fun c => .op .neg [c]
  | n + 1, γ, .UnaryOp .Not a _ => if testOk a then (cE n γ a).map .not else none
  | n + 1, γ, .BoolOp op es _ => cBools (cE n γ) op es
  | n + 1, γ, .IfExp c a b _ => if testOk c then (cE n γ c).bind fun cc => (cE n γ a).bind fun ca => (cE n γ b).map fun cb => .ifx cc ca cb else none
  | n + 1, γ, .Compare a [op] [b] _ => if behindInMarks op b then none else (cE n γ a).bind fun ca => (cE n γ b).map fun cb => .op (cmpOp op) [ca, cb]
  | n + 1, γ, .Compare a [op, op'] [b, c] _ => if lastMarks [op, op'] [b, c] then none else (cE n γ a).bind fun ca => (cE n γ b).bind fun cb => (cE n γ c).map fun cc => .chain (cmpOp op) (cmpOp op') ca cb cc
  | n + 1, γ, .Subscript v i _ => cSub (cE n γ) γ v i
  | n + 1, γ, .Tuple es _ _ => (mapO (cE n γ) es).map fun cs => .op .tupD cs
  | n + 1, γ, .List es _ => (mapO (cE n γ) es).map fun cs => .op .lstD cs
  | n + 1, γ, .ListComp elt [⟨tg, it, ifs, z⟩] scope _ =>
    let γ' : Gam := { γ with sc := scope.names }
    if z = 0 ∧ (plainE it && L2.blkC γ.N { kind := .function, names := γ.sc, isGenerator := false, isCoroutine := false } scope (ownOf γ.N scope.names)) = true then
      (cIt (cE n γ) γ tg it).bind fun p => (cTg γ' tg).bind fun t => (cCond (cE n γ') ifs).bind fun c => (cE n γ' elt).bind fun ce =>
        if nodupB t.slots && t.slots.all (fun i => ((ownOf γ.N scope.names).map (·.2)).contains i) && ((ownOf γ.N scope.names).map (·.2)).all (fun i => t.slots.contains i) && plainE elt then some (.comp t p.1 p.2 c ce) else none
    else none
  | n + 1, γ, .Call fn es [] pos => cCall (cE n γ) γ fn es pos
  | _, _, _ => none
end Iv
set_option Elab.async false
set_option linter.all false
set_option maxRecDepth 100000
set_option maxHeartbeats 1000000
/-! IvSound6: the readings of single terms; calls. -/
namespace Iv
open PySem PySem.Spec PyProof.Rows
open L2 (V Hp HO SqL SqT upd upd_same upd_ne ne_of_none VK TE TA TT TI TS TG Cx Inv RelV Vals PE PT PA PW OpR UnR CallR IxR SlR Vis Gl FnOk Room Binds CX0 Sp XK tTest)

variable {K : PySem.W.Frag} {F : Fns}

/-- what a def promises: it answers as φ does -/
def spOf (K : PySem.W.Frag) (φ : List D → G → Option (D × G)) (h : Bool) : Sp := fun vs H Q _ => ∃ (ah : Option Addr) (g : G) (Fg : List Addr) (ds : List D) (ws : List V) (Fs : List (List Addr)) (d : D) (g' : G),
  φ ds g = some (d, g') ∧ HandOk K H ah g Fg ∧ (if h = true then ∃ a, ah = some a ∧ vs = .ref a :: ws else vs = ws) ∧ RepL K H ws ds Fs ∧ (∀ a ∈ Fs.flatten, some a ≠ ah) ∧
  ∀ (v : V) (H' : Hp) (Fx Fg' : List Addr), Rep K H' v d Fx → Fx.Nodup → (∀ a ∈ Fx, H a = none ∧ some a ≠ ah ∧ a ∉ Fg') → HandOk K H' ah g' Fg' → (∀ a ∈ Fg', a ∈ Fg) → (∀ a o, H a = some o → some a ≠ ah → H' a = some o) → (∀ a, H' a = none → H a = none) →
    (∀ a vs, H a = some (.tup vs) → H' a = some (.tup vs)) → Q v H'

structure Ctx (X : Cx) (γ : Gam) (F : Fns) (k : Nat) : Prop where
  calm : X.calm = true
  room : Room k X.A
  hN : X.N = γ.N
  nd : X.N.Nodup
  vis : ∀ x, isLoc (γ.sc.lookup x) = true → Vis X.env.scope x
  gl : ∀ x, isGl (γ.sc.lookup x) = true → Gl X x
  st : ∀ x, isSt (γ.sc.lookup x) = true → L2.Loc X.env.scope x ∧ (X.fn x = true ∨ X.env.scope.names.lookup x = some .local)
  cell : ∀ x, (γ.sc.lookup x = some .cell ∨ γ.sc.lookup x = some .free) → X.env.scope.names.lookup x = some .cell ∨ X.env.scope.names.lookup x = some .free
  fns : ∀ i x h, γ.fns[i]? = some (x, h) → ∃ (f : Addr) (fd : FuncData) (ps : List Str), X.mg x = some (.ref f) ∧ PySem.W.keepIn X.K (.ref f) = true ∧ FnOk X.prog X.w X.K X.mg X.base CX0 k f fd ps (spOf X.K (F i) h) ∧ Binds X.K fd ps []
  blt : ∀ x ∈ bltNames, X.mg x = none
  cst : ∀ x d, γ.cst.lookup x = some d → ∃ (u : Value) (v : V), X.mg x = some u ∧ RelV v u ∧ ∀ H, Rep X.K H v d []
theorem Ctx.un {X : Cx} {γ : Gam} {k : Nat} (C : Ctx X γ F k) : X.A.units + 65 < cLine := by have := C.room.un; omega

theorem stp_id {ah : Option Addr} {P : List Nat} {H H1 H2 : Hp} {s s1 : St} {Fs Fs1 : Fp} {Fg Fg1 : List Addr} (a : Stp ah P H s Fs Fg H1 s1 Fs1 Fg1) (same : ∀ a o, H1 a = some o → H2 a = some o) : Stp ah P H s Fs Fg H2 s1 Fs1 Fg1 := by
  have := a.trans (Stp.same (ah := ah) (s := s1) (Fs := Fs1) (Fg := Fg1) same)
  rwa [List.append_nil] at this

/-! ### constants and names -/
theorem rd_sl {s : St} {i : Nat} {d : D} (h : rd s i = some d) : sl s i = .sh d ∨ sl s i = .ow d := by
  unfold rd at h
  unfold sl
  rw [List.getD_eq_getElem?_getD]
  cases e : s.1[i]? with
  | none => rw [e] at h; cases h
  | some x =>
    rw [e] at h
    cases x with
    | no => cases h
    | sh v => cases h; exact .inl rfl
    | ow v => cases h; exact .inr rfl
    | hd => cases h
theorem isHd_sl {s : St} {i : Nat} (h : isHd s i = true) : sl s i = .hd := by
  unfold isHd at h
  unfold sl
  rw [List.getD_eq_getElem?_getD]
  cases e : s.1[i]? with
  | none => rw [e] at h; cases h
  | some x =>
    rw [e] at h
    cases x with
    | no => cases h
    | sh v => cases h
    | ow v => cases h
    | hd => rfl
theorem own_sl {s : St} {i : Nat} {d : D} (h : own s i = some d) : sl s i = .ow d := by
  unfold own at h
  unfold sl
  rw [List.getD_eq_getElem?_getD]
  cases e : s.1[i]? with
  | none => rw [e] at h; cases h
  | some x =>
    rw [e] at h
    cases x with
    | no => cases h
    | sh v => cases h
    | ow v => cases h; rfl
    | hd => cases h
theorem tIE_cst {v : D} {x : V} {σ : L2.St} {H : Hp} {Q : VK} (r : ∀ H, Rep K H x v []) (h : tIE K F (.cst v) σ H Q) : Q x H := by
  obtain ⟨ah, H0, s, Fs, Fg, d, s', R, e, k⟩ := h
  simp only [ev, Option.some.injEq, Prod.mk.injEq] at e
  obtain ⟨rfl, rfl⟩ := e
  exact k x H Fs Fg [] [] (fun _ h => nomatch h) R .refl (r H) .nil
theorem tIE_var {i : Nat} {σ : L2.St} {H : Hp} {Q : VK} (h : tIE K F (.var i) σ H Q) : L2.tVar i σ H Q := by
  obtain ⟨ah, H0, s, Fs, Fg, d, s', R, e, k⟩ := h
  simp only [ev, Option.map_eq_some_iff, Prod.mk.injEq] at e
  obtain ⟨d', e, rfl, rfl⟩ := e
  have so : ∃ x, σ[i]? = some (some x) ∧ Rep K H x d' (Fs i) := by
    have := R.slot i
    rcases rd_sl e with q | q
    · rw [q] at this; exact this
    · rw [q] at this; exact this
  obtain ⟨x, e1, r⟩ := so
  refine ⟨x, e1, k x H Fs Fg (Fs i) [] (fun _ h => nomatch h) R .refl r ⟨R.noah i, fun a m => .inr (.inl ⟨i, by simp [E.mentions], m⟩), fun hf => ?_⟩⟩
  simp [E.fresh] at hf
theorem hd_slot {ah : Option Addr} {H0 : Hp} {i : Nat} {σ : L2.St} {H : Hp} {s : St} {Fs : Fp} {Fg : List Addr} (R : SR K ah H0 σ H s Fs Fg) (h : isHd s i = true) : ∃ a, ah = some a ∧ σ[i]? = some (some (.ref a)) := by
  have := R.slot i
  rw [isHd_sl h] at this
  exact this.2

/-! ### and, or, not, if, chains -/
def isBl (x : V) : Prop := ∃ b, x = .bl b
theorem rep_bl {H : Hp} {x : V} {b : Bool} {F : List Addr} (r : Rep K H x (.bool b) F) : x = .bl b ∧ F = [] := by
  cases r; exact ⟨rfl, rfl⟩
/-- a bool is handed back -/
theorem ms_l {a b : Bool} (h : a = true) : (a || b) = true := by simp [h]
theorem ms_r {a b : Bool} (h : b = true) : (a || b) = true := by simp [h]
theorem tIE_and {a b : E} {σ : L2.St} {H : Hp} {Q : VK} (h : tIE K F (.and a b) σ H Q) : tIE K F a σ H fun x H1 => ∃ c, x = .bl c ∧ if c = true then tIE K F b σ H1 (fun y H2 => ∃ d, y = .bl d ∧ Q (.bl d) H2) else Q (.bl false) H1 := by
  obtain ⟨ah, H0, s, Fs, Fg, d, s', R, e, k⟩ := h
  unfold ev at e
  rw [Option.bind_eq_some_iff] at e
  obtain ⟨⟨d1, s1⟩, e1, e⟩ := e
  refine ⟨ah, H0, s, Fs, Fg, d1, s1, R, e1, fun v H1 Fs1 Fg1 Fx P1 hP1 R1 St1 rp rs => ?_⟩
  cases d1 <;> first | (cases e; done) | skip
  rename_i c
  cases rp
  refine ⟨c, rfl, ?_⟩
  cases c with
  | true =>
    rw [if_pos rfl]
    simp only [Option.bind_eq_some_iff] at e
    obtain ⟨⟨d2, s2⟩, e2, e⟩ := e
    refine ⟨ah, H0, s1, Fs1, Fg1, d2, s2, R1, e2, fun v H2 Fs2 Fg2 Fx P2 hP2 R2 St2 rp rs => ?_⟩
    cases d2 <;> first | (cases e; done) | skip
    rename_i c2
    cases e
    cases rp
    refine ⟨c2, rfl, k (.bl c2) H2 Fs2 Fg2 [] (P1 ++ P2) (fun i hi => ?_) R2 (St1.trans St2) (.bool c2) .nil⟩
    unfold E.popL
    rcases List.mem_append.mp hi with z | z
    · exact List.mem_append_left _ (hP1 i z)
    · exact List.mem_append_right _ (hP2 i z)
  | false =>
    rw [if_neg Bool.false_ne_true]
    cases e
    exact k (.bl false) H1 Fs1 Fg1 [] P1 (fun i hi => List.mem_append_left _ (hP1 i hi)) R1 St1 (.bool false) .nil
theorem tIE_or {a b : E} {σ : L2.St} {H : Hp} {Q : VK} (h : tIE K F (.or a b) σ H Q) : tIE K F a σ H fun x H1 => ∃ c, x = .bl c ∧ if c = true then Q (.bl true) H1 else tIE K F b σ H1 (fun y H2 => ∃ d, y = .bl d ∧ Q (.bl d) H2) := by
  obtain ⟨ah, H0, s, Fs, Fg, d, s', R, e, k⟩ := h
  unfold ev at e
  rw [Option.bind_eq_some_iff] at e
  obtain ⟨⟨d1, s1⟩, e1, e⟩ := e
  refine ⟨ah, H0, s, Fs, Fg, d1, s1, R, e1, fun v H1 Fs1 Fg1 Fx P1 hP1 R1 St1 rp rs => ?_⟩
  cases d1 <;> first | (cases e; done) | skip
  rename_i c
  cases rp
  refine ⟨c, rfl, ?_⟩
  cases c with
  | false =>
    rw [if_neg Bool.false_ne_true]
    simp only [Option.bind_eq_some_iff] at e
    obtain ⟨⟨d2, s2⟩, e2, e⟩ := e
    refine ⟨ah, H0, s1, Fs1, Fg1, d2, s2, R1, e2, fun v H2 Fs2 Fg2 Fx P2 hP2 R2 St2 rp rs => ?_⟩
    cases d2 <;> first | (cases e; done) | skip
    rename_i c2
    cases e
    cases rp
    refine ⟨c2, rfl, k (.bl c2) H2 Fs2 Fg2 [] (P1 ++ P2) (fun i hi => ?_) R2 (St1.trans St2) (.bool c2) .nil⟩
    unfold E.popL
    rcases List.mem_append.mp hi with z | z
    · exact List.mem_append_left _ (hP1 i z)
    · exact List.mem_append_right _ (hP2 i z)
  | true =>
    rw [if_pos rfl]
    cases e
    exact k (.bl true) H1 Fs1 Fg1 [] P1 (fun i hi => List.mem_append_left _ (hP1 i hi)) R1 St1 (.bool true) .nil
theorem tIE_not {a : E} {σ : L2.St} {H : Hp} {Q : VK} (h : tIE K F (.not a) σ H Q) : tIE K F a σ H fun x H1 => ∃ c, x = .bl c ∧ Q (.bl (!c)) H1 := by
  obtain ⟨ah, H0, s, Fs, Fg, d, s', R, e, k⟩ := h
  unfold ev at e
  rw [Option.bind_eq_some_iff] at e
  obtain ⟨⟨d1, s1⟩, e1, e⟩ := e
  refine ⟨ah, H0, s, Fs, Fg, d1, s1, R, e1, fun v H1 Fs1 Fg1 Fx P1 hP1 R1 St1 rp rs => ?_⟩
  cases d1 <;> first | (cases e; done) | skip
  rename_i c
  cases rp
  cases e
  exact ⟨c, rfl, k (.bl (!c)) H1 Fs1 Fg1 [] P1 hP1 R1 St1 (.bool (!c)) .nil⟩
/-- what is handed back behind a test, a step ahead -/
theorem res_behind {ah : Option Addr} {H0 : Hp} {M M1 : Nat → Bool} {P1 P2 : List Nat} {H H1 H2 : Hp} {s s1 : St} {Fs Fs1 Fs2 : Fp} {Fg Fg1 Fg2 Fx : List Addr} {fr fr' : Prop}
    (St1 : Stp ah P1 H s Fs Fg H1 s1 Fs1 Fg1) (rs : Res K ah H0 M1 P2 H1 Fs1 Fg1 fr H2 Fs2 Fg2 Fx) (hm : ∀ i, M1 i = true → M i = true) (hf : fr' → fr) : Res K ah H0 M (P1 ++ P2) H Fs Fg fr' H2 Fs2 Fg2 Fx := by
  refine ⟨rs.noah, fun a m => ?_, fun q => ?_⟩
  · rcases rs.frame a m with z | ⟨i, z1, z2⟩ | z
    · exact .inl (St1.there a z)
    · exact .inr (.inl ⟨i, hm i z1, St1.fsub i a z2⟩)
    · exact .inr (.inr (St1.fg a z))
  · obtain ⟨n, f⟩ := rs.fresh (hf q)
    refine ⟨n, fun a m => ?_⟩
    obtain ⟨q1, q2, q3, q4⟩ := f a m
    refine ⟨q1, q2, q3, ?_⟩
    rcases q4 with z | ⟨i, hi, z⟩
    · exact .inl (St1.there a z)
    · exact .inr ⟨i, List.mem_append_right _ hi, St1.fsub i a z⟩
theorem tIE_ifx {c a b : E} {σ : L2.St} {H : Hp} {Q : VK} (h : tIE K F (.ifx c a b) σ H Q) : tIE K F c σ H fun x H1 => ∃ t, x = .bl t ∧ if t = true then tIE K F a σ H1 Q else tIE K F b σ H1 Q := by
  obtain ⟨ah, H0, s, Fs, Fg, d, s', R, e, k⟩ := h
  unfold ev at e
  rw [Option.bind_eq_some_iff] at e
  obtain ⟨⟨d1, s1⟩, e1, e⟩ := e
  refine ⟨ah, H0, s, Fs, Fg, d1, s1, R, e1, fun v H1 Fs1 Fg1 Fx P1 hP1 R1 St1 rp rs => ?_⟩
  cases d1 <;> first | (cases e; done) | skip
  rename_i t
  cases rp
  refine ⟨t, rfl, ?_⟩
  cases t with
  | true =>
    rw [if_pos rfl]
    refine ⟨ah, H0, s1, Fs1, Fg1, d, s', R1, e, fun v H2 Fs2 Fg2 Fx P2 hP2 R2 St2 rp rs => ?_⟩
    refine k v H2 Fs2 Fg2 Fx (P1 ++ P2) (fun i hi => ?_) R2 (St1.trans St2) rp (res_behind St1 rs (fun i q => ?_) fun q => ?_)
    · unfold E.popL
      rcases List.mem_append.mp hi with z | z
      · simp [hP1 i z]
      · simp [hP2 i z]
    · unfold E.mentions; simp [q]
    · unfold E.fresh at q; simp only [Bool.and_eq_true] at q; exact q.1
  | false =>
    rw [if_neg Bool.false_ne_true]
    refine ⟨ah, H0, s1, Fs1, Fg1, d, s', R1, e, fun v H2 Fs2 Fg2 Fx P2 hP2 R2 St2 rp rs => ?_⟩
    refine k v H2 Fs2 Fg2 Fx (P1 ++ P2) (fun i hi => ?_) R2 (St1.trans St2) rp (res_behind St1 rs (fun i q => ?_) fun q => ?_)
    · unfold E.popL
      rcases List.mem_append.mp hi with z | z
      · simp [hP1 i z]
      · simp [hP2 i z]
    · unfold E.mentions; simp [q]
    · unfold E.fresh at q; simp only [Bool.and_eq_true] at q; exact q.2
end Iv
set_option Elab.async false
set_option linter.all false
set_option maxRecDepth 100000
set_option maxHeartbeats 1000000
/-! IvSound7: chains, the hand, calls, pops. -/
namespace Iv
open PySem PySem.Spec PyProof.Rows
open L2 (V Hp HO SqL SqT upd upd_same upd_ne ne_of_none VK TE TA TT TI TS TG Cx Inv RelV Vals PE PT PA PW OpR UnR CallR IxR SlR Vis Gl FnOk Room Binds CX0 Sp XK tTest)

variable {K : PySem.W.Frag} {F : Fns}

theorem sl_lt {s : St} {i : Nat} {d : D} (h : sl s i = .ow d) : i < s.1.length := by
  unfold sl at h
  rw [List.getD_eq_getElem?_getD] at h
  cases e : s.1[i]? with
  | none => rw [e] at h; cases h
  | some x => exact (List.getElem?_eq_some_iff.mp e).1
theorem sl_put {s : St} {i : Nat} {x : Sl} (h : i < s.1.length) (j : Nat) : sl (put s i x) j = if j = i then x else sl s j := by
  unfold sl put
  rw [List.getD_eq_getElem?_getD, List.getD_eq_getElem?_getD]
  by_cases e : j = i
  · subst e; rw [if_pos rfl, List.getElem?_set_self h]; rfl
  · rw [if_neg e, List.getElem?_set_ne (Ne.symm e)]
theorem put_len {s : St} {i : Nat} {x : Sl} : (put s i x).1.length = s.1.length := by simp [put]
/-- the footprint of one name put anew -/
def setFs (Fs : Fp) (i : Nat) (G : List Addr) : Fp := fun j => if j = i then G else Fs j
theorem setFs_same {Fs : Fp} {i : Nat} {G : List Addr} : setFs Fs i G i = G := by simp [setFs]
theorem setFs_ne {Fs : Fp} {i j : Nat} {G : List Addr} (h : j ≠ i) : setFs Fs i G j = Fs j := by simp [setFs, h]

/-- a thing of a name's own is changed -/
theorem SR.write {ah : Option Addr} {H0 H H' : Hp} {σ : L2.St} {s : St} {Fs : Fp} {Fg : List Addr} {i : Nat} {d d' : D} {x : V} {G' : List Addr} (R : SR K ah H0 σ H s Fs Fg) (ho : sl s i = .ow d) (hx : σ[i]? = some (some x))
    (hk : ∀ a o, H a = some o → a ∉ Fs i → H' a = some o) (rep : Rep K H' x d' G') (nd : G'.Nodup) (hG : ∀ a ∈ G', a ∈ Fs i ∨ (H0 a = none ∧ a ∉ Fg ∧ (∀ j, a ∉ Fs j) ∧ some a ≠ ah)) :
    SR K ah H0 σ H' (put s i (.ow d')) (setFs Fs i G') Fg := by
  have o := R.own i d ho
  have kp : ∀ G : List Addr, (∀ a ∈ G, a ∉ Fs i) → Kp G H H' := fun G h => ⟨fun a m q e => hk a q e (h a m), fun a vs e => hk a _ e fun m => by
    obtain ⟨ws, q⟩ := (R.slot i).there a m
    rw [e] at q; cases q⟩
  have lt := sl_lt ho
  have sep : ∀ j, j ≠ i → ∀ a ∈ Fs j, a ∉ Fs i := fun j hj a m q => (o.2 a q).2.2 j hj m
  refine ⟨by rw [put_len]; exact R.len, fun j => ?_, fun j e q => ?_, fun j a m => ?_, ?_, fun a q e n => ?_⟩
  · rw [sl_put lt]
    by_cases e : j = i
    · subst e; rw [if_pos rfl, setFs_same]; exact ⟨x, hx, rep⟩
    · rw [if_neg e, setFs_ne e]; exact (R.slot j).kp (kp _ (sep j e))
  · rw [sl_put lt] at q
    by_cases e : j = i
    · subst e
      rw [setFs_same]
      refine ⟨nd, fun a m => ?_⟩
      rcases hG a m with z | ⟨z1, z2, z3, _⟩
      · obtain ⟨q1, q2, q3⟩ := o.2 a z
        exact ⟨q1, q2, fun l hl => by rw [setFs_ne hl]; exact q3 l hl⟩
      · exact ⟨z1, z2, fun l hl => by rw [setFs_ne hl]; exact z3 l⟩
    · rw [if_neg e] at q
      have oj := R.own j _ q
      rw [setFs_ne e]
      refine ⟨oj.1, fun a m => ?_⟩
      obtain ⟨q1, q2, q3⟩ := oj.2 a m
      refine ⟨q1, q2, fun l hl => ?_⟩
      by_cases e2 : l = i
      · subst e2
        rw [setFs_same]
        intro z
        rcases hG a z with z | ⟨_, _, z, _⟩
        · exact q3 l (Ne.symm e) z
        · exact z j m
      · rw [setFs_ne e2]; exact q3 l hl
  · by_cases e : j = i
    · subst e
      rw [setFs_same] at m
      rcases hG a m with z | ⟨_, _, _, z⟩
      · exact R.noah j a z
      · exact z
    · rw [setFs_ne e] at m; exact R.noah j a m
  · refine R.hand.kp (kp _ fun a m q => (o.2 a q).2.1 m) fun a ea q e => hk a q e fun m => R.noah i a m ea.symm
  · exact hk a q (R.keep a q e n) fun m => by rw [(o.2 a m).1] at e; cases e
theorem stp_write {ah : Option Addr} {H0 H H' : Hp} {σ : L2.St} {s : St} {Fs : Fp} {Fg : List Addr} {i : Nat} {d d' : D} {G' : List Addr} (R : SR K ah H0 σ H s Fs Fg) (ho : sl s i = .ow d)
    (hk : ∀ a o, H a = some o → a ∉ Fs i → H' a = some o) (ht : ∀ a, H' a = none → H a = none) (hG : ∀ a ∈ G', a ∈ Fs i) : Stp ah [i] H s Fs Fg H' (put s i (.ow d')) (setFs Fs i G') Fg where
  ext := fun a o e _ h => hk a o e (h i (by simp))
  tup := fun a vs e => hk a _ e fun m => by
    obtain ⟨ws, q⟩ := (R.slot i).there a m
    rw [e] at q; cases q
  fs := fun j hj => by
    have e : j ≠ i := fun e => hj (by simp [e])
    rw [setFs_ne e, sl_put (sl_lt ho), if_neg e]
    exact ⟨rfl, rfl⟩
  fsub := fun j a m => by
    by_cases e : j = i
    · subst e; rw [setFs_same] at m; exact hG a m
    · rw [setFs_ne e] at m; exact m
  fg := fun _ h => h
  len := put_len
  pow := fun j hj => by
    have e : j = i := by simpa using hj
    subst e; exact ⟨d, ho⟩
  there := ht
/-- a list of a name's own -/
theorem SR.ownL {ah : Option Addr} {H0 H : Hp} {σ : L2.St} {s : St} {Fs : Fp} {Fg : List Addr} {i : Nat} {xs : List D} (R : SR K ah H0 σ H s Fs Fg) (ho : sl s i = .ow (.list xs)) :
    ∃ l vs Gs, σ[i]? = some (some (.ref l)) ∧ H l = some (.lst vs) ∧ RepL K H vs xs Gs ∧ Fs i = l :: Gs.flatten ∧ (l :: Gs.flatten).Nodup := by
  have q := R.slot i
  rw [ho] at q
  obtain ⟨x, e, r⟩ := q
  have nd := (R.own i _ ho).1
  generalize hF : Fs i = Fi at r nd
  cases r with
  | list h r => exact ⟨_, _, _, e, h, r, rfl, nd⟩
theorem updL_keeps {H : Hp} {l : Addr} {o : HO} {G : List Addr} : ∀ a q, H a = some q → a ∉ l :: G → upd H l o a = some q := fun a q e m => by
  rw [upd_ne (fun z => m (by simp [z]))]; exact e
theorem updL_there {H : Hp} {l : Addr} {o q : HO} (h : H l = some q) : ∀ a, upd H l o a = none → H a = none := fun a e => by
  by_cases z : a = l
  · subst z; rw [upd_same] at e; cases e
  · rwa [upd_ne z] at e
theorem kp_updL {H : Hp} {l : Addr} {o : HO} {vs : List V} {G : List Addr} (h : H l = some (.lst vs)) (n : l ∉ G) : Kp G H (upd H l o) :=
  ⟨fun a m q e => by rw [upd_ne (fun z => by subst z; exact n m)]; exact e, fun a ws e => by
    rw [upd_ne (fun z => by subst z; rw [h] at e; cases e)]; exact e⟩

theorem dropLast_flat {Gs : List (List Addr)} {F : List Addr} (h : Gs[Gs.length - 1]? = some F) : Gs.flatten = Gs.dropLast.flatten ++ F := by
  have hne : Gs ≠ [] := fun z => by subst z; simp at h
  have e : Gs.getLast hne = F := by
    rw [List.getLast_eq_getElem]
    obtain ⟨_, q⟩ := List.getElem?_eq_some_iff.mp h
    exact q
  have := List.dropLast_concat_getLast hne
  rw [e] at this
  conv => lhs; rw [← this]
  simp
theorem RepL.dropLast {H : Hp} {vs : List V} {ds : List D} {Fs : List (List Addr)} (r : RepL K H vs ds Fs) : RepL K H vs.dropLast ds.dropLast Fs.dropLast := by
  rw [List.dropLast_eq_take, List.dropLast_eq_take, List.dropLast_eq_take, r.len.1, r.len.2]
  exact r.take _
theorem tIE_pop {i : Nat} {σ : L2.St} {H : Hp} {Q : VK} (h : tIE K F (.pop i) σ H Q) : ∃ v, σ[i]? = some (some v) ∧ L2.tyV K "list" v H ∧ L2.rPop v [] H Q := by
  obtain ⟨ah, H0, s, Fs, Fg, d, s', R, e, k⟩ := h
  unfold ev at e
  split at e
  · rename_i xs ho
    rw [Option.map_eq_some_iff] at e
    obtain ⟨d', e1, e⟩ := e
    cases e
    have ho' := own_sl ho
    obtain ⟨l, vs, Gs, es, hl, rl, hF, nd⟩ := R.ownL ho'
    obtain ⟨y, Fy, y1, y2, ry⟩ := rl.get e1
    have y1' : vs[vs.length - 1]? = some y := by rw [rl.len.1]; exact y1
    have y2' : Gs[Gs.length - 1]? = some Fy := by rw [rl.len.2]; exact y2
    have hflat := dropLast_flat y2'
    have nd' := nd
    rw [hflat, List.nodup_cons, List.nodup_append, List.mem_append] at nd
    obtain ⟨nl, nd1, nd2, nd3⟩ := nd
    refine ⟨_, es, .inl ⟨rfl, vs, SqL.of' hl⟩, l, vs, y, rfl, rfl, hl, y1', ?_⟩
    have nl1 : l ∉ Gs.dropLast.flatten := fun z => nl (.inl z)
    have nl2 : l ∉ Fy := fun z => nl (.inr z)
    have hk : ∀ a o, H a = some o → a ∉ Fs i → upd H l (.lst vs.dropLast) a = some o := fun a o e m => updL_keeps (G := Gs.flatten) a o e (hF ▸ m)
    have rep' : Rep K (upd H l (.lst vs.dropLast)) (.ref l) (.list xs.dropLast) (l :: Gs.dropLast.flatten) := .list upd_same (rl.dropLast.kp (kp_updL hl nl1))
    have hG : ∀ a ∈ l :: Gs.dropLast.flatten, a ∈ Fs i := fun a m => by
      rw [hF, hflat]
      rcases List.mem_cons.mp m with z | z
      · simp [z]
      · simp [z]
    have R' := R.write ho' es hk rep' (List.nodup_cons.mpr ⟨nl1, nd1⟩) fun a m => .inl (hG a m)
    have St' := stp_write (d' := .list xs.dropLast) R ho' hk (updL_there hl) hG
    have mem : ∀ a ∈ Fy, a ∈ Fs i := fun a m => by rw [hF, hflat]; simp [m]
    refine k y _ _ _ Fy [i] (fun j hj => hj) R' St' (ry.kp (kp_updL hl nl2)) ⟨fun a m => R.noah i a (mem a m), fun a m => .inr (.inl ⟨i, by simp [E.mentions], mem a m⟩), fun _ => ⟨nd2, fun a m => ?_⟩⟩
    obtain ⟨q1, q2, q3⟩ := (R.own i _ ho').2 a (mem a m)
    refine ⟨q1, q2, fun j => ?_, .inr ⟨i, by simp, mem a m⟩⟩
    by_cases z : j = i
    · subst z
      rw [setFs_same]
      intro q
      rcases List.mem_cons.mp q with z | z
      · subst z; exact nl2 m
      · exact nd3 a z a m rfl
    · rw [setFs_ne z]; exact q3 j z
  · cases e

theorem ixN_lt {n j : Nat} {i : Int} (h : ixN n i = some j) : j < n ∧ seqIndex? i n = some j := by
  obtain ⟨h1, h2, _⟩ := L2.ixN_seq (n := n) (i := i) (j := j) h
  exact ⟨h2, h1⟩
theorem erase_flat : ∀ {Gs : List (List Addr)} {F : List Addr} {j : Nat}, Gs[j]? = some F → (Gs.eraseIdx j).flatten.Sublist Gs.flatten ∧ (Gs.flatten.Nodup → ∀ a ∈ F, a ∉ (Gs.eraseIdx j).flatten)
  | [], _, _, h => by simp at h
  | G :: Gs, F, 0, h => by
    simp at h; subst h
    simp only [List.eraseIdx_cons_zero, List.flatten_cons]
    exact ⟨List.sublist_append_right _ _, fun n a m q => (List.nodup_append.mp n).2.2 a m a q rfl⟩
  | G :: Gs, F, j + 1, h => by
    obtain ⟨h1, h2⟩ := erase_flat (Gs := Gs) (F := F) (j := j) (by simpa using h)
    simp only [List.eraseIdx_cons_succ, List.flatten_cons]
    refine ⟨(List.Sublist.refl _).append h1, fun n a m q => ?_⟩
    rw [List.nodup_append] at n
    rcases List.mem_append.mp q with z | z
    · exact n.2.2 a z a (mem_flat (j := j) (by simpa using h) a m) rfl
    · exact h2 n.2.1 a m z
theorem hasL_sl {s : St} {i : Nat} (h : hasL s i = true) : ∃ xs, sl s i = .ow (.list xs) := by
  unfold hasL at h
  split at h
  · rename_i xs e; exact ⟨xs, own_sl e⟩
  · cases h
theorem tIE_popat {i : Nat} {c : E} {σ : L2.St} {H : Hp} {Q : VK} (hw : c.popL = []) (h : tIE K F (.popat i c) σ H Q) : ∃ v, σ[i]? = some (some v) ∧ L2.tyV K "list" v H ∧ tIE K F c σ H fun y H1 => L2.rPopAt v [y] H1 Q := by
  obtain ⟨ah, H0, s, Fs, Fg, d, s', R, e, k⟩ := h
  unfold ev at e
  split at e
  case isFalse => cases e
  rename_i hh
  obtain ⟨xs0, ho0⟩ := hasL_sl hh
  obtain ⟨l, vs0, Gs0, es0, hl0, _, _, _⟩ := R.ownL ho0
  rw [Option.bind_eq_some_iff] at e
  obtain ⟨⟨d1, s1⟩, e1, e⟩ := e
  refine ⟨_, es0, .inl ⟨rfl, vs0, SqL.of' hl0⟩, ah, H0, s, Fs, Fg, d1, s1, R, e1, fun v H1 Fs1 Fg1 Fx P hP R1 St1 rp rs => ?_⟩
  dsimp only at e
  split at e
  · rename_i kk xs ho
    cases rp
    split at e
    · rename_i hs
      simp only [Option.bind_eq_some_iff, Option.map_eq_some_iff] at e
      obtain ⟨j, j1, d', j2, e⟩ := e
      cases e
      have ho' := own_sl ho
      obtain ⟨l1, vs, Gs, es, hl, rl, hF, nd⟩ := R1.ownL ho'
      rw [es0] at es; cases es
      obtain ⟨y, Fy, y1, y2, ry⟩ := rl.get j2
      obtain ⟨sb, sep⟩ := erase_flat y2
      have nd0 := List.nodup_cons.mp nd
      have nl1 : l ∉ (Gs.eraseIdx j).flatten := fun z => nd0.1 (sb.subset z)
      have nl2 : l ∉ Fy := fun z => nd0.1 (mem_flat y2 l z)
      simp only [small62, Bool.and_eq_true, decide_eq_true_eq] at hs
      simp only [two62] at hs
      have hk : ∀ a o, H1 a = some o → a ∉ Fs1 i → upd H1 l (.lst (vs.eraseIdx j)) a = some o := fun a o e m => updL_keeps (G := Gs.flatten) a o e (hF ▸ m)
      have rep' : Rep K (upd H1 l (.lst (vs.eraseIdx j))) (.ref l) (.list (xs.eraseIdx j)) (l :: (Gs.eraseIdx j).flatten) := .list upd_same ((rl.eraseIdx j).kp (kp_updL hl nl1))
      have hG : ∀ a ∈ l :: (Gs.eraseIdx j).flatten, a ∈ Fs1 i := fun a m => by
        rw [hF]
        rcases List.mem_cons.mp m with z | z
        · simp [z]
        · exact List.mem_cons_of_mem _ (sb.subset z)
      have R' := R1.write ho' es0 hk rep' (List.nodup_cons.mpr ⟨nl1, nd0.2.sublist sb⟩) fun a m => .inl (hG a m)
      have St' := stp_write (d' := .list (xs.eraseIdx j)) R1 ho' hk (updL_there hl) hG
      have mem : ∀ a ∈ Fy, a ∈ Fs1 i := fun a m => by rw [hF]; exact List.mem_cons_of_mem _ (mem_flat y2 a m)
      refine ⟨l, vs, kk, j, y, rfl, rfl, hl, by omega, by omega, ?_, y1, ?_⟩
      · rw [rl.len.1]; exact (ixN_lt j1).2
      · refine k y _ _ _ Fy (P ++ [i]) (fun z hz => ?_) R' (St1.trans St') (ry.kp (kp_updL hl nl2)) ⟨fun a m => R1.noah i a (mem a m), fun a m => .inr (.inl ⟨i, by simp [E.mentions], St1.fsub i a (mem a m)⟩), fun _ => ⟨nodup_flat y2 nd0.2, fun a m => ?_⟩⟩
        · unfold E.popL
          rcases List.mem_append.mp hz with z1 | z1
          · exact List.mem_cons_of_mem _ (hP z z1)
          · have : z = i := by simpa using z1
            simp [this]
        · obtain ⟨q1, q2, q3⟩ := (R1.own i _ ho').2 a (mem a m)
          refine ⟨q1, q2, fun z => ?_, .inr ⟨i, by simp, St1.fsub i a (mem a m)⟩⟩
          by_cases hz : z = i
          · subst hz
            rw [setFs_same]
            intro q
            rcases List.mem_cons.mp q with z | z
            · subst z; exact nl2 m
            · exact sep nd0.2 a m z
          · rw [setFs_ne hz]; exact q3 z hz
    · cases e
  · cases e
theorem tIE_chain {o1 o2 : Op} {a b c : E} {σ : L2.St} {H : Hp} {Q : VK} (hw1 : a.ahead b.popL = true) (hw2 : b.ahead c.popL = true) (h : tIE K F (.chain o1 o2 a b c) σ H Q) :
    L2.tChain (fun x y H Q => OpV K o1 [x, y] H Q) (fun x y H Q => OpV K o2 [x, y] H Q) (tIE K F a) (tIE K F b) (tIE K F c) σ H (fun z H4 => ∃ d, z = .bl d ∧ Q (.bl d) H4) := by
  obtain ⟨ah, H0, s, Fs, Fg, d, s', R, e, k⟩ := h
  unfold ev at e
  rw [Option.bind_eq_some_iff] at e
  obtain ⟨⟨d1, s1⟩, e1, e⟩ := e
  simp only [Option.bind_eq_some_iff] at e
  obtain ⟨⟨d2, s2⟩, e2, e⟩ := e
  refine ⟨ah, H0, s, Fs, Fg, d1, s1, R, e1, fun x H1 Fs1 Fg1 Fx P1 hP1 R1 St1 rp1 rs1 => ?_⟩
  refine ⟨ah, H0, s1, Fs1, Fg1, d2, s2, R1, e2, fun y H2 Fs2 Fg2 Fy P2 hP2 R2 St2 rp2 rs2 => ?_⟩
  have kp1 := ahead_kp R St1 rs1 St2 hP2 (.inl hw1) rp1
  dsimp only at e
  have hop : ∀ {t : Bool}, opS o1 [d1, d2] = some (.bool t) → (t = true → ∀ H3, (∀ a o, H2 a = some o → H3 a = some o) → tIE K F c σ H3 fun w H4 => OpV K o2 [y, w] H4 fun z H4 => ∃ d, z = .bl d ∧ Q (.bl d) H4) → (t = false → ∀ H3, (∀ a o, H2 a = some o → H3 a = some o) → Q (.bl false) H3) →
      OpV K o1 [x, y] H2 fun z H3 => ∃ t, z = .bl t ∧ if t = true then tIE K F c σ H3 fun w H4 => OpV K o2 [y, w] H4 fun z H4 => ∃ d, z = .bl d ∧ Q (.bl d) H4 else ∃ d, V.bl false = .bl d ∧ Q (.bl d) H3 := fun {t} et h1 h2 => by
    refine ⟨[d1, d2], [Fx, Fy], _, et, .cons (rp1.kp kp1) (.cons rp2 .nil), fun v H3 Fz same rp _ _ _ => ?_⟩
    cases rp
    refine ⟨t, rfl, ?_⟩
    cases t with
    | true => rw [if_pos rfl]; exact h1 rfl H3 same
    | false => rw [if_neg Bool.false_ne_true]; exact ⟨false, rfl, h2 rfl H3 same⟩
  split at e
  · rename_i et
    refine hop et (fun _ H3 same => ?_) (fun z => by cases z)
    rw [Option.bind_eq_some_iff] at e
    obtain ⟨⟨d3, s3⟩, e3, e⟩ := e
    have R3 := R2.same same
    have St3 := stp_id St2 same
    have rp2' := rp2.kp (Kp.of_same (F := Fy) same)
    refine ⟨ah, H0, s2, Fs2, Fg2, d3, s3, R3, e3, fun w H4 Fs4 Fg4 Fw P4 hP4 R4 St4 rp4 rs4 => ?_⟩
    dsimp only at e
    split at e
    · rename_i t2 et2
      cases e
      have rs2' : Res K ah H0 b.mentions P2 H1 Fs1 Fg1 (b.fresh d2 = true) H3 Fs2 Fg2 Fy := ⟨rs2.noah, rs2.frame, rs2.fresh⟩
      have kp2 := ahead_kp R1 St3 rs2' St4 hP4 (.inl hw2) rp2'
      refine ⟨[d2, d3], [Fy, Fw], _, et2, .cons (rp2'.kp kp2) (.cons rp4 .nil), fun v H5 Fz same5 rp _ _ _ => ?_⟩
      cases rp
      refine ⟨t2, rfl, k (.bl t2) H5 Fs4 Fg4 [] (P1 ++ P2 ++ P4) (fun i hi => ?_) (R4.same same5) (stp_id ((St1.trans St3).trans St4) same5) (.bool t2) .nil⟩
      unfold E.popL
      rcases List.mem_append.mp hi with z | z
      · rcases List.mem_append.mp z with z | z
        · simp [hP1 i z]
        · simp [hP2 i z]
      · simp [hP4 i z]
    · cases e
  · rename_i et
    refine hop et (fun z => by cases z) (fun _ H3 same => ?_)
    cases e
    refine k (.bl false) H3 Fs2 Fg2 [] (P1 ++ P2) (fun i hi => ?_) (R2.same same) (stp_id (St1.trans St2) same) (.bool false) .nil
    unfold E.popL
    rcases List.mem_append.mp hi with z | z
    · simp [hP1 i z]
    · simp [hP2 i z]
  · cases e
/-- the hand's cells -/
theorem tIE_hix {i : Nat} {c : E} {σ : L2.St} {H : Hp} {Q : VK} (h : tIE K F (.hix i c) σ H Q) : L2.tOp (L2.rIxL K) (L2.tVar i) (tIE K F c) σ H Q := by
  obtain ⟨ah, H0, s, Fs, Fg, d, s', R, e, k⟩ := h
  unfold ev at e
  split at e
  · rename_i hh
    rw [Option.bind_eq_some_iff] at e
    obtain ⟨⟨d1, s1⟩, e1, e⟩ := e
    obtain ⟨a, ea, es⟩ := hd_slot R hh
    refine ⟨_, es, ah, H0, s, Fs, Fg, d1, s1, R, e1, fun v H1 Fs1 Fg1 Fx P hP R1 St1 rp rs => ?_⟩
    dsimp only at e
    split at e
    · rename_i kk g hg
      cases rp
      rw [Option.map_eq_some_iff] at e
      obtain ⟨d2, e2, e⟩ := e
      cases e
      have hand := R1.hand
      rw [hg] at hand
      subst ea
      obtain ⟨vs, Gs, ha, rg, eg, ng⟩ := hand
      obtain ⟨j, j1, j2⟩ := atI_get e2
      obtain ⟨y, Fy, y1, y2, ry⟩ := rg.get j2
      refine ⟨a, vs, kk, y, rfl, rfl, SqL.of' ha, ?_, ?_⟩
      · show (L2.ixN vs.length kk).bind (fun j => vs[j]?) = some y
        rw [rg.len.1, show L2.ixN g.length kk = some j from j1]
        exact y1
      · have mem : ∀ b ∈ Fy, b ∈ Fg1 := fun b m => by rw [eg]; exact mem_flat y2 b m
        refine k y H1 Fs1 Fg1 Fy P hP R1 St1 ry ⟨fun b m => R1.hand.noah b (mem b m), fun b m => .inr (.inr (St1.fg b (mem b m))), fun hf => ?_⟩
        simp [E.fresh] at hf
    · cases e
  · cases e
theorem SR.called {ah : Option Addr} {H0 H H' : Hp} {σ : L2.St} {s : St} {Fs : Fp} {Fg Fg' : List Addr} {g' : G} (R : SR K ah H0 σ H s Fs Fg) (hand : HandOk K H' ah g' Fg') (sub : ∀ a ∈ Fg', a ∈ Fg) (keep : ∀ a o, H a = some o → some a ≠ ah → H' a = some o)
    (tup : ∀ a vs, H a = some (.tup vs) → H' a = some (.tup vs)) : SR K ah H0 σ H' (s.1, g') Fs Fg' :=
  ⟨R.len, fun i => (R.slot i).kp ⟨fun a m o e => keep a o e (R.noah i a m), tup⟩, fun i d e => ⟨(R.own i d e).1, fun a m => ⟨((R.own i d e).2 a m).1, fun q => ((R.own i d e).2 a m).2.1 (sub a q), ((R.own i d e).2 a m).2.2⟩⟩, R.noah, hand,
    fun a o e n => keep a o (R.keep a o e n) n⟩
theorem stp_called {ah : Option Addr} {H H' : Hp} {s : St} {Fs : Fp} {Fg Fg' : List Addr} {g' : G} (sub : ∀ a ∈ Fg', a ∈ Fg) (keep : ∀ a o, H a = some o → some a ≠ ah → H' a = some o)
    (there : ∀ a, H' a = none → H a = none) (tup : ∀ a vs, H a = some (.tup vs) → H' a = some (.tup vs)) : Stp ah [] H s Fs Fg H' (s.1, g') Fs Fg' :=
  ⟨fun a o e n _ => keep a o e n, tup, fun _ _ => ⟨rfl, rfl⟩, fun _ _ h => h, sub, rfl, fun _ h => (nomatch h), there⟩
/-- what a call needs, behind its arguments -/
theorem call_fin {f : Nat} {h : Option Nat} {cs : List E} {σ : L2.St} {H : Hp} {Q : VK} (hq : tIE K F (.call f h cs) σ H Q) :
    ∃ (ah : Option Addr), (∀ i, h = some i → ∃ a, ah = some a ∧ σ[i]? = some (some (.ref a))) ∧ tIA K F cs σ H fun vs H1 => ∀ E, spOf K (F f) h.isSome (match ah, h with | some a, some _ => .ref a :: vs | _, _ => vs) H1 Q E := by
  obtain ⟨ah, H0, s, Fs, Fg, d, s', R, e, k⟩ := hq
  unfold ev at e
  split at e
  · rename_i hh
    rw [Option.bind_eq_some_iff] at e
    obtain ⟨⟨ds, s1⟩, e1, e⟩ := e
    rw [Option.map_eq_some_iff] at e
    obtain ⟨⟨d', g'⟩, e2, e⟩ := e
    cases e
    have hhand : ∀ i, h = some i → ∃ a, ah = some a ∧ σ[i]? = some (some (.ref a)) := fun i hi => by subst hi; exact hd_slot R hh
    refine ⟨ah, hhand, ah, H0, s, Fs, Fg, ds, s1, R, e1, fun vs H1 Fs1 Fg1 Fxs P hP R1 St1 rps rss E => ?_⟩
    refine ⟨ah, s1.2, Fg1, ds, vs, Fxs, d', g', e2, R1.hand, ?_, rps, rss.noah, fun v H' Fx Fg' rp nd new hand' sub keep there tup => ?_⟩
    · cases h with
      | none => cases ah <;> rfl
      | some i =>
        obtain ⟨a, ea, _⟩ := hhand i rfl
        subst ea
        exact ⟨a, rfl, rfl⟩
    · have St2 := St1.trans (stp_called (s := s1) (Fs := Fs1) (g' := g') sub keep there tup)
      rw [List.append_nil] at St2
      refine k v H' Fs1 Fg' Fx P hP (R1.called hand' sub keep tup) St2 rp ⟨fun a m => (new a m).2.1, fun a m => .inl (St1.there a (new a m).1), fun _ => ⟨nd, fun a m => ?_⟩⟩
      obtain ⟨q1, q2, q3⟩ := new a m
      exact ⟨R1.new q1 q2, q3, fun j => R1.notFs q1 j, .inl (St1.there a q1)⟩
  · cases e
end Iv
set_option Elab.async false
set_option linter.all false
set_option maxRecDepth 100000
set_option maxHeartbeats 1000000
/-! IvSound8: what is walked; targets; comprehensions. -/
namespace Iv
open PySem PySem.Spec PyProof.Rows
open L2 (V Hp HO SqL SqT upd upd_same upd_ne ne_of_none VK TE TA TT TI TS TG Cx Inv RelV Vals PE PT PA PW PI PG OpR UnR CallR IxR SlR Vis Gl FnOk Room Binds CX0 Sp XK tTest It Walk)

variable {K : PySem.W.Frag} {F : Fns}

/-- a walk over vs, whose cells are among Fa -/
def WalkOk (K : PySem.W.Frag) (J : It) (vs : List D) (Fa : List Addr) (H1 : Hp) : Prop := ∃ (Gd : Hp → Prop) (Y : Nat → Hp → V → Hp → Prop), Walk J vs.length Gd Y ∧ (∀ H2, Kp Fa H1 H2 → Gd H2) ∧
  ∀ i H2 x H3, i < vs.length → Kp Fa H1 H2 → Y i H2 x H3 → (∀ a o, H2 a = some o → H3 a = some o) ∧ ∃ d Fx, vs[i]? = some d ∧ Rep K H3 x d Fx ∧ ∀ a ∈ Fx, a ∈ Fa
def tII (K : PySem.W.Frag) (F : Fns) (k : IK) (cs : List E) : TI := fun σ H R => ∃ (ah : Option Addr) (H0 : Hp) (s : St) (Fs : Fp) (Fg : List Addr) (ds : List D) (s' : St) (vs : List D),
  SR K ah H0 σ H s Fs Fg ∧ evs F cs s = some (ds, s') ∧ itS k ds = some vs ∧ ∀ (J : It) (H' : Hp) (Fs' : Fp) (Fg' Fa : List Addr) (P : List Nat), (∀ i ∈ P, i ∈ E.popL.pls cs) → SR K ah H0 σ H' s' Fs' Fg' → Stp ah P H s Fs Fg H' s' Fs' Fg' →
    (∀ a ∈ Fa, some a ≠ ah) → (∀ a ∈ Fa, H a = none ∨ (∃ i, shM k cs i = true ∧ a ∈ Fs i) ∨ a ∈ Fg) → (∀ a ∈ Fa, ∃ ws, H' a = some (.lst ws)) → WalkOk K J vs Fa H' → R J H'
theorem piImp {X : Cx} {tg e : Expr} {w w' : TI} (h : PI X tg e w) (i : ∀ σ H R, w' σ H R → w σ H R) : PI X tg e w' := ⟨fun pins s σ H R I hw => h.run pins s σ H R I (i σ H R hw)⟩
theorem piOr {X : Cx} {tg e : Expr} {w w' : TI} (h : PI X tg e w) (h' : PI X tg e w') : PI X tg e (fun σ H R => w σ H R ∨ w' σ H R) := ⟨fun pins s σ H R I hw => hw.elim (h.run pins s σ H R I) (h'.run pins s σ H R I)⟩

theorem TupAt.ex {H : Hp} {a : Addr} {vs : List V} (h : TupAt K H a vs) : ∃ xs, SqT K H a xs := ⟨vs, h.sq⟩
theorem walkL {H1 : Hp} {a : Addr} {ws : List V} {vs : List D} {Gs : List (List Addr)} (h : H1 a = some (.lst ws)) (r : RepL K H1 ws vs Gs) : WalkOk K (L2.Itl K a) vs (a :: Gs.flatten) H1 := by
  refine ⟨_, _, by rw [← r.len.1]; exact L2.walk_list (xs := ws), fun H2 k => SqL.of' (k.1 a List.mem_cons_self _ h), fun i H2 x H3 hi k y => ?_⟩
  obtain ⟨rfl, hx⟩ := y
  refine ⟨fun _ _ e => e, vs[i], ?_⟩
  obtain ⟨v, Fx, h1, h2, h3⟩ := r.get (List.getElem?_eq_getElem hi)
  rw [hx] at h1; cases h1
  exact ⟨Fx, List.getElem?_eq_getElem hi, h3.kp (k.sub fun b m => List.mem_cons_of_mem _ (mem_flat h2 b m)), fun b m => List.mem_cons_of_mem _ (mem_flat h2 b m)⟩
theorem walkT {H1 : Hp} {a : Addr} {ws : List V} {vs : List D} {Gs : List (List Addr)} (h : TupAt K H1 a ws) (r : RepL K H1 ws vs Gs) : WalkOk K (L2.Itt K a) vs Gs.flatten H1 := by
  refine ⟨_, _, by rw [← r.len.1]; exact L2.walk_tup (xs := ws), fun H2 k => (h.kp k).sq, fun i H2 x H3 hi k y => ?_⟩
  obtain ⟨rfl, hx⟩ := y
  refine ⟨fun _ _ e => e, vs[i], ?_⟩
  obtain ⟨v, Fx, h1, h2, h3⟩ := r.get (List.getElem?_eq_getElem hi)
  rw [hx] at h1; cases h1
  exact ⟨Fx, List.getElem?_eq_getElem hi, h3.kp (k.sub fun b m => (mem_flat h2 b m)), fun b m => (mem_flat h2 b m)⟩
theorem rangeS_len (lo : Int) (n : Nat) : (rangeS lo n).length = n := by simp [rangeS]
theorem walkR {H1 : Hp} {lo : Int} {n : Nat} : WalkOk K (L2.Itr lo n) (rangeS lo n) [] H1 := by
  refine ⟨_, _, by rw [rangeS_len]; exact L2.walk_range, fun _ _ => True.intro, fun i H2 x H3 hi k y => ?_⟩
  obtain ⟨rfl, rfl⟩ := y
  rw [rangeS_len] at hi
  exact ⟨fun _ _ e => e, .int (lo + i), [], by simp [rangeS, hi], .int _, fun _ h => (nomatch h)⟩
theorem tupNew {H2 : Hp} {T : Addr} {x y : V} {d e : D} {Fx Fy : List Addr} (hT : H2 T = none) (rx : Rep K H2 x d Fx) (ry : Rep K H2 y e Fy) : (∀ a o, H2 a = some o → upd H2 T (.tup [x, y]) a = some o) ∧ Rep K (upd H2 T (.tup [x, y])) (.ref T) (.tuple [d, e]) ([Fx, Fy].flatten) :=
  ⟨upd_keeps hT, .tuple (.inl upd_same) (.cons (rx.kp (.of_same (upd_keeps hT))) (.cons (ry.kp (.of_same (upd_keeps hT))) .nil))⟩
theorem walkE {H1 : Hp} {a : Addr} {ws : List V} {vs : List D} {Gs : List (List Addr)} (h : H1 a = some (.lst ws)) (r : RepL K H1 ws vs Gs) : WalkOk K (L2.Ite K a) (enumS vs) (a :: Gs.flatten) H1 := by
  have hl : (enumS vs).length = ws.length := by simp [enumS, r.len.1]
  refine ⟨_, _, by rw [hl]; exact L2.walk_enum (xs := ws), fun H2 k => SqL.of' (k.1 a List.mem_cons_self _ h), fun i H2 x H3 hi k y => ?_⟩
  obtain ⟨T, u, w, rfl, hT, rfl, e1, e2⟩ := y
  cases e1
  rw [hl, r.len.1] at hi
  obtain ⟨v, Fx, h1, h2, h3⟩ := r.get (List.getElem?_eq_getElem hi)
  rw [show ws[i]? = some w from e2] at h1; cases h1
  have rw' := h3.kp (k.sub (F' := Fx) fun b m => List.mem_cons_of_mem _ (mem_flat h2 b m))
  obtain ⟨q1, q2⟩ := tupNew hT (.int (i : Nat)) rw'
  refine ⟨q1, .tuple [.int (i : Nat), vs[i]], _, by simp [enumS, hi], q2, fun b m => ?_⟩
  have : b ∈ Fx := by simpa using m
  exact List.mem_cons_of_mem _ (mem_flat h2 b this)
theorem walkET {H1 : Hp} {a : Addr} {ws : List V} {vs : List D} {Gs : List (List Addr)} (h : TupAt K H1 a ws) (r : RepL K H1 ws vs Gs) : WalkOk K (IvR.IteT K a) (enumS vs) Gs.flatten H1 := by
  have hl : (enumS vs).length = ws.length := by simp [enumS, r.len.1]
  refine ⟨_, _, by rw [hl]; exact IvR.walk_enumT (xs := ws), fun H2 k => (h.kp k).sq, fun i H2 x H3 hi k y => ?_⟩
  obtain ⟨T, u, w, rfl, hT, rfl, e1, e2⟩ := y
  cases e1
  rw [hl, r.len.1] at hi
  obtain ⟨v, Fx, h1, h2, h3⟩ := r.get (List.getElem?_eq_getElem hi)
  rw [show ws[i]? = some w from e2] at h1; cases h1
  have rw' := h3.kp (k.sub (F' := Fx) fun b m => mem_flat h2 b m)
  obtain ⟨q1, q2⟩ := tupNew hT (.int (i : Nat)) rw'
  refine ⟨q1, .tuple [.int (i : Nat), vs[i]], _, by simp [enumS, hi], q2, fun b m => ?_⟩
  have : b ∈ Fx := by simpa using m
  exact mem_flat h2 b this
theorem walkZ {H1 : Hp} {a b : Addr} {ws us : List V} {vs es : List D} {Gs Hs : List (List Addr)} (h : H1 a = some (.lst ws)) (r : RepL K H1 ws vs Gs) (h' : H1 b = some (.lst us)) (r' : RepL K H1 us es Hs) :
    WalkOk K (L2.Itz K a b) ((vs.zip es).map fun p => .tuple [p.1, p.2]) (a :: Gs.flatten ++ b :: Hs.flatten) H1 := by
  have hl : ((vs.zip es).map fun p => PyData.tuple [p.1, p.2]).length = min ws.length us.length := by simp [r.len.1, r'.len.1]
  refine ⟨_, _, L2.walk_zip (xs := ws) (ys := us) hl, fun H2 k => ⟨SqL.of' (k.1 a (by simp) _ h), SqL.of' (k.1 b (by simp) _ h')⟩, fun i H2 x H3 hi k y => ?_⟩
  obtain ⟨T, u, w, rfl, hT, rfl, e1, e2⟩ := y
  rw [hl] at hi
  have i1 : i < vs.length := by rw [← r.len.1]; omega
  have i2 : i < es.length := by rw [← r'.len.1]; omega
  obtain ⟨v, Fx, h1, h2, h3⟩ := r.get (List.getElem?_eq_getElem i1)
  obtain ⟨v', Fy, g1, g2, g3⟩ := r'.get (List.getElem?_eq_getElem i2)
  rw [show ws[i]? = some u from e1] at h1; cases h1
  rw [show us[i]? = some w from e2] at g1; cases g1
  have m1 : ∀ c ∈ Fx, c ∈ a :: Gs.flatten ++ b :: Hs.flatten := fun c m => by have := mem_flat h2 c m; simp [this]
  have m2 : ∀ c ∈ Fy, c ∈ a :: Gs.flatten ++ b :: Hs.flatten := fun c m => by have := mem_flat g2 c m; simp [this]
  obtain ⟨q1, q2⟩ := tupNew hT (h3.kp (k.sub m1)) (g3.kp (k.sub m2))
  have hz : i < ((vs.zip es).map fun p => PyData.tuple [p.1, p.2]).length := by rw [hl]; exact hi
  refine ⟨q1, .tuple [vs[i], es[i]], _, by rw [List.getElem?_eq_getElem hz]; simp, q2, fun c m => ?_⟩
  rcases (by simpa using m : c ∈ Fx ∨ c ∈ Fy) with z | z
  · exact m1 c z
  · exact m2 c z
theorem walk_zipT {K : PySem.W.Frag} {a b : Addr} {xs ys : List V} {n : Nat} (hn : n = min xs.length ys.length) : Walk (RZ.ItzT K a b) n (fun H => SqT K H a xs ∧ SqT K H b ys) (L2.YPair (fun i => xs[i]?) (fun i => ys[i]?)) := by
  subst hn
  refine ⟨fun i _ hi q => ?_, fun _ q => ⟨xs, ys, q.1, q.2, by omega⟩, fun i H v H' _ q y => ?_⟩
  · have h1 : i < xs.length := by omega
    have h2 : i < ys.length := by omega
    exact ⟨xs, ys, xs[i], ys[i], q.1, q.2, by simp [h1], by simp [h2]⟩
  · obtain ⟨T, x, z, h1, h2, h3, h4, h5⟩ := y
    exact ⟨T, x, z, h1, h2, h3, h4 xs q.1, h5 ys q.2⟩
theorem walkZT {H1 : Hp} {a b : Addr} {ws us : List V} {vs es : List D} {Gs Hs : List (List Addr)} (h : TupAt K H1 a ws) (r : RepL K H1 ws vs Gs) (h' : TupAt K H1 b us) (r' : RepL K H1 us es Hs) :
    WalkOk K (RZ.ItzT K a b) ((vs.zip es).map fun p => .tuple [p.1, p.2]) (Gs.flatten ++ Hs.flatten) H1 := by
  have hl : ((vs.zip es).map fun p => PyData.tuple [p.1, p.2]).length = min ws.length us.length := by simp [r.len.1, r'.len.1]
  refine ⟨_, _, walk_zipT (xs := ws) (ys := us) hl, fun H2 k => ⟨(h.kp k).sq, (h'.kp k).sq⟩, fun i H2 x H3 hi k y => ?_⟩
  obtain ⟨T, u, w, rfl, hT, rfl, e1, e2⟩ := y
  rw [hl] at hi
  have i1 : i < vs.length := by rw [← r.len.1]; omega
  have i2 : i < es.length := by rw [← r'.len.1]; omega
  obtain ⟨v, Fx, h1, h2, h3⟩ := r.get (List.getElem?_eq_getElem i1)
  obtain ⟨v', Fy, g1, g2, g3⟩ := r'.get (List.getElem?_eq_getElem i2)
  rw [show ws[i]? = some u from e1] at h1; cases h1
  rw [show us[i]? = some w from e2] at g1; cases g1
  have m1 : ∀ c ∈ Fx, c ∈ Gs.flatten ++ Hs.flatten := fun c m => by have := mem_flat h2 c m; simp only [List.mem_append]; exact .inl this
  have m2 : ∀ c ∈ Fy, c ∈ Gs.flatten ++ Hs.flatten := fun c m => by have := mem_flat g2 c m; simp only [List.mem_append]; exact .inr this
  obtain ⟨q1, q2⟩ := tupNew hT (h3.kp (k.sub m1)) (g3.kp (k.sub m2))
  have hz : i < ((vs.zip es).map fun p => PyData.tuple [p.1, p.2]).length := by rw [hl]; exact hi
  refine ⟨q1, .tuple [vs[i], es[i]], _, by rw [List.getElem?_eq_getElem hz]; simp, q2, fun c m => ?_⟩
  rcases (by simpa using m : c ∈ Fx ∨ c ∈ Fy) with z | z
  · exact m1 c z
  · exact m2 c z
theorem rev_get {α : Type} {l : List α} {i : Nat} (h : i < l.length) : l.reverse[i]? = l[l.length - 1 - i]? := by
  rw [List.getElem?_reverse h]
theorem walkV {H1 : Hp} {a : Addr} {ws : List V} {vs : List D} {Gs : List (List Addr)} (h : H1 a = some (.lst ws)) (r : RepL K H1 ws vs Gs) : WalkOk K (L2.Itv K a ws.length) vs.reverse (a :: Gs.flatten) H1 := by
  refine ⟨_, _, by rw [List.length_reverse, ← r.len.1]; exact L2.walk_rev (xs := ws), fun H2 k => SqL.of' (k.1 a List.mem_cons_self _ h), fun i H2 x H3 hi k y => ?_⟩
  obtain ⟨rfl, hx⟩ := y
  rw [List.length_reverse] at hi
  have hi' : vs.length - 1 - i < vs.length := by omega
  refine ⟨fun _ _ e => e, vs[vs.length - 1 - i], ?_⟩
  obtain ⟨v, Fx, h1, h2, h3⟩ := r.get (List.getElem?_eq_getElem hi')
  rw [r.len.1] at hx
  rw [hx] at h1; cases h1
  exact ⟨Fx, by rw [rev_get hi]; exact List.getElem?_eq_getElem hi', h3.kp (k.sub fun b m => List.mem_cons_of_mem _ (mem_flat h2 b m)), fun b m => List.mem_cons_of_mem _ (mem_flat h2 b m)⟩
theorem walkVT {H1 : Hp} {a : Addr} {ws : List V} {vs : List D} {Gs : List (List Addr)} (h : TupAt K H1 a ws) (r : RepL K H1 ws vs Gs) : WalkOk K (RT.ItvT K a ws.length) vs.reverse Gs.flatten H1 := by
  have w : Walk (RT.ItvT K a ws.length) ws.length (fun H => SqT K H a ws) (fun i H x H' => H' = H ∧ ws[ws.length - 1 - i]? = some x) :=
    ⟨fun i _ hi q => ⟨hi, ws, ws[ws.length - 1 - i]'(by omega), q, by simp [show ws.length - 1 - i < ws.length by omega]⟩, fun _ _ => Nat.le_refl _, fun _ _ _ _ _ q y => ⟨y.1, y.2 ws q⟩⟩
  refine ⟨_, _, by rw [List.length_reverse, ← r.len.1]; exact w, fun H2 k => (h.kp k).sq, fun i H2 x H3 hi k y => ?_⟩
  obtain ⟨rfl, hx⟩ := y
  rw [List.length_reverse] at hi
  have hi' : vs.length - 1 - i < vs.length := by omega
  refine ⟨fun _ _ e => e, vs[vs.length - 1 - i], ?_⟩
  obtain ⟨v, Fx, h1, h2, h3⟩ := r.get (List.getElem?_eq_getElem hi')
  rw [r.len.1] at hx
  rw [hx] at h1; cases h1
  exact ⟨Fx, by rw [rev_get hi]; exact List.getElem?_eq_getElem hi', h3.kp (k.sub fun b m => (mem_flat h2 b m)), fun b m => (mem_flat h2 b m)⟩
end Iv
set_option Elab.async false
set_option linter.all false
set_option maxRecDepth 100000
set_option maxHeartbeats 1000000
/-! IvSound9: iterables by their parts; targets; what a comprehension needs. -/
namespace Iv
open PySem PySem.Spec PyProof.Rows
open L2 (V Hp HO SqL SqT upd upd_same upd_ne ne_of_none VK TE TA TT TI TS TG Cx Inv RelV Vals PE PT PA PW PI PG PGs OpR UnR CallR IxR SlR Vis Gl FnOk Room Binds CX0 Sp XK tTest It Walk)

variable {K : PySem.W.Frag} {F : Fns}

theorem rng_nil {H : Hp} {us : List V} {ds vs : List D} {Fs : List (List Addr)} (h : itS .rng ds = some vs) (r : RepL K H us ds Fs) : Fs.flatten = [] := by
  match ds, h, r with
  | [.int n], _, .cons (.int _) .nil => rfl
  | [.int a, .int b], _, .cons (.int _) (.cons (.int _) .nil) => rfl
theorem walked {k : IK} {cs : List E} {H H1 : Hp} {us : List V} {ds vs : List D} {Fs : List (List Addr)} {Fp : Fp} {Fg : List Addr} {a : Addr} (h : itS k ds = some vs) (r : RepL K H1 us ds Fs) (m : a ∈ Fs.flatten) (q : H a = none ∨ (∃ i, E.mentions.ms cs i = true ∧ a ∈ Fp i) ∨ a ∈ Fg) : H a = none ∨ (∃ i, shM k cs i = true ∧ a ∈ Fp i) ∨ a ∈ Fg := by
  cases k with
  | rng => rw [rng_nil h r] at m; cases m
  | val => exact q
  | enum => exact q
  | zip => exact q
  | rev => exact q
theorem tII_args {k : IK} {cs : List E} {σ : L2.St} {H : Hp} {R : It → Hp → Prop} (h : tII K F k cs σ H R) : ∃ ds xs, itS k ds = some xs ∧ ds.length = cs.length ∧ tIA K F cs σ H fun vs H1 => ∃ Fs, RepL K H1 vs ds Fs ∧ ∀ J Fa, (∀ a ∈ Fa, a ∈ Fs.flatten) → WalkOk K J xs Fa H1 → R J H1 := by
  obtain ⟨ah, H0, s, Fs, Fg, ds, s', vs, R0, e, ei, k⟩ := h
  refine ⟨ds, vs, ei, (evs_len e).symm, ah, H0, s, Fs, Fg, ds, s', R0, e, fun us H1 Fs1 Fg1 Fxs P hP R1 St1 rps rss => ⟨Fxs, rps, fun J Fa hs w => ?_⟩⟩
  exact k J H1 Fs1 Fg1 Fa P hP R1 St1 (fun a m => rss.noah a (hs a m)) (fun a m => walked ei rps (hs a m) (rss.frame a (hs a m))) (fun a m => rps.there a (hs a m)) w
theorem tIA_one {c : E} {σ : L2.St} {H : Hp} {Q : List V → Hp → Prop} (h : tIA K F [c] σ H Q) : tIE K F c σ H fun x H1 => Q [x] H1 := by
  have := tIA_cons (by simp [E.ahead, E.popL.pls]) h
  obtain ⟨ah, H0, s, Fs, Fg, d, s', R, e, k⟩ := this
  exact ⟨ah, H0, s, Fs, Fg, d, s', R, e, fun v H' Fs' Fg' Fx P hP R' St rp rs => tIA_nil (k v H' Fs' Fg' Fx P hP R' St rp rs)⟩
section
variable {X : Cx} {tg e : Expr}
theorem pi_val {c : E} (h : PE X e (tIE X.K F c)) : PI X tg e (tII X.K F .val [c]) := by
  refine piImp (piOr (L2.pi_list h) (L2.pi_tup h)) fun σ H R q => ?_
  obtain ⟨ds, xs, ei, _, q⟩ := tII_args q
  have q := tIA_one q
  match ds, ei, q with
  | [.list ys], ei, q =>
    cases ei
    refine .inl ?_
    obtain ⟨ah, H0, s, Fs, Fg, d, s', R0, e, k⟩ := q
    refine ⟨ah, H0, s, Fs, Fg, d, s', R0, e, fun v H' Fs' Fg' Fx P hP R' St rp rs => ?_⟩
    obtain ⟨Gs, rl, fin⟩ := k v H' Fs' Fg' Fx P hP R' St rp rs
    cases rl with
    | cons r t =>
      cases t
      cases r with
      | list hl rl => exact ⟨_, rfl, ⟨_, SqL.of' hl⟩, fin _ _ (fun a m => by simpa using m) (walkL hl rl)⟩
  | [.tuple ys], ei, q =>
    cases ei
    refine .inr ?_
    obtain ⟨ah, H0, s, Fs, Fg, d, s', R0, e, k⟩ := q
    refine ⟨ah, H0, s, Fs, Fg, d, s', R0, e, fun v H' Fs' Fg' Fx P hP R' St rp rs => ?_⟩
    obtain ⟨Gs, rl, fin⟩ := k v H' Fs' Fg' Fx P hP R' St rp rs
    cases rl with
    | cons r t =>
      cases t
      cases r with
      | tuple hl rl => exact ⟨_, rfl, ⟨_, hl.sq⟩, fin _ _ (fun a m => by simpa using m) (walkT hl rl)⟩
theorem tIA_mono {cs : List E} {σ : L2.St} {H : Hp} {Q Q' : List V → Hp → Prop} (h : tIA K F cs σ H Q) (i : ∀ vs H, Q vs H → Q' vs H) : tIA K F cs σ H Q' := by
  obtain ⟨ah, H0, s, Fs, Fg, d, s', R0, e, k⟩ := h
  exact ⟨ah, H0, s, Fs, Fg, d, s', R0, e, fun v H' Fs' Fg' Fx P hP R' St rp rs => i _ _ (k v H' Fs' Fg' Fx P hP R' St rp rs)⟩
theorem tIE_mono {c : E} {σ : L2.St} {H : Hp} {Q Q' : VK} (h : tIE K F c σ H Q) (i : ∀ v H, Q v H → Q' v H) : tIE K F c σ H Q' := by
  obtain ⟨ah, H0, s, Fs, Fg, d, s', R0, e, k⟩ := h
  exact ⟨ah, H0, s, Fs, Fg, d, s', R0, e, fun v H' Fs' Fg' Fx P hP R' St rp rs => i _ _ (k v H' Fs' Fg' Fx P hP R' St rp rs)⟩
theorem pi_rng1 {a : Expr} {c : E} {p pos : Pos} (hg : Gl X "range") (hm : X.mg "range" = none) (ha : PA X [a] (tIA X.K F [c])) (hs : starEach [a] X.env = [(false, eval a X.env)]) : PI X tg (.Call (.Name "range" p) [a] [] pos) (tII X.K F .rng [c]) := by
  refine piImp (L2.pi_range1 hg hm ha hs) fun σ H R q => ?_
  obtain ⟨ds, xs, ei, hl, q⟩ := tII_args q
  match ds, hl, ei, q with
  | [d], _, ei, q =>
    refine tIA_mono q fun vs H1 ⟨Fs, rl, fin⟩ => ?_
    cases rl with
    | cons r t =>
      cases t
      cases d <;> first | (cases ei; done) | skip
      cases r
      simp only [itS] at ei
      split at ei
      · rename_i hs
        cases ei
        simp only [small62, Bool.and_eq_true, decide_eq_true_eq] at hs
        simp only [two62] at hs
        exact ⟨_, rfl, by omega, by omega, fin _ [] (fun a m => nomatch m) walkR⟩
      · cases ei
theorem pi_rng2 {a b : Expr} {c c' : E} {p pos : Pos} (hg : Gl X "range") (hm : X.mg "range" = none) (ha : PA X [a, b] (tIA X.K F [c, c'])) (hs : starEach [a, b] X.env = [(false, eval a X.env), (false, eval b X.env)]) (hs2 : starEach [b] X.env = [(false, eval b X.env)]) :
    PI X tg (.Call (.Name "range" p) [a, b] [] pos) (tII X.K F .rng [c, c']) := by
  refine piImp (L2.pi_range2 hg hm ha hs hs2) fun σ H R q => ?_
  obtain ⟨ds, xs, ei, hl, q⟩ := tII_args q
  match ds, hl, ei, q with
  | [d, d'], _, ei, q =>
    refine tIA_mono q fun vs H1 ⟨Fs, rl, fin⟩ => ?_
    cases rl with
    | cons r t =>
      cases t with
      | cons r2 t =>
        cases t
        cases d <;> cases d' <;> first | (cases ei; done) | skip
        cases r
        cases r2
        simp only [itS] at ei
        split at ei
        · rename_i hs
          cases ei
          simp only [small62, Bool.and_eq_true, decide_eq_true_eq] at hs
          simp only [two62] at hs
          exact ⟨_, _, rfl, by omega, fin _ [] (fun a m => nomatch m) walkR⟩
        · cases ei
theorem pi_enm {elts : List Expr} {kk : Nat} {tpos : Pos} {a : Expr} {c : E} {p pos : Pos} (hg : Gl X "enumerate") (hm : X.mg "enumerate" = none) (ha : PA X [a] (tIA X.K F [c])) (hs : starEach [a] X.env = [(false, eval a X.env)]) :
    PI X (.Tuple elts kk tpos) (.Call (.Name "enumerate" p) [a] [] pos) (tII X.K F .enum [c]) := by
  refine piImp (piOr (L2.pi_enum hg hm ha hs) (IvR.pi_enumT hg hm ha hs)) fun σ H R q => ?_
  obtain ⟨ds, xs, ei, hl, q⟩ := tII_args q
  match ds, hl, ei, q with
  | [.list ys], _, ei, q =>
    cases ei
    refine .inl (tIA_mono q fun vs H1 ⟨Fs, rl, fin⟩ => ?_)
    cases rl with
    | cons r t =>
      cases t
      cases r with
      | list ha rg => exact ⟨_, _, rfl, SqL.of' ha, fin _ _ (fun a m => by simpa using m) (walkE ha rg)⟩
  | [.tuple ys], _, ei, q =>
    cases ei
    refine .inr (tIA_mono q fun vs H1 ⟨Fs, rl, fin⟩ => ?_)
    cases rl with
    | cons r t =>
      cases t
      cases r with
      | tuple ha rg => exact ⟨_, _, rfl, ha.sq, fin _ _ (fun a m => by simpa using m) (walkET ha rg)⟩
theorem pi_zp {elts : List Expr} {kk : Nat} {tpos : Pos} {a b : Expr} {c c' : E} {p pos : Pos} (hg : Gl X "zip") (hm : X.mg "zip" = none) (ha : PA X [a, b] (tIA X.K F [c, c'])) (hs : starEach [a, b] X.env = (false, eval a X.env) :: starEach [b] X.env)
    (hpl : (backTo pos (starEach [b] X.env)).any (·.1) = false) : PI X (.Tuple elts kk tpos) (.Call (.Name "zip" p) [a, b] [] pos) (tII X.K F .zip [c, c']) := by
  refine piImp (RZ.pi_zipA hg hm ha hs hpl) fun σ H R q => ?_
  obtain ⟨ds, xs, ei, hl, q⟩ := tII_args q
  match ds, hl, ei, q with
  | [d, d'], _, ei, q =>
    refine tIA_mono q fun vs H1 ⟨Fs, rl, fin⟩ => ?_
    cases rl with
    | cons r t =>
      cases t with
      | cons r2 t =>
        cases t
        cases r with
        | list ha rg =>
          cases r2 with
          | list hb rh => cases ei; exact ⟨_, _, _, _, rfl, .inl ⟨SqL.of' ha, SqL.of' hb, fin _ _ (fun a m => by simpa using m) (walkZ ha rg hb rh)⟩⟩
          | _ => cases ei
        | tuple ha rg =>
          cases r2 with
          | tuple hb rh => cases ei; exact ⟨_, _, _, _, rfl, .inr ⟨ha.sq, hb.sq, fin _ _ (fun a m => by simpa using m) (walkZT ha rg hb rh)⟩⟩
          | _ => cases ei
        | _ => cases ei
theorem pi_rv {a : Expr} {c : E} {p pos : Pos} (hg : Gl X "reversed") (hm : X.mg "reversed" = none) (ha : PE X a (tIE X.K F c)) (hs : starEach [a] X.env = (false, eval a X.env) :: starEach [] X.env) :
    PI X tg (.Call (.Name "reversed" p) [a] [] pos) (tII X.K F .rev [c]) := by
  refine piImp (RT.pi_revA hg hm ha hs) fun σ H R q => ?_
  obtain ⟨ds, xs, ei, hl, q⟩ := tII_args q
  have q := tIA_one q
  match ds, hl, ei, q with
  | [d], _, ei, q =>
    refine tIE_mono q fun v H1 ⟨Fs, rl, fin⟩ => ?_
    cases rl with
    | cons r t =>
      cases t
      cases r with
      | list ha rg => cases ei; exact ⟨_, _, rfl, .inl ⟨SqL.of' ha, fin _ _ (fun a m => by simpa using m) (walkV ha rg)⟩⟩
      | tuple ha rg => cases ei; exact ⟨_, _, rfl, .inr ⟨ha.sq, fin _ _ (fun a m => by simpa using m) (walkVT ha rg)⟩⟩
      | _ => cases ei
end

/-! ### targets -/
def gNs : List Nat → L2.TGs
  | [] => L2.gNil
  | i :: is => L2.gCons (L2.gName i) (gNs is)
def gT (K : PySem.W.Frag) : Tg → TG
  | .nm i => L2.gName i
  | .tp is => L2.gTup K is.length (gNs is)
section
variable {X : Cx} {γ : Gam} {k : Nat}
theorem stk_spec (C : Ctx X γ F k) {x : Str} {i : Nat} (h : γ.stk x = some i) : X.N[i]? = some x ∧ L2.Loc X.env.scope x ∧ (X.fn x = true ∨ X.env.scope.names.lookup x = some .local) := by
  unfold Gam.stk at h
  split at h
  · rename_i q
    simp only [Bool.and_eq_true] at q
    obtain ⟨q1, q2⟩ := C.st x q.1.1
    exact ⟨by rw [C.hN]; exact findIx_get h, q1, q2⟩
  · cases h
theorem pg_nm (C : Ctx X γ F k) {x : Str} {i : Nat} {p : Pos} (h : γ.stk x = some i) : PG X (.Name x p) (L2.gName i) := by
  obtain ⟨h1, h2, h3⟩ := stk_spec C h
  exact L2.pg_name C.nd h1 h2 h3
theorem pgs_go (C : Ctx X γ F k) : ∀ {es : List Expr} {is : List Nat}, cTg.go γ es = some is → PGs X es (gNs is) ∧ (assignEach es X.env).length = is.length ∧ (assignEach es X.env).findIdx? (·.1) = none
  | [], is, h => by
    simp only [cTg.go, Option.some.injEq] at h
    subst h
    exact ⟨L2.pgs_nil, rfl, rfl⟩
  | e :: es, is, h => by
    cases e <;> first | (simp only [cTg.go] at h; cases h; done) | skip
    rename_i x p
    simp only [cTg.go, Option.bind_eq_some_iff, Option.map_eq_some_iff] at h
    obtain ⟨i, h1, is', h2, rfl⟩ := h
    obtain ⟨q1, q2, q3⟩ := pgs_go C h2
    refine ⟨L2.pgs_cons (pg_nm C h1) q1 rfl, ?_, ?_⟩
    · show ((false, assign (.Name x p) X.env) :: assignEach es X.env).length = _
      simp [q2]
    · show ((false, assign (.Name x p) X.env) :: assignEach es X.env).findIdx? (·.1) = none
      rw [List.findIdx?_cons]
      simp only [Bool.false_eq_true, if_false]
      rw [q3]; rfl
theorem pg_tg (C : Ctx X γ F k) {e : Expr} {t : Tg} (h : cTg γ e = some t) : PG X e (gT X.K t) := by
  unfold cTg at h
  split at h
  · rw [Option.map_eq_some_iff] at h
    obtain ⟨i, h, rfl⟩ := h
    exact pg_nm C h
  · rw [Option.map_eq_some_iff] at h
    obtain ⟨is, h, rfl⟩ := h
    obtain ⟨q1, q2, q3⟩ := pgs_go C h
    exact L2.pg_tup C.calm q1 q2 q3
  · cases h
end
/-- a name holds a thing that others may hold too -/
theorem SR.bindSh {ah : Option Addr} {H0 H : Hp} {σ : L2.St} {s : St} {Fs : Fp} {Fg : List Addr} {i : Nat} {d : D} {x : V} {G : List Addr} (R : SR K ah H0 σ H s Fs Fg) (hi : i < s.1.length) (r : Rep K H x d G) (na : ∀ a ∈ G, some a ≠ ah)
    (hs : ∀ a ∈ G, ∀ j w, j ≠ i → sl s j = .ow w → a ∉ Fs j) : SR K ah H0 (σ.set i (some x)) H (put s i (.sh d)) (setFs Fs i G) Fg := by
  refine ⟨by rw [List.length_set, put_len]; exact R.len, fun j => ?_, fun j e q => ?_, fun j a m => ?_, R.hand, R.keep⟩
  · rw [sl_put hi]
    by_cases e : j = i
    · subst e
      rw [if_pos rfl, setFs_same]
      exact ⟨x, by rw [List.getElem?_set_self (by rw [R.len]; exact hi)], r⟩
    · rw [if_neg e, setFs_ne e, List.getElem?_set_ne (Ne.symm e)]; exact R.slot j
  · rw [sl_put hi] at q
    by_cases e2 : j = i
    · rw [if_pos e2] at q; cases q
    · rw [if_neg e2] at q
      rw [setFs_ne e2]
      have o := R.own j _ q
      refine ⟨o.1, fun a m => ⟨(o.2 a m).1, (o.2 a m).2.1, fun l hl => ?_⟩⟩
      by_cases e3 : l = i
      · subst e3
        rw [setFs_same]
        exact fun z => hs a z j _ e2 q m
      · rw [setFs_ne e3]; exact (o.2 a m).2.2 l hl
  · by_cases e : j = i
    · subst e; rw [setFs_same] at m; exact na a m
    · rw [setFs_ne e] at m; exact R.noah j a m
/-- a name holds a thing of its own -/
theorem SR.bindOw {ah : Option Addr} {H0 H : Hp} {σ : L2.St} {s : St} {Fs : Fp} {Fg : List Addr} {i : Nat} {d : D} {x : V} {G : List Addr} (R : SR K ah H0 σ H s Fs Fg) (hi : i < s.1.length) (r : Rep K H x d G) (na : ∀ a ∈ G, some a ≠ ah) (nd : G.Nodup)
    (hs : ∀ a ∈ G, H0 a = none ∧ a ∉ Fg ∧ ∀ j, j ≠ i → a ∉ Fs j) : SR K ah H0 (σ.set i (some x)) H (put s i (.ow d)) (setFs Fs i G) Fg := by
  refine ⟨by rw [List.length_set, put_len]; exact R.len, fun j => ?_, fun j e q => ?_, fun j a m => ?_, R.hand, R.keep⟩
  · rw [sl_put hi]
    by_cases e : j = i
    · subst e
      rw [if_pos rfl, setFs_same]
      exact ⟨x, by rw [List.getElem?_set_self (by rw [R.len]; exact hi)], r⟩
    · rw [if_neg e, setFs_ne e, List.getElem?_set_ne (Ne.symm e)]; exact R.slot j
  · by_cases e2 : j = i
    · subst e2
      rw [setFs_same]
      exact ⟨nd, fun a m => ⟨(hs a m).1, (hs a m).2.1, fun l hl => by rw [setFs_ne hl]; exact (hs a m).2.2 l hl⟩⟩
    · rw [sl_put hi, if_neg e2] at q
      rw [setFs_ne e2]
      have o := R.own j _ q
      refine ⟨o.1, fun a m => ⟨(o.2 a m).1, (o.2 a m).2.1, fun l hl => ?_⟩⟩
      by_cases e3 : l = i
      · subst e3
        rw [setFs_same]
        exact fun z => (hs a z).2.2 j e2 m
      · rw [setFs_ne e3]; exact (o.2 a m).2.2 l hl
  · by_cases e : j = i
    · subst e; rw [setFs_same] at m; exact na a m
    · rw [setFs_ne e] at m; exact R.noah j a m
/-- a name forgets -/
theorem SR.forget {ah : Option Addr} {H0 H : Hp} {σ : L2.St} {s : St} {Fs : Fp} {Fg : List Addr} {i : Nat} (R : SR K ah H0 σ H s Fs Fg) (o : Option V) : SR K ah H0 (σ.set i o) H (put s i .no) (setFs Fs i []) Fg := by
  have hs : ∀ j, sl (put s i .no) j = if j = i then .no else sl s j := fun j => by
    by_cases hi : i < s.1.length
    · exact sl_put hi j
    · have e : put s i .no = s := by unfold put; rw [List.set_eq_of_length_le (by omega)]
      rw [e]
      by_cases e2 : j = i
      · subst e2
        rw [if_pos rfl]
        unfold sl
        rw [List.getD_eq_getElem?_getD, List.getElem?_eq_none (by omega)]; rfl
      · rw [if_neg e2]
  refine ⟨by rw [List.length_set, put_len]; exact R.len, fun j => ?_, fun j e q => ?_, fun j a m => ?_, R.hand, R.keep⟩
  · rw [hs]
    by_cases e : j = i
    · subst e; rw [if_pos rfl, setFs_same]; rfl
    · rw [if_neg e, setFs_ne e, List.getElem?_set_ne (Ne.symm e)]; exact R.slot j
  · rw [hs] at q
    by_cases e2 : j = i
    · rw [if_pos e2] at q; cases q
    · rw [if_neg e2] at q
      rw [setFs_ne e2]
      have o := R.own j _ q
      refine ⟨o.1, fun a m => ⟨(o.2 a m).1, (o.2 a m).2.1, fun l hl => ?_⟩⟩
      by_cases e3 : l = i
      · subst e3; rw [setFs_same]; simp
      · rw [setFs_ne e3]; exact (o.2 a m).2.2 l hl
  · by_cases e : j = i
    · subst e; rw [setFs_same] at m; cases m
    · rw [setFs_ne e] at m; exact R.noah j a m
end Iv
set_option Elab.async false
set_option linter.all false
set_option maxRecDepth 100000
set_option maxHeartbeats 1000000
/-! IvSound10: comprehensions. -/
namespace Iv
open PySem PySem.Spec PyProof.Rows
open L2 (V Hp HO SqL SqT upd upd_same upd_ne ne_of_none VK TE TA TT TI TS TG Cx Inv RelV Vals PE PT PA PW PI PG PGs OpR UnR CallR IxR SlR Vis Gl FnOk Room Binds CX0 Sp XK tTest It Walk wipe)

variable {K : PySem.W.Frag} {F : Fns}

theorem sl_no {s : St} {i : Nat} (j : Nat) : sl (put s i .no) j = if j = i then .no else sl s j := by
  by_cases hi : i < s.1.length
  · exact sl_put hi j
  · have e : put s i .no = s := by unfold put; rw [List.set_eq_of_length_le (by omega)]
    rw [e]
    by_cases e2 : j = i
    · subst e2
      rw [if_pos rfl]
      unfold sl
      rw [List.getD_eq_getElem?_getD, List.getElem?_eq_none (by omega)]; rfl
    · rw [if_neg e2]
theorem sl_clr {s : St} (j : Nat) : ∀ ts : List Nat, sl (clr ts s) j = if j ∈ ts then .no else sl s j
  | [] => by simp [clr]
  | i :: ts => by
    have e : clr (i :: ts) s = put (clr ts s) i .no := rfl
    rw [e, sl_no, sl_clr j ts]
    by_cases h : j = i
    · simp [h]
    · by_cases h2 : j ∈ ts
      · simp [h, h2]
      · simp [h, h2]
theorem clr_len {s : St} : ∀ ts : List Nat, (clr ts s).1.length = s.1.length
  | [] => rfl
  | i :: ts => by
    have e : clr (i :: ts) s = put (clr ts s) i .no := rfl
    rw [e, put_len, clr_len ts]
theorem clr_g {s : St} : ∀ ts : List Nat, (clr ts s).2 = s.2
  | [] => rfl
  | i :: ts => clr_g (s := s) ts
theorem sl_share {s : St} {m : Nat → Bool} (j : Nat) : sl (shareE m s) j = if m j = true then share1 (sl s j) else sl s j := by
  unfold sl shareE
  rw [List.getD_eq_getElem?_getD, List.getD_eq_getElem?_getD, List.getElem?_mapIdx]
  cases e : s.1[j]? with
  | none => simp [share1]
  | some x => by_cases h : m j = true <;> simp [h]
theorem share_len {s : St} {m : Nat → Bool} : (shareE m s).1.length = s.1.length := by simp [shareE]
theorem share1_ow {x : Sl} {w : D} (h : share1 x = .ow w) : False := by cases x <;> cases h
theorem SR.share {ah : Option Addr} {H0 H : Hp} {σ : L2.St} {s : St} {Fs : Fp} {Fg : List Addr} (R : SR K ah H0 σ H s Fs Fg) (m : Nat → Bool) : SR K ah H0 σ H (shareE m s) Fs Fg := by
  refine ⟨by rw [share_len]; exact R.len, fun j => ?_, fun j w q => ?_, R.noah, R.hand, R.keep⟩
  · rw [sl_share]
    have q := R.slot j
    by_cases h : m j = true
    · rw [if_pos h]
      cases e : sl s j with
      | no => rw [e] at q; exact q
      | sh d => rw [e] at q; exact q
      | ow d => rw [e] at q; exact q
      | hd => rw [e] at q; exact q
    · rw [if_neg h]; exact q
  · rw [sl_share] at q
    by_cases h : m j = true
    · rw [if_pos h] at q; exact (share1_ow q).elim
    · rw [if_neg h] at q; exact R.own j w q
/-- the names of a block forgotten -/
theorem SR.clr {ah : Option Addr} {H0 H : Hp} {σ : L2.St} {s : St} {Fs : Fp} {Fg : List Addr} (R : SR K ah H0 σ H s Fs Fg) {vs ts : List Nat} (h : ∀ i ∈ vs, i ∈ ts) :
    SR K ah H0 (wipe σ vs) H (Iv.clr ts s) (fun j => if j ∈ ts then [] else Fs j) Fg := by
  have fe : ∀ j a, a ∈ (if j ∈ ts then [] else Fs j) → j ∉ ts ∧ a ∈ Fs j := fun j a m => by
    by_cases q : j ∈ ts
    · rw [if_pos q] at m; cases m
    · rw [if_neg q] at m; exact ⟨q, m⟩
  refine ⟨by rw [L2.wipe_length, clr_len]; exact R.len, fun j => ?_, fun j w q => ?_, fun j a m => R.noah j a (fe j a m).2, by rw [clr_g]; exact R.hand, R.keep⟩
  · rw [sl_clr]
    by_cases q : j ∈ ts
    · rw [if_pos q, if_pos q]; rfl
    · rw [if_neg q, if_neg q, L2.wipe_out (fun z => q (h j z))]; exact R.slot j
  · rw [sl_clr] at q
    by_cases e : j ∈ ts
    · rw [if_pos e] at q; cases q
    · rw [if_neg e] at q
      rw [if_neg e]
      have o := R.own j w q
      exact ⟨o.1, fun a m => ⟨(o.2 a m).1, (o.2 a m).2.1, fun l hl z => (o.2 a m).2.2 l hl (fe l a z).2⟩⟩
theorem wipe_set {σ : L2.St} {i : Nat} {x : Option V} : ∀ {vs : List Nat}, i ∈ vs → wipe (σ.set i x) vs = wipe σ vs
  | [], h => nomatch h
  | v :: vs, h => by
    show (wipe (σ.set i x) vs).set v none = (wipe σ vs).set v none
    by_cases e : i ∈ vs
    · rw [wipe_set e]
    · have : i = v := by simpa [e] using h
      subst this
      have c : ∀ (us : List Nat), i ∉ us → wipe (σ.set i x) us = (wipe σ us).set i x := by
        intro us
        induction us with
        | nil => intro _; rfl
        | cons u us ih =>
          intro hu
          show (wipe (σ.set i x) us).set u none = ((wipe σ us).set u none).set i x
          rw [ih (fun z => hu (List.mem_cons_of_mem _ z)), List.set_comm _ _ (fun z => hu (by simp [z]))]
      rw [c vs e, List.set_set]
theorem wipe_wipe {σ : L2.St} : ∀ {vs : List Nat}, wipe (wipe σ vs) vs = wipe σ vs := by
  have c : ∀ (us vs : List Nat), (∀ u ∈ us, u ∈ vs) → wipe (wipe σ us) vs = wipe σ vs := by
    intro us
    induction us with
    | nil => intro vs _; rfl
    | cons u us ih =>
      intro vs h
      show wipe ((wipe σ us).set u none) vs = _
      rw [wipe_set (h u List.mem_cons_self)]
      exact ih vs fun z hz => h z (List.mem_cons_of_mem _ hz)
  exact fun {vs} => c vs vs fun _ h => h

/-- what is seen through a term's reading lies apart from a name that it doesn't mention -/
theorem frame_sep {ah : Option Addr} {H0 H H1 : Hp} {σ : L2.St} {s s1 : St} {Fs Fs1 : Fp} {Fg Fg1 : List Addr} {P : List Nat} {M : Nat → Bool} (R : SR K ah H0 σ H s Fs Fg) (St1 : Stp ah P H s Fs Fg H1 s1 Fs1 Fg1) {a : Addr} {j : Nat} {w : D}
    (hf : H a = none ∨ (∃ i, M i = true ∧ a ∈ Fs i) ∨ a ∈ Fg) (hj : M j = false) (ho : sl s1 j = .ow w) : a ∉ Fs1 j := by
  intro hm
  obtain ⟨w', ho'⟩ : ∃ w, sl s j = .ow w := by
    by_cases z : j ∈ P
    · exact St1.pow j z
    · exact ⟨w, (St1.fs j z).2 ▸ ho⟩
  have hmF := St1.fsub j a hm
  have o := ((R.own j w' ho').2 a hmF)
  rcases hf with z | ⟨i, hi, z⟩ | z
  · obtain ⟨vs, q⟩ := (R.slot j).there a hmF
    rw [z] at q; cases q
  · by_cases e : i = j
    · subst e; rw [hj] at hi; cases hi
    · exact o.2.2 i e z
  · exact o.2.1 z

/-- the target takes what is walked -/
theorem bind_ns {ah : Option Addr} {H0 H : Hp} {Fg : List Addr} {vs : List Nat} {Fa : List Addr} {Q : L2.St → Hp → Prop} : ∀ {is : List Nat} {xs : List D} {us : List V} {Gs : List (List Addr)} {σ : L2.St} {s : St} {Fs : Fp}, SR K ah H0 σ H s Fs Fg → is.length = xs.length → RepL K H us xs Gs →
    (∀ a ∈ Gs.flatten, some a ≠ ah ∧ a ∈ Fa ∧ ∀ j w, sl s j = .ow w → a ∉ Fs j) → (∀ i ∈ is, i ∈ vs ∧ i < s.1.length) → (∀ i a, i ∈ vs → a ∈ Fs i → a ∈ Fa) →
    (∀ σ2 Fs2, SR K ah H0 σ2 H ((is.zip xs).foldl (fun s p => put s p.1 (.sh p.2)) s) Fs2 Fg → wipe σ2 vs = wipe σ vs → (∀ j, j ∉ vs → Fs2 j = Fs j) → (∀ j a, j ∈ vs → a ∈ Fs2 j → a ∈ Fa) → Q σ2 H) → gNs is us σ H Q
  | [], xs, us, Gs, σ, s, Fs, R, hl, r, hg, hi, hv, k => by
    cases r with
    | cons _ _ => simp at hl
    | nil => exact ⟨rfl, k σ Fs R rfl (fun _ _ => rfl) fun j a h m => hv j a h m⟩
  | i :: is, xs, us, Gs, σ, s, Fs, R, hl, r, hg, hi, hv, k => by
    cases r with
    | nil => simp at hl
    | @cons u us' x xs' G Gs' r1 r2 =>
      refine ⟨u, us', rfl, ?_⟩
      show gNs is us' (σ.set i (some u)) H Q
      have hgi : ∀ a ∈ G, a ∈ (G :: Gs').flatten := fun a m => by simp [m]
      have hgr : ∀ a ∈ Gs'.flatten, a ∈ (G :: Gs').flatten := fun a m => by simp only [List.flatten_cons, List.mem_append]; exact .inr m
      have i1 := hi i List.mem_cons_self
      have R1 := R.bindSh i1.2 r1 (fun a m => (hg a (hgi a m)).1) fun a m j w _ e => (hg a (hgi a m)).2.2 j w e
      refine bind_ns (vs := vs) R1 (by simpa using hl) r2 (fun a m => ⟨(hg a (hgr a m)).1, (hg a (hgr a m)).2.1, fun j w e => ?_⟩) (fun l hl => ?_) (fun l a h m => ?_) fun σ2 Fs2 R2 w2 n2 m2 => ?_
      · rw [sl_put i1.2] at e
        by_cases q : j = i
        · rw [if_pos q] at e; cases e
        · rw [if_neg q] at e; rw [setFs_ne q]; exact (hg a (hgr a m)).2.2 j w e
      · rw [put_len]; exact hi l (List.mem_cons_of_mem _ hl)
      · by_cases q : l = i
        · subst q; rw [setFs_same] at m; exact (hg a (hgi a m)).2.1
        · rw [setFs_ne q] at m; exact hv l a h m
      · refine k σ2 Fs2 R2 (w2.trans (wipe_set i1.1)) (fun j hj => ?_) m2
        rw [n2 j hj, setFs_ne (fun z => hj (by subst z; exact i1.1))]
theorem bind_gT {ah : Option Addr} {H0 H : Hp} {Fg : List Addr} {vs : List Nat} {Fa Fx : List Addr} {Q : L2.St → Hp → Prop} {t : Tg} {d : D} {x : V} {σ : L2.St} {s sb : St} {Fs : Fp} (R : SR K ah H0 σ H s Fs Fg) (e : bindTg t d s = some sb) (r : Rep K H x d Fx)
    (hg : ∀ a ∈ Fx, some a ≠ ah ∧ a ∈ Fa ∧ ∀ j w, sl s j = .ow w → a ∉ Fs j) (hi : ∀ i ∈ t.slots, i ∈ vs ∧ i < s.1.length) (hv : ∀ i a, i ∈ vs → a ∈ Fs i → a ∈ Fa)
    (k : ∀ σ2 Fs2, SR K ah H0 σ2 H sb Fs2 Fg → wipe σ2 vs = wipe σ vs → (∀ j, j ∉ vs → Fs2 j = Fs j) → (∀ j a, j ∈ vs → a ∈ Fs2 j → a ∈ Fa) → Q σ2 H) : gT K t x σ H Q := by
  cases t with
  | nm i =>
    cases e
    have i1 := hi i (by simp [Tg.slots])
    show Q (σ.set i (some x)) H
    refine k _ _ (R.bindSh i1.2 r (fun a m => (hg a m).1) fun a m j w _ q => (hg a m).2.2 j w q) (wipe_set i1.1) (fun j hj => ?_) fun j a h m => ?_
    · rw [setFs_ne (fun z => hj (by subst z; exact i1.1))]
    · by_cases q : j = i
      · subst q; rw [setFs_same] at m; exact (hg a m).2.1
      · rw [setFs_ne q] at m; exact hv j a h m
  | tp is =>
    cases d <;> first | (cases e; done) | skip
    rename_i xs
    simp only [bindTg] at e
    split at e
    · rename_i hl
      cases e
      cases r with
      | tuple ha ra => exact ⟨_, _, rfl, ha.sq, by rw [ra.len.1, hl], bind_ns R hl ra hg hi hv k⟩
    · cases e
theorem SR.updNew {ah : Option Addr} {H0 H : Hp} {σ : L2.St} {s : St} {Fs : Fp} {Fg : List Addr} (R : SR K ah H0 σ H s Fs Fg) {Dd : Addr} {vs ws : List V} (hD : H Dd = some (.lst vs)) (n1 : ∀ j, Dd ∉ Fs j) (n2 : Dd ∉ Fg) (n3 : some Dd ≠ ah) (n4 : H0 Dd = none) :
    SR K ah H0 σ (upd H Dd (.lst ws)) s Fs Fg :=
  ⟨R.len, fun i => (R.slot i).kp (kp_updL hD (n1 i)), R.own, R.noah, R.hand.kp (kp_updL hD n2) fun a ea o e => by
    rw [upd_ne (fun z => by subst z; exact n3 ea.symm)]; exact e, fun a o e n => by
    rw [upd_ne (fun z => by subst z; rw [n4] at e; cases e)]; exact R.keep a o e n⟩
def tCnd (K : PySem.W.Frag) (F : Fns) : Option E → TT
  | none => L2.tYes
  | some c => tTest (tIE K F c)
theorem tCnd_none {σ : L2.St} {H : Hp} {Q : Bool → Hp → Prop} : tCnd K F none σ H Q = Q true H := rfl
/-- what stands between two turns of a comprehension -/
structure CInv (K : PySem.W.Frag) (ah : Option Addr) (H0 : Hp) (σ : L2.St) (H1 : Hp) (s1 : St) (Fs1 : Fp) (Fg1 Fa : List Addr) (M : Nat → Bool) (elt : E) (Dd : Addr) (turn : D → G → Option (Option D × G)) (gE : G) (xs : List D) (items : List D) (H : Hp) : Prop where
  ex : ∃ (g : G) (Fgi : List Addr) (done rest : List D) (acc : List V) (Gs : List (List Addr)), compL turn items g = some (rest, gE) ∧ xs = done ++ rest ∧ SR K ah H0 σ H (s1.1, g) Fs1 Fgi ∧ (∀ a ∈ Fgi, a ∈ Fg1) ∧
    H Dd = some (.lst acc) ∧ RepL K H acc done Gs ∧ Dd ∉ Gs.flatten ∧ (∀ a ∈ Gs.flatten, some a ≠ ah) ∧ (∀ a ∈ Gs.flatten, H1 a = none ∨ (∃ j, M j = true ∧ a ∈ Fs1 j) ∨ a ∈ Fa ∨ a ∈ Fg1) ∧
    ((done.all fun x => lf x || elt.fresh x) = true → Gs.flatten.Nodup ∧ ∀ a ∈ Gs.flatten, H1 a = none)
  keep : ∀ a o, H1 a = some o → some a ≠ ah → H a = some o
  tup : ∀ a vs, H1 a = some (.tup vs) → H a = some (.tup vs)
  there : ∀ a, H a = none → H1 a = none
theorem P_nil {P Q : List Nat} (h : ∀ i ∈ P, i ∈ Q) (e : Q = []) : P = [] := by
  subst e
  cases P with
  | nil => rfl
  | cons x r => have := h x List.mem_cons_self; cases this
theorem tIE_comp {t : Tg} {k : IK} {es : List E} {cond : Option E} {elt : E} {vs : List Nat} {σ : L2.St} {H : Hp} {Q : VK} (hp1 : elt.popL = []) (hp2 : E.popL.plo cond = []) (h1 : ∀ i ∈ vs, i ∈ t.slots) (h2 : ∀ i ∈ t.slots, i ∈ vs ∧ i < σ.length)
    (h : tIE K F (.comp t k es cond elt) σ H Q) : L2.tLc (tII K F k es) (gT K t) (tCnd K F cond) (tIE K F elt) vs σ H Q := by
  obtain ⟨ah, H0, s, Fs, Fg, d, s', R, e, kk⟩ := h
  unfold ev at e
  simp only [Option.bind_eq_some_iff] at e
  obtain ⟨⟨ds, s1⟩, e1, items, ei, ⟨xs, gE⟩, ec, e⟩ := e
  dsimp only at e ei ec
  split at e
  case isFalse => cases e
  rename_i hline
  cases e
  refine ⟨ah, H0, s, Fs, Fg, ds, s1, items, R, e1, ei, fun J H1 Fs1 Fg1 Fa P hP R1 St1 naA frA thA wk => ?_⟩
  replace frA : ∀ a ∈ Fa, H a = none ∨ (∃ i, E.mentions.ms es i = true ∧ a ∈ Fs i) ∨ a ∈ Fg := fun a m => (frA a m).imp id (Or.imp (fun ⟨i, h1, h2⟩ => ⟨i, shM_le h1, h2⟩) id)
  intro Dd hD
  obtain ⟨Gd, Y, w, hGd, hY⟩ := wk
  generalize htn : (fun (v : D) (g : G) => (bindTg t v ((clr t.slots (shareE (E.mentions.ms es) s1)).1, g)).bind fun s1 => match cond with
        | none => (ev F elt s1).map fun q => (some q.1, q.2.2)
        | some c => (ev F c s1).bind fun b => match b.1 with
          | .bool true => (ev F elt b.2).map fun q => (some q.1, q.2.2)
          | .bool false => some (none, b.2.2)
          | _ => none) = turn at ec
  have nD1 : ∀ j, Dd ∉ Fs1 j := fun j => R1.notFs hD j
  have nD2 : Dd ∉ Fg1 := R1.notFg hD
  have nD3 : some Dd ≠ ah := R1.newah hD
  have nD4 : H0 Dd = none := R1.new hD nD3
  have nD5 : Dd ∉ Fa := fun m => by obtain ⟨ws, q⟩ := thA Dd m; rw [hD] at q; cases q
  have CI := CInv K ah H0 σ H1 s1 Fs1 Fg1 Fa (fun j => E.mentions.mo cond j || elt.mentions j) elt Dd turn gE xs
  refine L2.lc_it w (fun i H => CInv K ah H0 σ H1 s1 Fs1 Fg1 Fa (fun j => E.mentions.mo cond j || elt.mentions j) elt Dd turn gE xs (items.drop i) H) ?_ ?_ ?_ ?_
  · -- the start
    refine ⟨⟨s1.2, Fg1, [], xs, [], [], ec, rfl, R1.same (upd_keeps hD), fun _ h => h, upd_same, .nil, by simp, fun _ h => (nomatch h), fun _ h => (nomatch h), fun _ => ⟨.nil, fun _ h => (nomatch h)⟩⟩, fun a o e _ => upd_keeps hD a o e, fun a vs e => upd_keeps hD a _ e, fun a e => ?_⟩
    by_cases z : a = Dd
    · subst z; exact hD
    · rwa [upd_ne z] at e
  · intro i Hi _ I
    exact hGd Hi ⟨fun a m o q => I.keep a o q (naA a m), I.tup⟩
  · intro i x Hi H' hi I hy
    obtain ⟨same, d, Fx, hd, rx, hFx⟩ := hY i Hi x H' hi ⟨fun a m o q => I.keep a o q (naA a m), I.tup⟩ hy
    obtain ⟨⟨g, Fgi, done, rest, acc, Gs, c1, c2, c3, c4, c5, c6, c7, c8, c9, c10⟩, ikeep, itup, ithere⟩ := I
    have hdrop : items.drop i = d :: items.drop (i + 1) := by
      rw [List.drop_eq_getElem_cons hi]
      rw [List.getElem?_eq_getElem hi] at hd
      cases hd; rfl
    rw [hdrop] at c1
    unfold compL at c1
    rw [Option.bind_eq_some_iff] at c1
    obtain ⟨⟨ox, g1⟩, c1, c1'⟩ := c1
    rw [Option.map_eq_some_iff] at c1'
    obtain ⟨⟨rest', gq⟩, c1', c1''⟩ := c1'
    simp only [Prod.mk.injEq] at c1''
    obtain ⟨hrest, hgE⟩ := c1''
    have hgE' := hgE.symm
    subst hgE'
    subst hrest
    dsimp only at c1' c2
    rw [← htn] at c1
    dsimp only at c1
    rw [Option.bind_eq_some_iff] at c1
    obtain ⟨sb, cb, c1⟩ := c1
    have c3' := c3.same same
    -- the block's state
    have Rb0 := (c3'.share (E.mentions.ms es)).clr (vs := vs) (ts := t.slots) h1
    have eqs : clr t.slots (shareE (E.mentions.ms es) (s1.1, g)) = ((clr t.slots (shareE (E.mentions.ms es) s1)).1, g) := by
      have q : ∀ (ts : List Nat) (u v : St), u.1 = v.1 → (clr ts u).1 = (clr ts v).1 := by
        intro ts
        induction ts with
        | nil => intro u v q; exact q
        | cons i ts ih => intro u v q; show ((clr ts u).1.set i .no) = ((clr ts v).1.set i .no); rw [ih u v q]
      refine Prod.ext (q _ _ _ rfl) ?_
      rw [clr_g]; rfl
    rw [eqs] at Rb0
    have hlen : ∀ i ∈ t.slots, i ∈ vs ∧ i < ((clr t.slots (shareE (E.mentions.ms es) s1)).1, g).1.length := fun i m => ⟨(h2 i m).1, by
      show i < (clr t.slots (shareE (E.mentions.ms es) s1)).1.length
      rw [clr_len, share_len, ← R1.len]
      exact (h2 i m).2⟩
    refine bind_gT (vs := vs) (Fa := Fa) Rb0 cb rx (fun a m => ⟨naA a (hFx a m), hFx a m, fun j w q => ?_⟩) hlen (fun i a hv m => ?_) fun σ2 Fs2 R2 wp nj mj => ?_
    · rw [show sl ((clr t.slots (shareE (E.mentions.ms es) s1)).1, g) j = sl (clr t.slots (shareE (E.mentions.ms es) s1)) j from rfl, sl_clr] at q
      by_cases z : j ∈ t.slots
      · rw [if_pos z] at q; cases q
      · rw [if_neg z, sl_share] at q
        rw [if_neg z]
        by_cases z2 : E.mentions.ms es j = true
        · rw [if_pos z2] at q; exact (share1_ow q).elim
        · rw [if_neg z2] at q
          exact frame_sep R St1 (frA a (hFx a m)) (by simpa using z2) q
    · rw [if_pos (h1 i hv)] at m; cases m
    refine ⟨wp.trans wipe_wipe, ?_⟩
    have mem2 : ∀ j a, a ∈ Fs2 j → a ∈ Fa ∨ a ∈ Fs1 j := fun j a m => by
      by_cases z : j ∈ vs
      · exact .inl (mj j a z m)
      · rw [nj j z] at m
        by_cases z2 : j ∈ t.slots
        · rw [if_pos z2] at m; cases m
        · rw [if_neg z2] at m; exact .inr m
    -- behind the element
    have last : ∀ (H3 : Hp) (sc : St) (Fs3 : Fp) (Fg3 : List Addr), SR K ah H0 σ2 H3 sc Fs3 Fg3 → Stp ah [] H' sb Fs2 Fgi H3 sc Fs3 Fg3 → (ev F elt sc).map (fun q => (some q.1, q.2.2)) = some (ox, g1) →
        tIE K F elt σ2 H3 fun y H4 => ∃ acc, H4 Dd = some (.lst acc) ∧ acc.length < sizeLine ∧ CInv K ah H0 σ H1 s1 Fs1 Fg1 Fa (fun j => E.mentions.mo cond j || elt.mentions j) elt Dd turn gE xs (items.drop (i + 1)) (upd H4 Dd (.lst (acc ++ [y]))) := by
      intro H3 sc Fs3 Fg3 R3 St3 he
      rw [Option.map_eq_some_iff] at he
      obtain ⟨⟨y, sd⟩, he, hq⟩ := he
      cases hq
      refine ⟨ah, H0, sc, Fs3, Fg3, y, sd, R3, he, fun v H4 Fs4 Fg4 Fy P4 hP4 R4 St4 rp4 rs4 => ?_⟩
      have := P_nil hP4 hp1
      subst this
      have St34 := St3.trans St4
      rw [List.append_nil] at St34
      have keepI : ∀ a o, Hi a = some o → some a ≠ ah → H4 a = some o := fun a o q n => St34.ext a o (same a o q) n fun _ h => (nomatch h)
      have thereI : ∀ a, H4 a = none → Hi a = none := fun a q => by
        cases z : Hi a with
        | none => rfl
        | some o => have := St34.there a q; rw [same a o z] at this; cases this
      have tupI : ∀ a ws, Hi a = some (.tup ws) → H4 a = some (.tup ws) := fun a ws q => St34.tup a ws (same a _ q)
      have hD4 : H4 Dd = some (.lst acc) := keepI Dd _ c5 nD3
      have nDFy : Dd ∉ Fy := fun m => by
        rcases rs4.frame Dd m with z | ⟨j, _, z⟩ | z
        · have := St3.there Dd z; rw [same Dd _ c5] at this; cases this
        · rcases mem2 j Dd (St3.fsub j Dd z) with z | z
          · exact nD5 z
          · exact nD1 j z
        · exact nD2 (c4 Dd (St3.fg Dd z))
      refine ⟨acc, hD4, ?_, ?_, fun a o q n => ?_, fun a ws q => ?_, fun a q => ?_⟩
      · rw [c6.len.1, ← line_eq]
        rw [c2] at hline
        simp only [List.length_append, List.length_cons] at hline
        omega
      · have Ro : SR K ah H0 σ H4 (s1.1, sd.2) Fs1 Fg4 := c3.called R4.hand (fun a m => St34.fg a m) keepI tupI
        have hfgi : ∀ a ∈ Fg4, a ∈ Fg1 := fun a m => c4 a (St34.fg a m)
        have rg : RepL K (upd H4 Dd (.lst (acc ++ [v]))) (acc ++ [v]) (done ++ [y]) (Gs ++ [Fy]) := by
          refine (c6.kp ?_).append (.cons (rp4.kp (kp_updL hD4 nDFy)) .nil)
          exact Kp.trans ⟨fun a m o q => keepI a o q (c8 a m), tupI⟩ (kp_updL hD4 c7)
        have hfl : (Gs ++ [Fy]).flatten = Gs.flatten ++ Fy := by simp
        refine ⟨sd.2, Fg4, done ++ [y], rest', acc ++ [v], Gs ++ [Fy], c1', by rw [c2]; simp, Ro.updNew hD4 nD1 (fun m => nD2 (hfgi Dd m)) nD3 nD4, hfgi, upd_same, rg, ?_, fun a m => ?_, fun a m => ?_, fun hf => ?_⟩
        · rw [hfl, List.mem_append]; exact fun z => z.elim c7 nDFy
        · rw [hfl, List.mem_append] at m
          rcases m with m | m
          · exact c8 a m
          · exact rs4.noah a m
        · rw [hfl, List.mem_append] at m
          rcases m with m | m
          · exact c9 a m
          · rcases rs4.frame a m with z | ⟨j, q, z⟩ | z
            · exact .inl (ithere a (by
                cases z2 : Hi a with
                | none => rfl
                | some o => have := St3.there a z; rw [same a o z2] at this; cases this))
            · rcases mem2 j a (St3.fsub j a z) with z | z
              · exact .inr (.inr (.inl z))
              · exact .inr (.inl ⟨j, by simp [q], z⟩)
            · exact .inr (.inr (.inr (c4 a (St3.fg a z))))
        · rw [List.all_append, Bool.and_eq_true] at hf
          obtain ⟨hf1, hf2⟩ := hf
          obtain ⟨m1, m2⟩ := c10 hf1
          simp only [List.all_cons, List.all_nil, Bool.and_true, Bool.or_eq_true] at hf2
          have hy : Fy.Nodup ∧ ∀ a ∈ Fy, H3 a = none := by
            rcases hf2 with z | z
            · have := rp4.lf_nil z
              subst this
              exact ⟨.nil, fun _ h => (nomatch h)⟩
            · obtain ⟨q1, q2⟩ := rs4.fresh z
              refine ⟨q1, fun a m => ?_⟩
              rcases (q2 a m).2.2.2 with z | ⟨j, hj, _⟩
              · exact z
              · cases hj
          have hyI : ∀ a ∈ Fy, Hi a = none := fun a m => by
            cases z2 : Hi a with
            | none => rfl
            | some o => have := St3.there a (hy.2 a m); rw [same a o z2] at this; cases this
          rw [hfl]
          refine ⟨List.nodup_append.mpr ⟨m1, hy.1, fun a x b z q => ?_⟩, fun a m => ?_⟩
          · subst q
            obtain ⟨ws, q⟩ := c6.there a x
            rw [hyI a z] at q; cases q
          · rcases List.mem_append.mp m with m | m
            · exact m2 a m
            · exact ithere a (hyI a m)
      · rw [upd_ne (fun z => by subst z; rw [hD] at q; cases q)]
        exact keepI a o (ikeep a o q n) n
      · rw [upd_ne (fun z => by subst z; rw [hD] at q; cases q)]
        exact tupI a ws (itup a ws q)
      · exact ithere a (thereI a (updL_there hD4 a q))
    cases cond with
    | none =>
      rw [tCnd_none]
      rw [if_pos rfl]
      exact last H' sb Fs2 Fgi R2 .refl c1
    | some c =>
      rw [Option.bind_eq_some_iff] at c1
      obtain ⟨⟨b, sc⟩, cc, c1⟩ := c1
      refine ⟨ah, H0, sb, Fs2, Fgi, b, sc, R2, cc, fun v H3 Fs3 Fg3 Fv P3 hP3 R3 St3 rp3 rs3 => ?_⟩
      have := P_nil hP3 hp2
      subst this
      dsimp only at c1
      split at c1
      · cases rp3
        refine ⟨true, rfl, ?_⟩
        dsimp only
        rw [if_pos rfl]
        exact last H3 sc Fs3 Fg3 R3 St3 c1
      · cases rp3
        cases c1
        refine ⟨false, rfl, ?_⟩
        dsimp only
        rw [if_neg Bool.false_ne_true]
        have keepI : ∀ a o, Hi a = some o → some a ≠ ah → H3 a = some o := fun a o q n => St3.ext a o (same a o q) n fun _ h => (nomatch h)
        have tupI : ∀ a ws, Hi a = some (.tup ws) → H3 a = some (.tup ws) := fun a ws q => St3.tup a ws (same a _ q)
        refine ⟨⟨sc.2, Fg3, done, rest', acc, Gs, c1', c2, c3.called R3.hand (fun a m => St3.fg a m) keepI tupI, fun a m => c4 a (St3.fg a m), keepI Dd _ c5 nD3, c6.kp ⟨fun a m o q => keepI a o q (c8 a m), tupI⟩, c7, c8, c9, c10⟩, fun a o q n => keepI a o (ikeep a o q n) n, fun a ws q => tupI a ws (itup a ws q), fun a q => ithere a ?_⟩
        cases z2 : Hi a with
        | none => rfl
        | some o => have := St3.there a q; rw [same a o z2] at this; cases this
      · cases c1
  · -- the end
    intro Hn I
    obtain ⟨⟨g, Fgi, done, rest, acc, Gs, c1, c2, c3, c4, c5, c6, c7, c8, c9, c10⟩, ikeep, itup, ithere⟩ := I
    rw [List.drop_length] at c1
    simp only [compL, Option.some.injEq, Prod.mk.injEq] at c1
    obtain ⟨hr, hg⟩ := c1
    have hr' := hr.symm
    subst hr'
    have hg' := hg.symm
    subst hg'
    rw [List.append_nil] at c2
    subst c2
    have St2 : Stp ah [] H1 s1 Fs1 Fg1 Hn (s1.1, gE) Fs1 Fgi := stp_called c4 ikeep ithere itup
    have St := St1.trans St2
    rw [List.append_nil] at St
    have mm : ∀ i, (E.mentions.mo cond i || elt.mentions i) = true → (E.comp t k es cond elt).mentions i = true := fun i q => by
      unfold E.mentions
      simp only [Bool.or_eq_true] at q ⊢
      rcases q with q | q
      · exact .inl (.inr q)
      · exact .inr q
    refine kk (.ref Dd) Hn Fs1 Fgi (Dd :: Gs.flatten) P (fun i hi => ?_) c3 St (.list c5 c6) ⟨fun a m => ?_, fun a m => ?_, fun hf => ?_⟩
    · unfold E.popL; simp [hP i hi]
    · rcases List.mem_cons.mp m with z | m
      · subst z; exact nD3
      · exact c8 a m
    · rcases List.mem_cons.mp m with z | m
      · subst z; exact .inl (St1.there _ hD)
      · rcases c9 a m with z | ⟨j, q, z⟩ | z | z
        · exact .inl (St1.there a z)
        · exact .inr (.inl ⟨j, mm j q, St1.fsub j a z⟩)
        · rcases frA a z with z | ⟨j, q, z⟩ | z
          · exact .inl z
          · exact .inr (.inl ⟨j, by unfold E.mentions; simp [q], z⟩)
          · exact .inr (.inr z)
        · exact .inr (.inr (St1.fg a z))
    · have all : (xs.all fun x => lf x || elt.fresh x) = true := by
        unfold E.fresh at hf
        simp only [Bool.or_eq_true] at hf
        rcases hf with hf | hf
        · rw [List.all_eq_true]
          intro x _
          rw [E.fr_fresh _ _ hf]; simp
        · exact hf
      obtain ⟨m1, m2⟩ := c10 all
      refine ⟨List.nodup_cons.mpr ⟨c7, m1⟩, fun a m => ?_⟩
      have hn : H1 a = none := by
        rcases List.mem_cons.mp m with z | m
        · subst z; exact hD
        · exact m2 a m
      exact ⟨R1.new hn (R1.newah hn), fun q => R1.notFg hn (c4 a q), fun j => R1.notFs hn j, .inl (St1.there a hn)⟩
end Iv
set_option Elab.async false
set_option linter.all false
set_option maxRecDepth 100000
set_option maxHeartbeats 2000000
/-! IvSound11: every term that cE reads does what ev says. -/
namespace Iv
open PySem PySem.Spec PyProof.Rows
open L2 (V Hp HO SqL SqT upd upd_same upd_ne ne_of_none VK TE TA TT TI TS TG Cx Inv RelV Vals PE PT PA PW PI PG PGs OpR UnR CallR IxR SlR Vis Gl FnOk Room Binds CX0 Sp XK tTest It Walk wipe)

variable {F : Fns} {k : Nat}

/-- what is shown of a term -/
def Good (X : Cx) (F : Fns) (e : Expr) (c : E) : Prop := PE X e (tIE X.K F c) ∧ (testOk e = true → PT X e (tTest (tIE X.K F c)))
def IH (F : Fns) (k n : Nat) : Prop := ∀ (X : Cx) (γ : Gam), Ctx X γ F k → ∀ e c, cE n γ e = some c → c.wf = true → Good X F e c

theorem impL {X : Cx} {e : Expr} {t t' : TE} (h : PE X e t) (i : ∀ σ H Q, σ.length = X.N.length → t' σ H Q → t σ H Q) : PE X e t' := ⟨fun pins s σ H Q I hw => h.run pins s σ H Q I (i σ H Q I.len hw)⟩
/-- a term whose test is its value's truth -/
theorem good_val {X : Cx} {e : Expr} {c : E} (h : PE X e (tIE X.K F c)) (he : ∀ whole, isTrue e X.env whole = (do let v ← whole; standAt e.pos; holding [v] (truthy v))) : Good X F e c := ⟨h, fun _ => L2.pt_val h he⟩

section
variable {X : Cx} {γ : Gam} {n : Nat}
theorem star_cons {e : Expr} {es : List Expr} {env : PySem.Env} (h : plainE e = true) : starEach (e :: es) env = (false, eval e env) :: starEach es env := by
  cases e <;> first | rfl | (simp [plainE] at h)
theorem pa_map (C : Ctx X γ F k) (ih : IH F k n) : ∀ {es : List Expr} {cs : List E}, mapO (cE n γ) es = some cs → E.wf.wfs cs = true → PA X es (tIA X.K F cs) ∧ (∀ pos, (backTo pos (starEach es X.env)).any (·.1) = false)
  | [], cs, h, _ => by
    simp only [mapO, Option.some.injEq] at h
    subst h
    exact ⟨PA.imp L2.pa_nil fun σ H Q q => tIA_nil q, fun _ => rfl⟩
  | e :: es, cs, h, hw => by
    unfold mapO at h
    split at h
    case isFalse => cases h
    rename_i hp
    simp only [Option.bind_eq_some_iff, Option.map_eq_some_iff] at h
    obtain ⟨c, h1, cs', h2, rfl⟩ := h
    unfold E.wf.wfs at hw
    simp only [Bool.and_eq_true] at hw
    obtain ⟨q1, q2⟩ := pa_map C ih h2 hw.2
    refine ⟨PA.imp (L2.pa_cons (ih X γ C e c h1 hw.1.1).1 q1 (star_cons hp)) fun σ H Q q => tIA_cons hw.1.2 q, fun pos => ?_⟩
    rw [star_cons hp]
    unfold backTo
    rw [List.map_cons, List.any_cons]
    exact q2 pos
theorem mapO_plain {f : Expr → Option E} {e : Expr} {es : List Expr} {cs : List E} (h : mapO f (e :: es) = some cs) : plainE e = true := by
  unfold mapO at h
  split at h
  · assumption
  · cases h
theorem mapO_len {f : Expr → Option E} : ∀ {es : List Expr} {cs : List E}, mapO f es = some cs → es.length = cs.length
  | [], cs, h => by
    simp only [mapO, Option.some.injEq] at h
    subst h; rfl
  | e :: es, cs, h => by
    unfold mapO at h
    split at h
    case isFalse => cases h
    simp only [Option.bind_eq_some_iff, Option.map_eq_some_iff] at h
    obtain ⟨c, h1, cs', h2, rfl⟩ := h
    simp [mapO_len h2]
theorem mapO_tail {f : Expr → Option E} {e : Expr} {es : List Expr} {cs : List E} (h : mapO f (e :: es) = some cs) : ∃ c cs', cs = c :: cs' ∧ f e = some c ∧ mapO f es = some cs' := by
  unfold mapO at h
  split at h
  case isFalse => cases h
  simp only [Option.bind_eq_some_iff, Option.map_eq_some_iff] at h
  obtain ⟨c, h1, cs', h2, rfl⟩ := h
  exact ⟨c, cs', rfl, h1, h2⟩
theorem plain_name {x : Str} (h : plainName x = true) : (x == ("__debug__" : Str)) = false ∧ (x == ("__classdict__" : Str)) = false ∧ x ≠ "__name__" := by
  unfold plainName at h
  simp only [Bool.and_eq_true, Bool.not_eq_true'] at h
  exact ⟨h.1.1, h.1.2, fun e => by subst e; simp at h⟩
theorem any_spec (C : Ctx X γ F k) {x : Str} {i : Nat} (h : γ.any x = some i) {p : Pos} : X.N[i]? = some x ∧ PE X (.Name x p) (L2.tVar i) := by
  unfold Gam.any at h
  split at h
  · rename_i q
    simp only [Bool.and_eq_true] at q
    have e : X.N[i]? = some x := by rw [C.hN]; exact findIx_get h
    obtain ⟨p1, p2, _⟩ := plain_name q.2
    exact ⟨e, L2.pe_var e (C.vis x q.1) p1 p2⟩
  · cases h
theorem slot_any {x : Str} {i : Nat} (h : γ.slot x = some i) : γ.any x = some i := by
  unfold Gam.slot at h
  split at h
  · cases h
  · exact h
theorem hand_any {x : Str} {i : Nat} (h : γ.hand x = some i) : γ.any x = some i := by
  unfold Gam.hand at h
  split at h
  · exact h
  · cases h
theorem gl_spec (C : Ctx X γ F k) {x : Str} (h : γ.gl x = true) : Gl X x ∧ (x == ("__debug__" : Str)) = false ∧ x ≠ "__name__" := by
  unfold Gam.gl at h
  simp only [Bool.and_eq_true] at h
  obtain ⟨p1, p2, p3⟩ := plain_name h.2
  exact ⟨C.gl x h.1, p1, p3⟩

theorem good_name (C : Ctx X γ F k) {x : Str} {p : Pos} {c : E} (h : cE (n + 1) γ (.Name x p) = some c) : Good X F (.Name x p) c := by
  unfold cE at h
  split at h
  · rename_i i hi
    cases h
    exact good_val (PE.imp (any_spec C (slot_any hi)).2 fun σ H Q q => tIE_var q) fun _ => rfl
  · split at h
    · rename_i hg
      rw [Option.map_eq_some_iff] at h
      obtain ⟨d, hd, rfl⟩ := h
      obtain ⟨u, v, h1, h2, h3⟩ := C.cst x d hd
      obtain ⟨g1, g2, g3⟩ := gl_spec C hg
      exact good_val (PE.imp (L2.pe_glob g1 h1 h2 g2) fun σ H Q q => tIE_cst h3 q) fun _ => rfl
    · cases h
theorem good_bin (C : Ctx X γ F k) (ih : IH F k n) {a b : Expr} {op : Operator} {p : Pos} {c : E} (h : cE (n + 1) γ (.BinOp a op b p) = some c) (hw : c.wf = true) : Good X F (.BinOp a op b p) c := by
  unfold cE at h
  simp only [Option.bind_eq_some_iff, Option.map_eq_some_iff] at h
  obtain ⟨ca, h1, cb, h2, o, h3, rfl⟩ := h
  unfold E.wf E.wf.wfs E.wf.wfs at hw
  simp only [Bool.and_eq_true] at hw
  have ga := (ih X γ C a ca h1 hw.1.1).1
  have gb := (ih X γ C b cb h2 hw.2.1.1).1
  have go : ∀ {o : Op}, OpR X (binaryOp op) (fun x y H Q => OpV X.K o [x, y] H Q) → PE X (.BinOp a op b p) (tIE X.K F (.op o [ca, cb])) := fun {o} r =>
    PE.imp (L2.pe_op r ga gb) fun σ H Q q => by
      have q := tIA_cons (by simpa [E.popL.pls] using hw.1.2) (tIE_op q)
      exact tIE_mono q fun x H1 q => tIE_mono (tIA_one q) fun y H2 q => q
  refine good_val ?_ fun _ => rfl
  cases op <;> simp only [binOp, Option.some.injEq, reduceCtorEq] at h3 <;> subst h3
  · exact go opR_add
  · exact go opR_sub
  · exact go opR_mul
  · exact go opR_mod
  · exact go opR_pow
  · exact go opR_fdiv
theorem tIE_un {o : Op} {c : E} {K : PySem.W.Frag} {σ : L2.St} {H : Hp} {Q : VK} (h : tIE K F (.op o [c]) σ H Q) : tIE K F c σ H fun x H1 => OpV K o [x] H1 Q := tIA_one (tIE_op h)
theorem good_cmp1 (C : Ctx X γ F k) (ih : IH F k n) {a b : Expr} {op : CmpOp} {p : Pos} {c : E} (h : cE (n + 1) γ (.Compare a [op] [b] p) = some c) (hw : c.wf = true) : Good X F (.Compare a [op] [b] p) c := by
  unfold cE at h
  split at h
  · cases h
  rename_i hm
  simp only [Option.bind_eq_some_iff, Option.map_eq_some_iff] at h
  obtain ⟨ca, h1, cb, h2, rfl⟩ := h
  unfold E.wf E.wf.wfs E.wf.wfs at hw
  simp only [Bool.and_eq_true] at hw
  have ga := (ih X γ C a ca h1 hw.1.1).1
  have gb := (ih X γ C b cb h2 hw.2.1.1).1
  have r : OpR X (compareOp op) (fun x y H Q => OpV X.K (cmpOp op) [x, y] H Q) := by
    cases op
    · exact opR_eq C.un
    · exact opR_ne C.un
    · exact opR_lt
    · exact opR_le
    · exact opR_gt
    · exact opR_ge
    · exact opR_is
    · exact opR_isnt
    · exact opR_in C.un
    · exact opR_notin C.un
  have i : ∀ σ H Q, tIE X.K F (.op (cmpOp op) [ca, cb]) σ H Q → L2.tOp (fun x y H Q => OpV X.K (cmpOp op) [x, y] H Q) (tIE X.K F ca) (tIE X.K F cb) σ H Q := fun σ H Q q => by
    have q := tIA_cons (by simpa [E.popL.pls] using hw.1.2) (tIE_op q)
    exact tIE_mono q fun x H1 q => tIE_mono (tIA_one q) fun y H2 q => q
  have hm' : behindInMarks op b = false := by simpa using hm
  exact ⟨PE.imp (L2.pe_cmpR r ga gb hm') i, fun _ => PT.imp (L2.pt_cmpR r ga gb hm') fun σ H Q q => i σ H _ q⟩
theorem cmp_r (C : Ctx X γ F k) (op : CmpOp) : OpR X (compareOp op) (fun x y H Q => OpV X.K (cmpOp op) [x, y] H Q) := by
  cases op
  · exact opR_eq C.un
  · exact opR_ne C.un
  · exact opR_lt
  · exact opR_le
  · exact opR_gt
  · exact opR_ge
  · exact opR_is
  · exact opR_isnt
  · exact opR_in C.un
  · exact opR_notin C.un
theorem tChain_mono {r r' : L2.R2} {a b c : E} {K : PySem.W.Frag} {σ : L2.St} {H : Hp} {Q Q' : VK} (hr : ∀ x y H Q Q', (∀ v H, Q v H → Q' v H) → r' x y H Q → r' x y H Q') (hr1 : ∀ x y H Q Q', (∀ v H, Q v H → Q' v H) → r x y H Q → r x y H Q')
    (h : L2.tChain r r' (tIE K F a) (tIE K F b) (tIE K F c) σ H Q) (i : ∀ v H, Q v H → Q' v H) : L2.tChain r r' (tIE K F a) (tIE K F b) (tIE K F c) σ H Q' := by
  refine tIE_mono h fun x H1 q => tIE_mono q fun y H2 q => hr1 _ _ _ _ _ (fun z H3 q => ?_) q
  obtain ⟨t, e, q⟩ := q
  refine ⟨t, e, ?_⟩
  cases t with
  | true => rw [if_pos rfl] at q ⊢; exact tIE_mono q fun w H4 q => hr _ _ _ _ _ i q
  | false => rw [if_neg Bool.false_ne_true] at q ⊢; exact i _ _ q
theorem opV_mono {K : PySem.W.Frag} {o : Op} {vs : List V} {H : Hp} {Q Q' : VK} (i : ∀ v H, Q v H → Q' v H) (h : OpV K o vs H Q) : OpV K o vs H Q' := by
  obtain ⟨ds, Fs, d, e, r, k⟩ := h
  exact ⟨ds, Fs, d, e, r, fun v H' Fx h1 h2 h3 h4 h5 => i _ _ (k v H' Fx h1 h2 h3 h4 h5)⟩
theorem good_cmp2 (C : Ctx X γ F k) (ih : IH F k n) {a b b2 : Expr} {op op2 : CmpOp} {p : Pos} {c : E} (h : cE (n + 1) γ (.Compare a [op, op2] [b, b2] p) = some c) (hw : c.wf = true) : Good X F (.Compare a [op, op2] [b, b2] p) c := by
  unfold cE at h
  split at h
  · cases h
  rename_i hm
  simp only [Option.bind_eq_some_iff, Option.map_eq_some_iff] at h
  obtain ⟨ca, h1, cb, h2, cc, h3, rfl⟩ := h
  unfold E.wf at hw
  simp only [Bool.and_eq_true] at hw
  have ga := (ih X γ C a ca h1 hw.1.1.1.1).1
  have gb := (ih X γ C b cb h2 hw.1.1.1.2).1
  have gc := (ih X γ C b2 cc h3 hw.1.1.2).1
  have i : ∀ σ H Q, tIE X.K F (.chain (cmpOp op) (cmpOp op2) ca cb cc) σ H Q → L2.tChain (fun x y H Q => OpV X.K (cmpOp op) [x, y] H Q) (fun x y H Q => OpV X.K (cmpOp op2) [x, y] H Q) (tIE X.K F ca) (tIE X.K F cb) (tIE X.K F cc) σ H Q := fun σ H Q q =>
    tChain_mono (fun _ _ _ _ _ i q => opV_mono i q) (fun _ _ _ _ _ i q => opV_mono i q) (tIE_chain hw.1.2 hw.2 q) fun v H ⟨d, e, q⟩ => by subst e; exact q
  have hm' : lastMarks [op, op2] [b, b2] = false := by simpa using hm
  exact ⟨PE.imp (L2.pe_chain (cmp_r C op) (cmp_r C op2) ga gb gc hm') i, fun _ => PT.imp (L2.pt_chain (cmp_r C op) (cmp_r C op2) ga gb gc hm') fun σ H Q q => i σ H _ q⟩
theorem tTest_mono {K : PySem.W.Frag} {c : E} {σ : L2.St} {H : Hp} {Q Q' : Bool → Hp → Prop} (h : tTest (tIE K F c) σ H Q) (i : ∀ b H, Q b H → Q' b H) : tTest (tIE K F c) σ H Q' := tIE_mono h fun v H ⟨b, e, q⟩ => ⟨b, e, i b H q⟩
/-- and, or: the values, the tests -/
theorem good_bools (C : Ctx X γ F k) (ih : IH F k n) (op : BoolOp) (p : Pos) : ∀ {es : List Expr} {c : E}, cBools (cE n γ) op es = some c → c.wf = true → PE X (.BoolOp op es p) (tIE X.K F c) ∧ (testOk.go es = true → PW X (.BoolOp op es p) (tTest (tIE X.K F c)))
  | [], c, h, _ => by simp [cBools] at h
  | [e], c, h, hw => by
    simp only [cBools] at h
    have g := ih X γ C e c h hw
    refine ⟨L2.pe_one g.1, fun ht => ?_⟩
    have ht' : testOk e = true := by simpa [testOk.go] using ht
    cases op
    · exact L2.pw_and1 (g.2 ht')
    · exact L2.pw_or1 (g.2 ht')
  | e :: e2 :: es, c, h, hw => by
    simp only [cBools, Option.bind_eq_some_iff] at h
    obtain ⟨a, h1, h2⟩ := h
    rw [Option.map_eq_some_iff] at h2
    obtain ⟨b, h2, hc⟩ := h2
    cases op
    · dsimp only at hc
      subst hc
      unfold E.wf at hw
      simp only [Bool.and_eq_true] at hw
      have g := ih X γ C e a h1 hw.1
      obtain ⟨g1, g2⟩ := good_bools C ih .And p h2 hw.2
      refine ⟨PE.imp (L2.pe_and g.1 g1) fun σ H Q q => ?_, fun ht => ?_⟩
      · refine tIE_mono (tIE_and q) fun x H1 ⟨t, e, q⟩ => ⟨t, e, ?_⟩
        cases t with
        | true => rw [if_pos rfl] at q ⊢; exact tIE_mono q fun y H2 ⟨d, e, q⟩ => by subst e; exact q
        | false => rw [if_neg Bool.false_ne_true] at q ⊢; exact q
      · unfold testOk.go at ht
        simp only [Bool.and_eq_true] at ht
        have w := L2.pw_and (g.2 ht.1) (g2 ht.2)
        refine ⟨fun wh pins s σ H Q I q => w.run wh pins s σ H Q I ?_⟩
        refine tIE_mono (tIE_and q) fun x H1 ⟨t, e, q⟩ => ⟨t, e, ?_⟩
        cases t with
        | true => rw [if_pos rfl] at q ⊢; exact tIE_mono q fun y H2 ⟨d, e, d', e', q⟩ => ⟨d', by rw [e, e'], q⟩
        | false =>
          rw [if_neg Bool.false_ne_true] at q ⊢
          obtain ⟨d', e', q⟩ := q
          cases e'; exact q
    · dsimp only at hc
      subst hc
      unfold E.wf at hw
      simp only [Bool.and_eq_true] at hw
      have g := ih X γ C e a h1 hw.1
      obtain ⟨g1, g2⟩ := good_bools C ih .Or p h2 hw.2
      refine ⟨PE.imp (L2.pe_or g.1 g1) fun σ H Q q => ?_, fun ht => ?_⟩
      · refine tIE_mono (tIE_or q) fun x H1 ⟨t, e, q⟩ => ⟨t, e, ?_⟩
        cases t with
        | false => rw [if_neg Bool.false_ne_true] at q ⊢; exact tIE_mono q fun y H2 ⟨d, e, q⟩ => by subst e; exact q
        | true => rw [if_pos rfl] at q ⊢; exact q
      · unfold testOk.go at ht
        simp only [Bool.and_eq_true] at ht
        have w := L2.pw_or (g.2 ht.1) (g2 ht.2)
        refine ⟨fun wh pins s σ H Q I q => w.run wh pins s σ H Q I ?_⟩
        refine tIE_mono (tIE_or q) fun x H1 ⟨t, e, q⟩ => ⟨t, e, ?_⟩
        cases t with
        | false => rw [if_neg Bool.false_ne_true] at q ⊢; exact tIE_mono q fun y H2 ⟨d, e, d', e', q⟩ => ⟨d', by rw [e, e'], q⟩
        | true =>
          rw [if_pos rfl] at q ⊢
          obtain ⟨d', e', q⟩ := q
          cases e'; exact q
theorem good_not (C : Ctx X γ F k) (ih : IH F k n) {a : Expr} {p : Pos} {c : E} (h : cE (n + 1) γ (.UnaryOp .Not a p) = some c) (hw : c.wf = true) : Good X F (.UnaryOp .Not a p) c := by
  unfold cE at h
  split at h
  case isFalse => cases h
  rename_i ht
  rw [Option.map_eq_some_iff] at h
  obtain ⟨ca, h1, rfl⟩ := h
  unfold E.wf at hw
  have g := ih X γ C a ca h1 hw
  exact ⟨PE.imp (L2.pe_not g.1) fun σ H Q q => tIE_not q, fun _ => PT.imp (L2.pt_not (g.2 ht)) fun σ H Q q => tIE_mono (tIE_not q) fun x H1 ⟨t, e, d, e', q⟩ => ⟨t, e, by cases e'; exact q⟩⟩
theorem good_neg (C : Ctx X γ F k) (ih : IH F k n) {a : Expr} {p : Pos} {c : E} (h : cE (n + 1) γ (.UnaryOp .USub a p) = some c) (hw : c.wf = true) : Good X F (.UnaryOp .USub a p) c := by
  unfold cE at h
  rw [Option.map_eq_some_iff] at h
  obtain ⟨ca, h1, rfl⟩ := h
  unfold E.wf E.wf.wfs at hw
  simp only [Bool.and_eq_true] at hw
  have g := ih X γ C a ca h1 hw.1.1
  exact good_val (PE.imp (L2.pe_un unR_neg g.1) fun σ H Q q => tIE_un q) fun _ => rfl
theorem good_if (C : Ctx X γ F k) (ih : IH F k n) {a b t : Expr} {p : Pos} {c : E} (h : cE (n + 1) γ (.IfExp t a b p) = some c) (hw : c.wf = true) : Good X F (.IfExp t a b p) c := by
  unfold cE at h
  split at h
  case isFalse => cases h
  rename_i ht
  simp only [Option.bind_eq_some_iff, Option.map_eq_some_iff] at h
  obtain ⟨ct, h1, ca, h2, cb, h3, rfl⟩ := h
  unfold E.wf at hw
  simp only [Bool.and_eq_true] at hw
  refine ⟨PE.imp (L2.pe_ifExp ((ih X γ C t ct h1 hw.1.1).2 ht) (ih X γ C a ca h2 hw.1.2).1 (ih X γ C b cb h3 hw.2).1) fun σ H Q q => tIE_ifx q, fun z => ?_⟩
  simp [testOk] at z
end
end Iv
set_option Elab.async false
set_option linter.all false
set_option maxRecDepth 100000
set_option maxHeartbeats 2000000
/-! IvSound12: the same of subscripts, displays, calls, comprehensions; all together. -/
namespace Iv
open PySem PySem.Spec PyProof.Rows
open L2 (V Hp HO SqL SqT upd upd_same upd_ne ne_of_none VK TE TA TT TI TS TG Cx Inv RelV Vals PE PT PA PW PI PG PGs PO OpR UnR CallR IxR SlR Vis Gl FnOk Room Binds CX0 Sp XK tTest It Walk wipe)

variable {F : Fns} {k : Nat}
section
variable {X : Cx} {γ : Gam} {n : Nat}
theorem good_const {v : Const} {j : Nat} {p : Pos} {c : E} (h : cE (n + 1) γ (.Constant v j p) = some c) : Good X F (.Constant v j p) c := by
  unfold cE at h
  cases v <;> first | (cases h; done) | skip
  · cases h; exact good_val (PE.imp L2.pe_non fun σ H Q q => tIE_cst (fun H => .none) q) fun _ => rfl
  · cases h; exact good_val (PE.imp L2.pe_bl fun σ H Q q => tIE_cst (fun H => .bool _) q) fun _ => rfl
  · cases h; exact good_val (PE.imp L2.pe_int fun σ H Q q => tIE_cst (fun H => .int _) q) fun _ => rfl
  · cases h; exact good_val (PE.imp L2.pe_str fun σ H Q q => tIE_cst (fun H => .str _) q) fun _ => rfl
theorem plainIx {b : Expr} (h : plainE b = true) : L2.PlainIx b := by
  intro o i
  cases b <;> first | rfl | (simp [plainE] at h)
theorem part_ok (C : Ctx X γ F k) (ih : IH F k n) {lo : Option Expr} {c : E} (h : cPart (cE n γ) lo = some c) (hw : c.wf = true) : ∃ t, PO X lo t ∧ ∀ σ H Q, tIE X.K F c σ H (fun y H1 => ∀ l, PartV y l → Q l H1) → t σ H Q := by
  cases lo with
  | none =>
    cases h
    exact ⟨_, L2.po_none, fun σ H Q q => (tIE_cst (fun H => .none) q) none (.inl ⟨rfl, rfl⟩)⟩
  | some e =>
    simp only [cPart, Option.map_eq_some_iff] at h
    obtain ⟨c', h, rfl⟩ := h
    unfold E.wf E.wf.wfs at hw
    simp only [Bool.and_eq_true] at hw
    refine ⟨_, L2.po_some (ih X γ C e c' h hw.1.1).1, fun σ H Q q => tIE_mono (tIE_un q) fun x H1 q => ?_⟩
    obtain ⟨a, F, d, e, r, k⟩ := opV1 q
    cases r <;> first | (simp only [opS] at e; cases e; done) | skip
    rename_i i
    simp only [opS, Option.some.injEq] at e
    subst e
    have q := fin0 (.int i) k
    exact ⟨i, rfl, q (some i) (.inr ⟨i, rfl, rfl⟩)⟩
theorem good_slice (C : Ctx X γ F k) (ih : IH F k n) {v : Expr} {lo hi : Option Expr} {p2 p : Pos} {cv cl ch : E} (h1 : cE n γ v = some cv) (h2 : cPart (cE n γ) lo = some cl) (h3 : cPart (cE n γ) hi = some ch)
    (hw : (E.op .slice [cv, cl, ch]).wf = true) : Good X F (.Subscript v (.Slice lo hi none p2) p) (.op .slice [cv, cl, ch]) := by
  unfold E.wf E.wf.wfs E.wf.wfs E.wf.wfs at hw
  simp only [Bool.and_eq_true] at hw
  obtain ⟨⟨w1, a1⟩, ⟨w2, a2⟩, ⟨w3, _⟩, _⟩ := hw
  obtain ⟨tl, pl, il⟩ := part_ok C ih h2 w2
  obtain ⟨th, ph, ih'⟩ := part_ok C ih h3 w3
  refine good_val (PE.imp (L2.pe_slice slR (ih X γ C v cv h1 w1).1 pl ph) fun σ H Q q => ?_) fun _ => rfl
  have q := tIA_cons a1 (tIE_op q)
  refine tIE_mono q fun x H1 q => il _ _ _ ?_
  have q := tIA_cons a2 q
  refine tIE_mono q fun y H2 q l hl => ih' _ _ _ ?_
  exact tIE_mono (tIA_one q) fun z H3 q u hu => ⟨y, z, hl, hu, q⟩
theorem good_ix (C : Ctx X γ F k) (ih : IH F k n) {v i : Expr} {p : Pos} {cv ci : E} (hp : plainE i = true) (h1 : cE n γ v = some cv) (h2 : cE n γ i = some ci) (hw : (E.op .ix [cv, ci]).wf = true) : Good X F (.Subscript v i p) (.op .ix [cv, ci]) := by
  unfold E.wf E.wf.wfs E.wf.wfs at hw
  simp only [Bool.and_eq_true] at hw
  refine good_val (PE.imp (L2.pe_ix ixR (ih X γ C v cv h1 hw.1.1).1 (ih X γ C i ci h2 hw.2.1.1).1 (plainIx hp)) fun σ H Q q => ?_) fun _ => rfl
  have q := tIA_cons hw.1.2 (tIE_op q)
  exact tIE_mono q fun x H1 q => tIE_mono (tIA_one q) fun y H2 q => q
theorem good_hix (C : Ctx X γ F k) (ih : IH F k n) {x : Str} {i : Expr} {p p' : Pos} {j : Nat} {ci : E} (hp : plainE i = true) (h1 : γ.hand x = some j) (h2 : cE n γ i = some ci) (hw : (E.hix j ci).wf = true) : Good X F (.Subscript (.Name x p') i p) (.hix j ci) := by
  unfold E.wf at hw
  exact good_val (PE.imp (L2.pe_ix L2.ix_list (any_spec C (hand_any h1)).2 (ih X γ C i ci h2 hw).1 (plainIx hp)) fun σ H Q q => tIE_hix q) fun _ => rfl
theorem good_tup (C : Ctx X γ F k) (ih : IH F k n) {es : List Expr} {x1 : Nat} {p : Pos} {cs : List E} (h : mapO (cE n γ) es = some cs) (hw : (E.op .tupD cs).wf = true) : Good X F (.Tuple es x1 p) (.op .tupD cs) := by
  unfold E.wf at hw
  refine good_val (PE.imp (L2.pe_tup (pa_map C ih h hw).1) fun σ H Q q => tIA_mono (tIE_op q) fun vs H1 q => ?_) fun _ => rfl
  obtain ⟨ds, Fs, d, e, r, k⟩ := q
  simp only [opS] at e
  split at e
  · rename_i hl
    cases e
    exact ⟨by rw [r.len.1, ← line_eq]; exact hl, fun p hp => finT hp r (fun a m => m) (fun n => n) noT k⟩
  · cases e
theorem good_lst (C : Ctx X γ F k) (ih : IH F k n) {es : List Expr} {p : Pos} {cs : List E} (h : mapO (cE n γ) es = some cs) (hw : (E.op .lstD cs).wf = true) : Good X F (.List es p) (.op .lstD cs) := by
  unfold E.wf at hw
  refine good_val (PE.imp (L2.pe_lst (pa_map C ih h hw).1) fun σ H Q q => tIA_mono (tIE_op q) fun vs H1 q => ?_) fun _ => rfl
  obtain ⟨ds, Fs, d, e, r, k⟩ := q
  simp only [opS] at e
  split at e
  · rename_i hl
    cases e
    exact ⟨by rw [r.len.1, ← line_eq]; exact hl, fun p hp => finL hp r (fun a m => m) (fun n => n) isA k⟩
  · cases e
theorem blt_get {x : Str} (h : bltNames.contains x = true) : x ∈ bltNames := by simpa using h
theorem good_callB (C : Ctx X γ F k) (ih : IH F k n) {x : Str} {es : List Expr} {p p' : Pos} {cs : List E} {o : Op} (hg : γ.gl x = true) (hb : bltNames.contains x = true) (ho : blt x es.length = some o) (h : mapO (cE n γ) es = some cs) (hw : (E.op o cs).wf = true) :
    Good X F (.Call (.Name x p') es [] p) (.op o cs) := by
  unfold E.wf at hw
  obtain ⟨pa, hpl⟩ := pa_map C ih h hw
  obtain ⟨g1, g2, g3⟩ := gl_spec C hg
  have hm := C.blt x (blt_get hb)
  cases es with
  | nil => simp [blt] at ho
  | cons e es =>
    have he := star_cons (es := es) (env := X.env) (mapO_plain h)
    have hpl' : (backTo p (starEach es X.env)).any (·.1) = false := by
      have := hpl p
      rw [he] at this
      unfold backTo at this
      rw [List.map_cons, List.any_cons] at this
      exact this
    have goB : ∀ {id : String}, CallR X (.builtin id) (fun xs H Q => OpV X.K o xs H Q) → bootBuiltins x = some (.builtin id) → Good X F (.Call (.Name x p') (e :: es) [] p) (.op o cs) := fun {id} r hv =>
      good_val (PE.imp (L2.pe_callB r g1 hm hv pa g3 g2 he hpl') fun σ H Q q => tIE_op q) fun _ => rfl
    have goT : ∀ {id : String}, CallR X (.type id) (fun xs H Q => OpV X.K o xs H Q) → bootBuiltins x = some (.type id) → Good X F (.Call (.Name x p') (e :: es) [] p) (.op o cs) := fun {id} r hv =>
      good_val (PE.imp (L2.pe_callTy r g1 hm hv pa g3 g2 he hpl') fun σ H Q q => tIE_op q) fun _ => rfl
    unfold blt at ho
    split at ho
    · by_cases z : x = ("len" : Str)
      · subst z; cases ho; exact goB callR_len (by decide +kernel)
      rw [if_neg z] at ho; clear z
      by_cases z : x = ("abs" : Str)
      · subst z; cases ho; exact goB callR_abs (by decide +kernel)
      rw [if_neg z] at ho; clear z
      by_cases z : x = ("int" : Str)
      · subst z; cases ho; exact goT callR_int (by decide +kernel)
      rw [if_neg z] at ho; clear z
      by_cases z : x = ("max" : Str)
      · subst z; cases ho; exact goB (callR_maxL C.calm) (by decide +kernel)
      rw [if_neg z] at ho; clear z
      by_cases z : x = ("min" : Str)
      · subst z; cases ho; exact goB (callR_minL C.calm) (by decide +kernel)
      rw [if_neg z] at ho; clear z
      by_cases z : x = ("sum" : Str)
      · subst z; cases ho; exact goB (callR_sum C.calm) (by decide +kernel)
      rw [if_neg z] at ho; clear z
      by_cases z : x = ("all" : Str)
      · subst z; cases ho; exact goB (callR_all C.calm) (by decide +kernel)
      rw [if_neg z] at ho; clear z
      by_cases z : x = ("any" : Str)
      · subst z; cases ho; exact goB (callR_any C.calm) (by decide +kernel)
      rw [if_neg z] at ho; clear z
      by_cases z : x = ("tuple" : Str)
      · subst z; cases ho; exact goT callR_tuple (by decide +kernel)
      rw [if_neg z] at ho; clear z
      by_cases z : x = ("list" : Str)
      · subst z; cases ho; exact goT callR_list (by decide +kernel)
      rw [if_neg z] at ho; clear z
      by_cases z : x = ("sorted" : Str)
      · subst z; cases ho; exact goB (callR_sorted C.un) (by decide +kernel)
      rw [if_neg z] at ho
      cases ho
    · split at ho
      · by_cases z : x = ("max" : Str)
        · subst z; cases ho; exact goB (callR_max2 C.calm) (by decide +kernel)
        rw [if_neg z] at ho; clear z
        by_cases z : x = ("min" : Str)
        · subst z; cases ho; exact goB (callR_min2 C.calm) (by decide +kernel)
        rw [if_neg z] at ho
        cases ho
      · cases ho
theorem isi_fin {K : PySem.W.Frag} {o : Op} {T : String} {x : V} {H : Hp} {Q : VK}
    (ht : ∀ d r, opS o [d] = some r → ∃ (S : String) (b : Bool), tyD d = .type S ∧ L2.kitB S T = some b ∧ r = .bool b)
    (q : OpV K o [x] H Q) : L2.rIsi K [x, .ty T] H Q := by
  obtain ⟨a, Fa, d, e, r, k⟩ := opV1 q
  obtain ⟨S, b, h1, h2, rfl⟩ := ht a d e
  have ty := ty_of r
  rw [h1] at ty
  exact ⟨x, .ty T, .type S, .type T, b, rfl, .ty T, ty, L2.kit_ty h2, fin0 (.bool b) k⟩
theorem good_isi (C : Ctx X γ F k) (ih : IH F k n) {t : Str} {e : Expr} {p p' p2 : Pos} {c : E} {o : Op} (hg : γ.gl ("isinstance" : Str) = true) (he : plainE e = true) (ht : γ.gl t = true) (hb : bltNames.contains t = true) (ho : isType t = some o) (h : cE n γ e = some c) (hw : (E.op o [c]).wf = true) :
    Good X F (.Call (.Name ("isinstance" : Str) p') [e, .Name t p2] [] p) (.op o [c]) := by
  unfold E.wf E.wf.wfs at hw
  simp only [Bool.and_eq_true] at hw
  obtain ⟨g1, g2, g3⟩ := gl_spec C hg
  obtain ⟨t1, t2, t3⟩ := gl_spec C ht
  have hm := C.blt ("isinstance" : Str) (by decide +kernel)
  have hm2 := C.blt t (blt_get hb)
  have g := (ih X γ C e c h hw.1.1).1
  have hst : starEach (e :: [.Name t p2]) X.env = (false, eval e X.env) :: starEach [.Name t p2] X.env := star_cons he
  have go : ∀ {T : String}, bootBuiltins t = some (.type T) → (∀ d r, opS o [d] = some r → ∃ (S : String) (b : Bool), tyD d = .type S ∧ L2.kitB S T = some b ∧ r = .bool b) →
      Good X F (.Call (.Name ("isinstance" : Str) p') [e, .Name t p2] [] p) (.op o [c]) := fun {T} hv hd => by
    have pn : PE X (.Name t p2) (L2.tC (.ty T)) := L2.pe_bltn t1 hm2 hv rfl t3 t2
    refine good_val (PE.imp (L2.pe_callB L2.call_isi g1 hm (by decide +kernel) (L2.pa_cons g (L2.pa_cons pn L2.pa_nil rfl) hst) g3 g2 hst rfl) fun σ H Q q => ?_) fun _ => rfl
    exact tIE_mono (tIE_un q) fun x H1 q => isi_fin hd q
  unfold isType at ho
  by_cases z : t = ("int" : Str)
  · subst z; cases ho
    exact go (T := "int") (by decide +kernel) fun d r q => by
      cases d <;> simp only [opS, oIs, Option.map_some, Option.map_none, Option.some.injEq, reduceCtorEq] at q <;> subst q <;> exact ⟨_, _, rfl, by decide +kernel, rfl⟩
  rw [if_neg z] at ho; clear z
  by_cases z : t = ("bool" : Str)
  · subst z; cases ho
    exact go (T := "bool") (by decide +kernel) fun d r q => by
      cases d <;> simp only [opS, oIs, Option.map_some, Option.map_none, Option.some.injEq, reduceCtorEq] at q <;> subst q <;> exact ⟨_, _, rfl, by decide +kernel, rfl⟩
  rw [if_neg z] at ho; clear z
  by_cases z : t = ("tuple" : Str)
  · subst z; cases ho
    exact go (T := "tuple") (by decide +kernel) fun d r q => by
      cases d <;> simp only [opS, oIs, Option.map_some, Option.map_none, Option.some.injEq, reduceCtorEq] at q <;> subst q <;> exact ⟨_, _, rfl, by decide +kernel, rfl⟩
  rw [if_neg z] at ho; clear z
  by_cases z : t = ("list" : Str)
  · subst z; cases ho
    exact go (T := "list") (by decide +kernel) fun d r q => by
      cases d <;> simp only [opS, oIs, Option.map_some, Option.map_none, Option.some.injEq, reduceCtorEq] at q <;> subst q <;> exact ⟨_, _, rfl, by decide +kernel, rfl⟩
  rw [if_neg z] at ho; clear z
  by_cases z : t = ("str" : Str)
  · subst z; cases ho
    exact go (T := "str") (by decide +kernel) fun d r q => by
      cases d <;> simp only [opS, oIs, Option.map_some, Option.map_none, Option.some.injEq, reduceCtorEq] at q <;> subst q <;> exact ⟨_, _, rfl, by decide +kernel, rfl⟩
  rw [if_neg z] at ho
  cases ho
theorem lfs_map {α : Type} (f : α → Int) : ∀ l : List α, lfs (l.map fun x => PyData.int (f x)) = true
  | [] => rfl
  | x :: l => by
    show (lf (.int (f x)) && lfs (l.map fun x => PyData.int (f x))) = true
    rw [lfs_map f l]; rfl
theorem flat_rev_nodup {Gs : List (List Addr)} (h : Gs.flatten.Nodup) : Gs.reverse.flatten.Nodup := ((List.reverse_perm Gs).flatten.nodup_iff).mpr h
theorem good_slrev (C : Ctx X γ F k) (ih : IH F k n) {v : Expr} {j : Nat} {p1 p2 p3 p : Pos} {cv : E} (h : cE n γ v = some cv) (hw : (E.op .slrev [cv]).wf = true) : Good X F (.Subscript v (.Slice none none (some (.UnaryOp .USub (.Constant (.int 1) j p1) p2)) p3) p) (.op .slrev [cv]) := by
  unfold E.wf E.wf.wfs at hw
  simp only [Bool.and_eq_true] at hw
  refine good_val (PE.imp (L2.pe_revL (ih X γ C v cv h hw.1.1).1) fun σ H Q q => tIE_mono (tIE_un q) fun x H1 q => ?_) fun _ => rfl
  obtain ⟨a, Fa, d, e, r, k⟩ := opV1 q
  cases r <;> first | (simp only [opS] at e; cases e; done) | skip
  rename_i b vs xs Gs hb rb
  simp only [opS, Option.some.injEq] at e
  subst e
  refine ⟨b, vs, rfl, SqL.of' hb, fun q hq => finL hq rb.reverse (fun a m => ?_) (fun nd => ?_) isA k⟩
  · exact List.mem_cons_of_mem _ (by simpa using m)
  · have := (List.nodup_cons.mp nd).2
    exact flat_rev_nodup this
theorem small_rg {a b : Int} (h1 : small62 a = true) (h2 : small62 b = true) (h3 : (b - a).toNat ≤ line) : L2.RgOk a b := by
  unfold small62 two62 at h1 h2
  simp only [Bool.and_eq_true, decide_eq_true_eq] at h1 h2
  exact ⟨by omega, by omega, by omega, by omega, h3⟩
theorem rg_fin {K : PySem.W.Frag} {a b : Int} {H : Hp} {Q : VK} {Fs : List Addr} (k : ∀ (v : V) (H' : Hp) (Fx : List Addr), (∀ a x, H a = some x → H' a = some x) → Rep K H' v (.list ((List.range (b - a).toNat).map fun (i : Nat) => .int (a + i))) Fx → (∀ a ∈ Fx, H a = none ∨ a ∈ Fs) → (Fs.Nodup → Fx.Nodup) →
    (True → Fx.Nodup ∧ ∀ a ∈ Fx, H a = none) → Q v H') : ∀ q, H q = none → Q (.ref q) (upd H q (.lst (L2.rgV a b))) := fun q hq => by
  have r := RepL.of_ints (K := K) (H := H) ((List.range (b - a).toNat).map fun (i : Nat) => a + (i : Int))
  rw [List.map_map, List.map_map] at r
  exact finL hq r (fun x m => by rw [flat_nil] at m; cases m) (fun _ => by rw [flat_nil]; exact .nil) (fun _ => lfs_map (fun (i : Nat) => a + (i : Int)) _) k
theorem good_lrng (C : Ctx X γ F k) (ih : IH F k n) {es : List Expr} {c : E} {p p' : Pos} (hg : γ.gl ("list" : Str) = true) (h : cRng (cE n γ) γ ("list" : Str) es = some c) (hw : c.wf = true) : Good X F (.Call (.Name ("list" : Str) p') es [] p) c := by
  unfold cRng at h
  rw [if_pos rfl] at h
  split at h
  case h_2 => cases h
  rename_i r p2 as p3
  split at h
  case isFalse => cases h
  rename_i hc
  obtain ⟨rfl, hr, hl⟩ := hc
  rw [Option.map_eq_some_iff] at h
  obtain ⟨cs, h, rfl⟩ := h
  unfold E.wf at hw
  obtain ⟨g1, g2, g3⟩ := gl_spec C hg
  obtain ⟨r1, r2, r3⟩ := gl_spec C hr
  have m1 := C.blt ("list" : Str) (by decide +kernel)
  have m2 := C.blt ("range" : Str) (by decide +kernel)
  match as, cs, mapO_len h, hl, h with
  | [a], [ca], _, _, h =>
    obtain ⟨c1, cs1, e1, f1, f2⟩ := mapO_tail h
    cases e1
    unfold E.wf.wfs at hw
    simp only [Bool.and_eq_true] at hw
    have ha : starEach [a] X.env = (false, eval a X.env) :: starEach [] X.env := star_cons (mapO_plain h)
    refine good_val (PE.imp (L2.pe_listRg C.calm g1 m1 (L2.prg_1 r1 m2 (ih X γ C a ca f1 hw.1.1).1 ha) rfl) fun σ H Q q => tIE_mono (tIE_un q) fun x H1 q => ?_) fun _ => rfl
    obtain ⟨d, Fa, d', e, r, k⟩ := opV1 q
    cases r <;> first | (simp only [opS] at e; cases e; done) | skip
    rename_i i
    simp only [opS] at e
    split at e
    case isFalse => cases e
    rename_i hs
    cases e
    simp only [Bool.and_eq_true, decide_eq_true_eq] at hs
    refine ⟨i, rfl, small_rg (by decide) hs.1 (by rw [Int.sub_zero]; exact hs.2), rg_fin (K := X.K) (Fs := []) fun v H' Fx k1 k2 k3 k4 k5 => k v H' Fx k1 (by rw [Int.sub_zero] at k2; exact k2) k3 k4 fun _ => k5 trivial⟩
  | [a, b], [ca, cb], _, _, h =>
    obtain ⟨c1, cs1, e1, f1, f2⟩ := mapO_tail h
    cases e1
    obtain ⟨c2, cs2, e2, f3, f4⟩ := mapO_tail f2
    cases e2
    have hw0 := hw
    unfold E.wf.wfs E.wf.wfs at hw
    simp only [Bool.and_eq_true] at hw
    have ha : starEach [a, b] X.env = (false, eval a X.env) :: starEach [b] X.env := star_cons (mapO_plain h)
    have hb : starEach [b] X.env = (false, eval b X.env) :: starEach [] X.env := star_cons (mapO_plain f2)
    refine good_val (PE.imp (L2.pe_listRg C.calm g1 m1 (L2.prg_2 r1 m2 (ih X γ C a ca f1 hw.1.1).1 (ih X γ C b cb f3 hw.2.1.1).1 ha hb (by rw [hb]; rfl)) rfl) fun σ H Q q => ?_) fun _ => rfl
    refine tIE_mono (tIA_cons hw.1.2 (tIE_op q)) fun x H1 q1 => tIE_mono (tIA_one q1) fun y H2 q2 => ?_
    obtain ⟨d1, d2, F1, F2, d', e, r1, r2, k⟩ := opV2 q2
    cases r1 <;> cases r2 <;> first | (simp only [opS] at e; cases e; done) | skip
    rename_i i j
    simp only [opS] at e
    split at e
    case isFalse => cases e
    rename_i hs
    cases e
    simp only [Bool.and_eq_true, decide_eq_true_eq] at hs
    exact ⟨i, j, rfl, rfl, small_rg hs.1.1 hs.1.2 hs.2, rg_fin (K := X.K) (Fs := []) fun v H' Fx k1 k2 k3 k4 k5 => k v H' Fx k1 k2 (by simpa using k3) (by simpa using k4) fun _ => k5 trivial⟩
theorem good_callF (C : Ctx X γ F k) (ih : IH F k n) {x : Str} {es : List Expr} {p p' : Pos} {cs : List E} {f : Nat} (hg : γ.gl x = true) (hf : fnIx x γ.fns = some (f, false)) (h : mapO (cE n γ) es = some cs) (hw : (E.call f none cs).wf = true) :
    Good X F (.Call (.Name x p') es [] p) (.call f none cs) := by
  unfold E.wf at hw
  obtain ⟨pa, hpl⟩ := pa_map C ih h hw
  obtain ⟨g1, g2, g3⟩ := gl_spec C hg
  obtain ⟨fa, fd, ps, f1, f2, f3, f4⟩ := C.fns f x false (fnIx_get hf)
  have i : ∀ σ H Q, tIE X.K F (.call f none cs) σ H Q → L2.tCall (spOf X.K (F f) false) [] L2.E0 (tIA X.K F cs) σ H Q := fun σ H Q q => by
    obtain ⟨ah, _, q⟩ := call_fin q
    refine tIA_mono q fun vs H1 q => ?_
    rw [List.append_nil]
    have := q L2.E0
    cases ah <;> exact this
  cases es with
  | nil =>
    have e : cs = [] := by simpa [mapO] using h.symm
    subst e
    refine good_val (PE.imp (L2.pe_call0 f3 C.room g1 f1 f2 f4 .nil L2.pass0 g2) fun σ H Q q => ?_) fun _ => rfl
    exact tIA_nil (i σ H Q q)
  | cons e es =>
    have he := star_cons (es := es) (env := X.env) (mapO_plain h)
    have hpl' : (backTo p (starEach es X.env)).any (·.1) = false := by
      have := hpl p
      rw [he] at this
      unfold backTo at this
      rw [List.map_cons, List.any_cons] at this
      exact this
    exact good_val (PE.imp (L2.pe_call f3 C.room g1 f1 f2 f4 .nil L2.pass0 pa g2 he hpl') i) fun _ => rfl
theorem good_callH (C : Ctx X γ F k) (ih : IH F k n) {x y : Str} {es : List Expr} {p p' p2 : Pos} {cs : List E} {f j : Nat} (hg : γ.gl x = true) (hf : fnIx x γ.fns = some (f, true)) (hy : γ.hand y = some j) (h : mapO (cE n γ) es = some cs) (hw : (E.call f (some j) cs).wf = true) :
    Good X F (.Call (.Name x p') (.Name y p2 :: es) [] p) (.call f (some j) cs) := by
  unfold E.wf at hw
  obtain ⟨pa, hpl⟩ := pa_map C ih h hw
  obtain ⟨g1, g2, g3⟩ := gl_spec C hg
  obtain ⟨fa, fd, ps, f1, f2, f3, f4⟩ := C.fns f x true (fnIx_get hf)
  have pa' := L2.pa_cons (any_spec C (hand_any hy) (p := p2)).2 pa rfl
  refine good_val (PE.imp (L2.pe_call f3 C.room g1 f1 f2 f4 .nil L2.pass0 pa' g2 rfl (hpl p)) fun σ H Q q => ?_) fun _ => rfl
  obtain ⟨ah, hh, q⟩ := call_fin q
  obtain ⟨a, ea, es'⟩ := hh j rfl
  subst ea
  refine ⟨_, es', tIA_mono q fun vs H1 q => ?_⟩
  show spOf X.K (F f) true ((V.ref a :: vs) ++ []) H1 Q L2.E0
  rw [List.append_nil]
  exact q L2.E0
theorem good_pop (C : Ctx X γ F k) {x : Str} {apos p p' : Pos} {i : Nat} (hx : γ.slot x = some i) (hl : (apos.endLine == p.line) = true) : Good X F (.Call (.Attribute (.Name x p') ("pop" : Str) apos) [] [] p) (.pop i) := by
  refine good_val (PE.imp (L2.pe_bm0 PySem.F.plainAttrs_list PySem.F.slot_list_pop PySem.F.type_list_pop L2.mt_pop (any_spec C (slot_any hx) (p := p')).2 rfl hl) fun σ H Q q => ?_) fun _ => rfl
  obtain ⟨v, e, ty, r⟩ := tIE_pop q
  exact ⟨v, e, ty, r⟩
theorem good_popat (C : Ctx X γ F k) (ih : IH F k n) {x : Str} {apos p p' : Pos} {i : Nat} {e : Expr} {c : E} (hp : plainE e = true) (hx : γ.slot x = some i) (hl : (apos.endLine == p.line) = true) (h : cE n γ e = some c) (hw : (E.popat i c).wf = true) :
    Good X F (.Call (.Attribute (.Name x p') ("pop" : Str) apos) [e] [] p) (.popat i c) := by
  unfold E.wf at hw
  simp only [Bool.and_eq_true, List.isEmpty_iff] at hw
  have hst : starEach [e] X.env = (false, eval e X.env) :: starEach [] X.env := star_cons hp
  refine good_val (PE.imp (L2.pe_bm PySem.F.plainAttrs_list PySem.F.slot_list_pop PySem.F.type_list_pop L2.mt_popAt (any_spec C (slot_any hx) (p := p')).2 (L2.pa_cons (ih X γ C e c h hw.1).1 L2.pa_nil hst) rfl (by rw [hst]; rfl) hl hst rfl) fun σ H Q q => ?_) fun _ => rfl
  obtain ⟨v, e, ty, r⟩ := tIE_popat hw.2 q
  exact ⟨v, e, ty, tIE_mono r fun y H1 q => q⟩
end
end Iv
set_option Elab.async false
set_option linter.all false
set_option maxRecDepth 100000
set_option maxHeartbeats 2000000
/-! IvDist: len({x: True for x in ..}), numbers. -/
namespace Iv
open PySem PySem.Spec PyProof.Rows
open L2 (PE PA PI PG PT PTs Cx TE TA TT TG TI It Walk wipe HO V Hp Inv VK upd SqL SqT upd_ne upd_same kV putK BlkOk)
theorem kp_updD {H : Hp} {l : Addr} {o : HO} {kvs : List (L2.Key × V)} {G : List Addr} (h : H l = some (.dK kvs)) (n : l ∉ G) : Kp G H (upd H l o) :=
  ⟨fun a m q e => by rw [upd_ne (fun z => by subst z; exact n m)]; exact e, fun a ws e => by
    rw [upd_ne (fun z => by subst z; rw [h] at e; cases e)]; exact e⟩
theorem SR.updD {K : PySem.W.Frag} {ah : Option Addr} {H0 H : Hp} {σ : L2.St} {s : St} {Fs : Fp} {Fg : List Addr} (R : SR K ah H0 σ H s Fs Fg) {Dd : Addr} {kvs : List (L2.Key × V)} {o : HO} (hD : H Dd = some (.dK kvs)) (n1 : ∀ j, Dd ∉ Fs j) (n2 : Dd ∉ Fg) (n3 : some Dd ≠ ah) (n4 : H0 Dd = none) :
    SR K ah H0 σ (upd H Dd o) s Fs Fg where
  len := R.len
  slot := fun i => (R.slot i).kp (kp_updD hD (n1 i))
  own := R.own
  noah := R.noah
  hand := R.hand.kp (kp_updD hD n2) fun a ea p e => by rw [upd_ne (fun z => by subst z; exact n3 ea.symm)]; exact e
  keep := fun a p e n => by rw [upd_ne (fun z => by subst z; rw [n4] at e; cases e)]; exact R.keep a p e n
theorem ints_get : ∀ {xs : List D} {ns : List Int}, intsOf xs = some ns → xs = ns.map .int
  | [], ns, h => by simp [intsOf] at h; subst h; rfl
  | x :: xs, ns, h => by
    cases x <;> first | (simp [intsOf] at h; done) | skip
    simp only [intsOf, Option.map_eq_some_iff] at h
    obtain ⟨q, h1, rfl⟩ := h
    rw [ints_get h1]; rfl
theorem compL_id {i : Nat} {s0 : Env} {F : Fns} : ∀ {items : List D} {g : G} {xs : List D} {gE : G},
    compL (fun v g => (bindTg (.nm i) v (s0, g)).bind fun s1 => (ev F (.var i) s1).map fun q => (some q.1, q.2.2)) items g = some (xs, gE) → xs = items ∧ gE = g
  | [], g, xs, gE, h => by
    simp only [compL, Option.some.injEq, Prod.mk.injEq] at h
    exact ⟨h.1.symm, h.2.symm⟩
  | d :: ds, g, xs, gE, h => by
    unfold compL at h
    rw [Option.bind_eq_some_iff] at h
    obtain ⟨⟨ox, g1⟩, c1, c2⟩ := h
    rw [Option.map_eq_some_iff] at c2
    obtain ⟨⟨rest, gq⟩, c2, c3⟩ := c2
    simp only [bindTg, Option.bind_some, Option.map_eq_some_iff] at c1
    obtain ⟨⟨y, s2⟩, c1, c4⟩ := c1
    have hy : y = d ∧ s2 = put (s0, g) i (.sh d) := by
      unfold ev at c1
      unfold rd put at c1
      by_cases hi : i < s0.length
      · simp only [List.getElem?_set_self hi, Option.map_some, Option.some.injEq, Prod.mk.injEq] at c1
        exact ⟨c1.1.symm, c1.2.symm⟩
      · rw [List.getElem?_eq_none (by rw [List.length_set]; exact Nat.le_of_not_lt hi)] at c1
        simp at c1
    obtain ⟨rfl, rfl⟩ := hy
    simp only [Prod.mk.injEq] at c4
    obtain ⟨rfl, rfl⟩ := c4
    obtain ⟨e1, e2⟩ := compL_id c2
    simp only [Prod.mk.injEq] at c3
    obtain ⟨rfl, rfl⟩ := c3
    exact ⟨by rw [e1], e2⟩
theorem ev_ndist {F : Fns} {i : Nat} {k : IK} {es : List E} {s s' : St} {d : D} (h : ev F (.op .ndist [.comp (.nm i) k es none (.var i)]) s = some (d, s')) :
    ∃ ds items ns, evs F es s = some (ds, s') ∧ itS k ds = some items ∧ intsOf items = some ns ∧ items.length ≤ line ∧ d = .int ((nubI ns).length : Nat) := by
  unfold ev evs evs ev at h
  simp only [Option.bind_eq_some_iff, Option.map_eq_some_iff] at h
  obtain ⟨⟨xs, s1⟩, ⟨⟨c, s2⟩, ⟨⟨ds, s3⟩, e1, items, e2, ⟨ys, gE⟩, e3, e4⟩, ⟨r, e5, e6⟩⟩, d', e7, e8⟩ := h
  obtain ⟨rfl, rfl⟩ := compL_id e3
  dsimp only at e4
  split at e4
  case isFalse => cases e4
  rename_i hl
  simp only [Option.some.injEq, Prod.mk.injEq] at e4 e5 e6
  obtain ⟨rfl, rfl⟩ := e4
  subst e5
  obtain ⟨rfl, rfl⟩ := e6
  simp only [Prod.mk.injEq] at e8
  obtain ⟨rfl, rfl⟩ := e8
  simp only [opS, Option.map_eq_some_iff] at e7
  obtain ⟨ns, e7, rfl⟩ := e7
  exact ⟨ds, _, ns, e1, e2, e7, hl, rfl⟩
theorem nub_snoc (ns : List Int) (n : Int) : nubI (ns ++ [n]) = if n ∈ nubI ns then nubI ns else nubI ns ++ [n] := by
  unfold nubI; rw [List.foldl_append]; rfl
theorem nub_len (ns : List Int) : (nubI ns).length ≤ ns.length := by
  unfold nubI
  have : ∀ (ns acc : List Int), (ns.foldl (fun acc n => if n ∈ acc then acc else acc ++ [n]) acc).length ≤ acc.length + ns.length := by
    intro ns
    induction ns with
    | nil => intro acc; simp
    | cons n r ih =>
      intro acc
      rw [List.foldl_cons]
      refine Nat.le_trans (ih _) ?_
      split <;> simp <;> omega
  simpa using this ns []
theorem tIE_ndist {K : PySem.W.Frag} {F : Fns} {i : Nat} {k : IK} {es : List E} {σ : L2.St} {H : Hp} {Q Q' : VK} (hi : i < σ.length) (hq : ∀ a kvs H1, L2.Rd H1 a (.dK kvs) → Q (.int kvs.length) H1 → Q' (.ref a) H1)
    (h : tIE K F (.op .ndist [.comp (.nm i) k es none (.var i)]) σ H Q) : L2.tDc (tII K F k es) (L2.gName i) L2.tYes (L2.tVar i) (L2.tC (.bl true)) [i] σ H Q' := by
  obtain ⟨ah, H0, s, Fs, Fg, d, s1, R, e, kk⟩ := h
  obtain ⟨ds, items, ns, e1, ei, en, hline, rfl⟩ := ev_ndist e
  refine ⟨ah, H0, s, Fs, Fg, ds, s1, items, R, e1, ei, fun J H1 Fs1 Fg1 Fa P hP R1 St1 naA frA thA wk => ?_⟩
  intro Dd hD
  obtain ⟨Gd, Y, w, hGd, hY⟩ := wk
  have nD1 : ∀ j, Dd ∉ Fs1 j := fun j => R1.notFs hD j
  have nD2 : Dd ∉ Fg1 := R1.notFg hD
  have nD3 : some Dd ≠ ah := R1.newah hD
  have nD4 : H0 Dd = none := R1.new hD nD3
  have hlen : items.length = ns.length := by rw [ints_get en, List.length_map]
  refine IvR.dist_it w hi (fun j Hj => (∃ kvs, Hj Dd = some (.dK kvs) ∧ kvs.map (·.1) = (nubI (ns.take j)).map .inl) ∧ SR K ah H0 σ Hj s1 Fs1 Fg1 ∧ (∀ a o, H1 a = some o → some a ≠ ah → Hj a = some o) ∧ (∀ a vs, H1 a = some (.tup vs) → Hj a = some (.tup vs)) ∧ ∀ a, Hj a = none → H1 a = none) ?_ ?_ ?_ ?_ ?_
  · exact ⟨⟨[], upd_same, rfl⟩, R1.same (upd_keeps hD), fun a o e _ => upd_keeps hD a o e, fun a vs e => upd_keeps hD a _ e, fun a e => by
      by_cases z : a = Dd
      · subst z; exact hD
      · rwa [upd_ne z] at e⟩
  · exact fun j Hj _ I => hGd Hj ⟨fun a m o q => I.2.2.1 a o q (naA a m), I.2.2.2.1⟩
  · exact fun x => (wipe_set List.mem_cons_self).trans wipe_wipe
  · intro j x Hj H' hj I hy
    obtain ⟨⟨kvs, c1, c2⟩, c3, c4, c5, c6⟩ := I
    obtain ⟨same, d, Fx, hd, rx, hFx⟩ := hY j Hj x H' hj ⟨fun a m o q => c4 a o q (naA a m), c5⟩ hy
    have hj' : j < ns.length := hlen ▸ hj
    have hd' : items[j]? = some (.int ns[j]) := by rw [ints_get en]; simp [hj']
    rw [hd'] at hd
    cases hd
    cases rx
    have hD' : H' Dd = some (.dK kvs) := same Dd _ c1
    refine ⟨kvs, Sum.inl ns[j], rfl, hD', ?_, ⟨putK kvs (Sum.inl ns[j]) (.bl true), upd_same, ?_⟩, (c3.same same).updD hD' nD1 nD2 nD3 nD4, fun a o q n => ?_, fun a ws q => ?_, fun a q => ?_⟩
    · have q := congrArg List.length c2
      simp only [List.length_map] at q
      have q2 := nub_len (ns.take j)
      rw [List.length_take] at q2
      rw [q, ← line_eq]
      omega
    · rw [IvR.keys_put, c2, List.take_succ_eq_append_getElem hj', nub_snoc]
      by_cases z : ns[j] ∈ nubI (ns.take j)
      · rw [if_pos z, if_pos (List.mem_map.mpr ⟨_, z, rfl⟩)]
      · rw [if_neg z, if_neg (fun m => by
          obtain ⟨y, hy, q⟩ := List.mem_map.mp m
          cases q
          exact z hy), List.map_append]; rfl
    · rw [upd_ne (fun z => by subst z; rw [hD] at q; cases q)]
      exact same a o (c4 a o q n)
    · rw [upd_ne (fun z => by subst z; rw [hD] at q; cases q)]
      exact same a _ (c5 a ws q)
    · have q2 := updL_there hD' a q
      refine c6 a ?_
      cases z : Hj a with
      | none => rfl
      | some o => rw [same a o z] at q2; cases q2
  · intro Hn I
    obtain ⟨⟨kvs, c1, c2⟩, c3, c4, c5, c6⟩ := I
    have hk : kvs.length = (nubI ns).length := by
      have q := congrArg List.length c2
      rw [hlen, List.take_length] at q
      simpa using q
    have St2 : Stp ah [] H1 s1 Fs1 Fg1 Hn (s1.1, s1.2) Fs1 Fg1 := stp_called (fun _ h => h) c4 c6 c5
    have St := St1.trans St2
    rw [List.append_nil] at St
    refine hq Dd kvs Hn (.of c1) ?_
    rw [hk]
    refine kk _ Hn Fs1 Fg1 [] P (fun j hj => ?_) c3 St (.int _) ⟨fun _ h => (nomatch h), fun _ h => (nomatch h), fun _ => ⟨.nil, fun _ h => (nomatch h)⟩⟩
    unfold E.popL E.popL.pls
    unfold E.popL
    simp [hP j hj]
end Iv
set_option Elab.async false
set_option linter.all false
set_option maxRecDepth 100000
set_option maxHeartbeats 2000000
/-! IvSound13: comprehensions' text; every term. -/
namespace Iv
open PySem PySem.Spec PyProof.Rows
open L2 (V Hp HO SqL SqT upd upd_same upd_ne ne_of_none VK TE TA TT TI TS TG Cx Inv RelV Vals PE PT PA PW PI PG PGs PO PTs OpR UnR CallR IxR SlR Vis Gl FnOk Room Binds CX0 Sp XK tTest It Walk wipe BlkOk)

variable {F : Fns} {k : Nat}

theorem lookup_rel {env : PySem.Env} : ∀ {names : List (Str × NameKind)} {x : Str} {q : NameKind}, names.lookup x = some q →
    ∃ q', (names.map fun (n, k) => if (k == NameKind.free && env.scope.kind == .function && env.kindOf n == some .cell) then (n, NameKind.cell) else (n, k)).lookup x = some q' ∧ (q' = q ∨ (q = .free ∧ q' = .cell))
  | [], _, _, h => by simp at h
  | (n, k) :: r, x, q, h => by
    have ih := @lookup_rel env r x q
    show ∃ q', List.lookup x ((if (k == NameKind.free && env.scope.kind == .function && env.kindOf n == some .cell) = true then (n, NameKind.cell) else (n, k)) :: _) = some q' ∧ _
    by_cases hc : (k == NameKind.free && env.scope.kind == .function && env.kindOf n == some .cell) = true
    · rw [if_pos hc]
      cases hx : x == n with
      | true =>
        simp only [List.lookup_cons, hx] at h
        cases h
        simp only [Bool.and_eq_true] at hc
        exact ⟨.cell, by simp [List.lookup_cons, hx], .inr ⟨eq_of_beq hc.1.1, rfl⟩⟩
      | false =>
        simp only [List.lookup_cons, hx] at h
        obtain ⟨q', e1, e2⟩ := ih h
        exact ⟨q', by simp only [List.lookup_cons, hx]; exact e1, e2⟩
    · rw [if_neg hc]
      cases hx : x == n with
      | true =>
        simp only [List.lookup_cons, hx] at h
        cases h
        exact ⟨_, by simp [List.lookup_cons, hx], .inl rfl⟩
      | false =>
        simp only [List.lookup_cons, hx] at h
        obtain ⟨q', e1, e2⟩ := ih h
        exact ⟨q', by simp only [List.lookup_cons, hx]; exact e1, e2⟩
section
variable {X : Cx} {γ : Gam} {n : Nat}
/-- a comprehension's block as a context -/
theorem Ctx.blk (C : Ctx X γ F k) (scope : Scope) (s : Shared) (H : Hp) (Ca : Addr) (cl : List (Str × Addr)) (fp : List Addr) : Ctx (X.blk s H scope (compEnvC scope cl Ca X.env) fp) { γ with sc := scope.names } F k := by
  have look : ∀ {x : Str} {q : NameKind}, scope.names.lookup x = some q → ∃ q', (X.blk s H scope (compEnvC scope cl Ca X.env) fp).env.scope.names.lookup x = some q' ∧ (q' = q ∨ (q = .free ∧ q' = .cell)) := fun {x q} h => lookup_rel h
  refine ⟨C.calm, C.room, C.hN, C.nd, fun x h => ?_, fun x h => ?_, fun x h => ?_, fun x h => ?_, C.fns, C.blt, C.cst⟩
  · cases e : scope.names.lookup x with
    | none => rw [e] at h; cases h
    | some q =>
      obtain ⟨q', e1, e2⟩ := look e
      unfold L2.Vis
      rw [e1]
      rw [e] at h
      cases q <;> simp [isLoc] at h <;> rcases e2 with e2 | ⟨e2, e3⟩ <;> simp_all
  · cases e : scope.names.lookup x with
    | none => rw [e] at h; cases h
    | some q =>
      obtain ⟨q', e1, e2⟩ := look e
      unfold L2.Gl
      show (X.blk s H scope (compEnvC scope cl Ca X.env) fp).env.scope.names.lookup x = _
      rw [e1]
      rw [e] at h
      cases q <;> simp [isGl] at h <;> rcases e2 with e2 | ⟨e2, e3⟩ <;> simp_all
  · cases e : scope.names.lookup x with
    | none => rw [e] at h; cases h
    | some q =>
      obtain ⟨q', e1, e2⟩ := look e
      unfold L2.Loc
      rw [e1]
      rw [e] at h
      cases q <;> simp [isSt] at h <;> rcases e2 with e2 | ⟨e2, e3⟩ <;> simp_all
  · rcases h with h | h
    · obtain ⟨q', e1, e2⟩ := look h
      rw [e1]
      rcases e2 with e2 | ⟨e2, e3⟩ <;> simp_all
    · obtain ⟨q', e1, e2⟩ := look h
      rw [e1]
      rcases e2 with e2 | ⟨e2, e3⟩ <;> simp_all
theorem star1 {e : Expr} {env : PySem.Env} (h : plainE e = true) : starEach [e] env = [(false, eval e env)] := star_cons h
/-- an iterable's text -/
theorem good_it (C : Ctx X γ F k) (ih : IH F k n) {tg e : Expr} {q : IK} {cs : List E} (h : cIt (cE n γ) γ tg e = some (q, cs)) (hw : E.wf.wfs cs = true) : PI X tg e (tII X.K F q cs) := by
  have val : plainE e = true → (cE n γ e).map (fun c => (IK.val, [c])) = some (q, cs) → PI X tg e (tII X.K F q cs) := fun hp h' => by
    rw [Option.map_eq_some_iff] at h'
    obtain ⟨c, h2, e2⟩ := h'
    simp only [Prod.mk.injEq] at e2
    obtain ⟨rfl, rfl⟩ := e2
    unfold E.wf.wfs at hw
    simp only [Bool.and_eq_true] at hw
    exact pi_val (ih X γ C e c h2 hw.1.1).1
  unfold cIt at h
  split at h
  · rename_i x p es pos
    split at h
    case isFalse => cases h
    rename_i hg
    obtain ⟨g1, g2, g3⟩ := gl_spec C hg
    split at h
    · rename_i hx
      subst hx
      split at h
      case isFalse => cases h
      rename_i hl
      rw [Option.map_eq_some_iff] at h
      obtain ⟨cs', h, e2⟩ := h
      cases e2
      have pa := (pa_map C ih h hw).1
      have hm := C.blt ("range" : Str) (by decide +kernel)
      match es, hl, h, pa with
      | [a], _, h, pa =>
        obtain ⟨c, r, rfl, h1, h2⟩ := mapO_tail h
        cases h2
        exact pi_rng1 g1 hm pa (star1 (mapO_plain h))
      | [a, b], _, h, pa =>
        obtain ⟨c, r, rfl, h1, h2⟩ := mapO_tail h
        obtain ⟨c2, r2, rfl, h3, h4⟩ := mapO_tail h2
        cases h4
        exact pi_rng2 g1 hm pa (by rw [star_cons (mapO_plain h), star1 (mapO_plain h2)]) (star1 (mapO_plain h2))
      | [], hl, _, _ => simp at hl
      | _ :: _ :: _ :: _, hl, _, _ => simp at hl
    split at h
    · rename_i hx
      subst hx
      split at h
      case isFalse => cases h
      rename_i hl
      rw [Option.map_eq_some_iff] at h
      obtain ⟨cs', h, e2⟩ := h
      cases e2
      have pa := (pa_map C ih h hw).1
      have hm := C.blt ("enumerate" : Str) (by decide +kernel)
      match es, hl.1, h, pa with
      | [a], _, h, pa =>
        obtain ⟨c, r, rfl, h1, h2⟩ := mapO_tail h
        cases h2
        have ht := hl.2
        cases tg <;> first | (simp [isTupE] at ht; done) | skip
        exact pi_enm g1 hm pa (star1 (mapO_plain h))
    split at h
    · rename_i hx
      subst hx
      split at h
      case isFalse => cases h
      rename_i hl
      rw [Option.map_eq_some_iff] at h
      obtain ⟨cs', h, e2⟩ := h
      cases e2
      have pa := (pa_map C ih h hw).1
      have hm := C.blt ("zip" : Str) (by decide +kernel)
      match es, hl.1, h, pa with
      | [a, b], _, h, pa =>
        obtain ⟨c, r, rfl, h1, h2⟩ := mapO_tail h
        obtain ⟨c2, r2, rfl, h3, h4⟩ := mapO_tail h2
        cases h4
        have ht := hl.2
        cases tg <;> first | (simp [isTupE] at ht; done) | skip
        exact pi_zp g1 hm pa (star_cons (mapO_plain h)) (by rw [star1 (mapO_plain h2)]; rfl)
    split at h
    · rename_i hx
      subst hx
      split at h
      case isFalse => cases h
      rename_i hl
      rw [Option.map_eq_some_iff] at h
      obtain ⟨cs', h, e2⟩ := h
      cases e2
      have hm := C.blt ("reversed" : Str) (by decide +kernel)
      match es, hl, h with
      | [a], _, h =>
        obtain ⟨c, r, rfl, h1, h2⟩ := mapO_tail h
        cases h2
        unfold E.wf.wfs at hw
        simp only [Bool.and_eq_true] at hw
        exact pi_rv g1 hm (ih X γ C a c h1 hw.1.1).1 (star_cons (mapO_plain h))
    split at h
    · rename_i hp
      exact val hp h
    · cases h
  · split at h
    · rename_i hp
      exact val hp h
    · cases h
theorem good_cond (C : Ctx X γ F k) (ih : IH F k n) {ifs : List Expr} {c : Option E} (h : cCond (cE n γ) ifs = some c) (hw : E.wf.wfo c = true) : PTs X ifs (tCnd X.K F c) := by
  unfold cCond at h
  split at h
  · cases h; exact L2.pts_nil
  · split at h
    · rename_i ht
      rw [Option.map_eq_some_iff] at h
      obtain ⟨c', h, rfl⟩ := h
      exact L2.pts_one ((ih X γ C _ c' h hw).2 ht)
    · cases h
  · cases h
theorem fold_plain {e : Expr} {env : PySem.Env} (h : plainE e = true) : ∀ x, foldedSetIterable e env x = pure x := by
  intro x
  cases e <;> first | rfl | (simp [plainE] at h)
theorem blk_ok (C : Ctx X γ F k) {scope : Scope} {own : List (Str × Nat)} (h : L2.blkC γ.N { kind := .function, names := γ.sc, isGenerator := false, isCoroutine := false } scope own = true) : BlkOk X.N X.env.scope scope own := by
  have b := L2.blkOk_by h
  rw [C.hN]
  exact ⟨b.kind, b.uniq, b.ix, fun y hy e => C.cell y.1 (b.free y hy e), b.own⟩
/-- what the text of a comprehension says -/
structure CompOk (X : Cx) (γ : Gam) (F : Fns) (k n : Nat) (elt tg it : Expr) (ifs : List Expr) (scope : Scope) (c : E) : Prop where
  ex : ∃ (t : Tg) (q : IK) (es : List E) (cond : Option E) (ce : E), c = .comp t q es cond ce ∧ PI X tg it (tII X.K F q es) ∧ BlkOk X.N X.env.scope scope (ownOf γ.N scope.names) ∧
    (∀ (s : Shared) (H : Hp) (Ca : Addr) (cl : List (Str × Addr)) (fp : List Addr), PG (X.blk s H scope (compEnvC scope cl Ca X.env) fp) tg (gT X.K t)) ∧
    (∀ (s : Shared) (H : Hp) (Ca : Addr) (cl : List (Str × Addr)) (fp : List Addr), PTs (X.blk s H scope (compEnvC scope cl Ca X.env) fp) ifs (tCnd X.K F cond)) ∧
    (∀ (s : Shared) (H : Hp) (Ca : Addr) (cl : List (Str × Addr)) (fp : List Addr), PE (X.blk s H scope (compEnvC scope cl Ca X.env) fp) elt (tIE X.K F ce)) ∧ (∀ x, foldedSetIterable it X.env x = pure x) ∧
    ∀ σ H Q, σ.length = X.N.length → tIE X.K F c σ H Q → L2.tLc (tII X.K F q es) (gT X.K t) (tCnd X.K F cond) (tIE X.K F ce) ((ownOf γ.N scope.names).map (·.2)) σ H Q
theorem comp_ok (C : Ctx X γ F k) (ih : IH F k n) {elt tg it : Expr} {ifs : List Expr} {scope : Scope} {p : Pos} {c : E} (h : cE (n + 1) γ (.ListComp elt [⟨tg, it, ifs, 0⟩] scope p) = some c) (hw : c.wf = true) : CompOk X γ F k n elt tg it ifs scope c := by
  unfold cE at h
  dsimp only at h
  split at h
  case isFalse => cases h
  rename_i hb
  have hb := hb.2
  simp only [Bool.and_eq_true] at hb
  simp only [Option.bind_eq_some_iff] at h
  obtain ⟨⟨q, es⟩, h1, t, h2, cond, h3, ce, h4, h⟩ := h
  split at h
  case isFalse => cases h
  rename_i hs
  cases h
  simp only [Bool.and_eq_true] at hs
  obtain ⟨⟨⟨hs1, hs2⟩, hs3⟩, hs4⟩ := hs
  unfold E.wf at hw
  simp only [Bool.and_eq_true, List.isEmpty_iff] at hw
  obtain ⟨⟨⟨⟨w1, w2⟩, w3⟩, w4⟩, w5⟩ := hw
  have ok := blk_ok C hb.2
  have B := fun s H Ca cl fp => C.blk scope s H Ca cl fp
  refine ⟨t, q, es, cond, ce, rfl, good_it C ih h1 w1, ok, fun s H Ca cl fp => pg_tg (B s H Ca cl fp) h2, fun s H Ca cl fp => good_cond (B s H Ca cl fp) ih h3 w2, fun s H Ca cl fp => (ih _ _ (B s H Ca cl fp) elt ce h4 w3).1, fold_plain hb.1, fun σ H Q hl qq => ?_⟩
  refine tIE_comp w5 w4 (fun i hi => ?_) (fun i hi => ?_) qq
  · have := List.all_eq_true.mp hs3 i hi
    simpa using this
  · have := List.all_eq_true.mp hs2 i hi
    have hm : i ∈ (ownOf γ.N scope.names).map (·.2) := by simpa using this
    refine ⟨hm, ?_⟩
    obtain ⟨p, hp, rfl⟩ := List.mem_map.mp hm
    rw [hl]
    exact (List.getElem?_eq_some_iff.mp (ok.ix p hp)).1
theorem good_comp (C : Ctx X γ F k) (ih : IH F k n) {elt tg it : Expr} {ifs : List Expr} {scope : Scope} {p : Pos} {c : E} (h : cE (n + 1) γ (.ListComp elt [⟨tg, it, ifs, 0⟩] scope p) = some c) (hw : c.wf = true) : Good X F (.ListComp elt [⟨tg, it, ifs, 0⟩] scope p) c := by
  obtain ⟨t, q, es, cond, ce, rfl, h1, h2, h3, h4, h5, h6, h7⟩ := comp_ok C ih h hw
  exact good_val (impL (L2.pe_lc C.calm C.nd h1 h2 h3 h4 h5 h6) h7) fun _ => rfl
end
theorem cRng_list {f : Expr → Option E} {γ : Gam} {x : Str} {es : List Expr} {c : E} (h : cRng f γ x es = some c) : x = ("list" : Str) := by
  unfold cRng at h
  split at h
  · assumption
  · cases h
theorem nameE_get {e : Expr} {x : Str} (h : nameE e = some x) : ∃ p, e = .Name x p := by
  cases e <;> first | (cases h; exact ⟨_, rfl⟩) | cases h
theorem trueE_get {e : Expr} (h : trueE e = true) : ∃ j p, e = .Constant (.bool true) j p := by
  cases e <;> first | (simp [trueE] at h; done) | skip
  rename_i v j p
  cases v <;> first | (simp [trueE] at h; done) | skip
  simp only [trueE] at h
  subst h
  exact ⟨j, p, rfl⟩
theorem cDist_len {f : Expr → Option E} {γ : Gam} {x : Str} {es : List Expr} {c : E} (h : cDist f γ x es = some c) : x = ("len" : Str) := by
  unfold cDist at h
  split at h
  · assumption
  · cases h
theorem good_dist (C : Ctx X γ F k) (ih : IH F k n) {es : List Expr} {c : E} {p p' : Pos} (hg : γ.gl ("len" : Str) = true) (h : cDist (cE n γ) γ ("len" : Str) es = some c) (hw : c.wf = true) : Good X F (.Call (.Name ("len" : Str) p') es [] p) c := by
  unfold cDist at h
  rw [if_pos rfl] at h
  split at h
  case h_2 => cases h
  rename_i kx vx tg it ifs z scope p1
  simp only [Option.bind_eq_some_iff] at h
  obtain ⟨a, ha, b, hb, h⟩ := h
  split at h
  case isFalse => cases h
  rename_i hc
  obtain ⟨rfl, rfl, hc⟩ := hc
  simp only [Bool.and_eq_true] at hc
  obtain ⟨⟨hc1, hc2⟩, hc3⟩ := hc
  simp only [Option.bind_eq_some_iff] at h
  obtain ⟨⟨q, cs⟩, h1, i, h2, j, h3, h⟩ := h
  split at h
  case isFalse => cases h
  rename_i ho
  obtain ⟨rfl, ho⟩ := ho
  cases h
  obtain ⟨pa, rfl⟩ := nameE_get ha
  obtain ⟨pb, rfl⟩ := nameE_get hb
  obtain ⟨j1, pc, rfl⟩ := trueE_get hc1
  unfold E.wf E.wf.wfs at hw
  simp only [Bool.and_eq_true] at hw
  have hw1 := hw.1.1
  unfold E.wf at hw1
  simp only [Bool.and_eq_true] at hw1
  have ok := blk_ok C hc3
  have B := fun s H Ca cl fp => C.blk scope s H Ca cl fp
  obtain ⟨g1, g2, g3⟩ := gl_spec C hg
  have hm := C.blt ("len" : Str) (by decide +kernel)
  have hi : i < X.N.length := by
    have hm : i ∈ (ownOf γ.N scope.names).map (·.2) := by rw [ho]; exact List.mem_cons_self
    obtain ⟨p, hp, e⟩ := List.mem_map.mp hm
    have := (List.getElem?_eq_some_iff.mp (ok.ix p hp)).1
    rw [← e]; exact this
  have pd := L2.pe_dc (kx := .Name a pa) (vx := .Constant (.bool true) j1 pc) (pos := p1) C.calm C.nd (good_it C ih h1 hw1.1.1.1.1) ok (fun s H Ca cl fp => pg_nm (p := pb) (B s H Ca cl fp) h2) (fun s H Ca cl fp => L2.pts_nil) (fun s H Ca cl fp => (any_spec (B s H Ca cl fp) h3).2) (fun s H Ca cl fp => L2.pe_bl) (fold_plain hc2)
  rw [ho] at pd
  refine good_val (impL (L2.pe_callB IvR.call_lenD g1 hm (by decide +kernel) (L2.pa_cons pd L2.pa_nil) g3 g2) fun σ H Q hl qq => ?_) fun _ => rfl
  refine @tIE_ndist X.K F i q cs σ H Q (fun v H1 => L2.tNil σ H1 fun vs H2 => ∃ a kvs, v :: vs = [V.ref a] ∧ L2.Rd H2 a (HO.dK kvs) ∧ Q (V.int kvs.length) H2) (by rw [hl]; exact hi) (fun a kvs H1 r q => ?_) qq
  exact ⟨a, kvs, rfl, r, q⟩
theorem good_all : ∀ n, IH F k n
  | 0 => fun X γ C e c h _ => by simp [cE] at h
  | n + 1 => fun X γ C e c h hw => by
    have ih := good_all n
    cases e with
    | Constant v j p => exact good_const h
    | Name x p => exact good_name C h
    | BinOp a op b p => exact good_bin C ih h hw
    | UnaryOp op a p =>
      cases op with
      | USub => exact good_neg C ih h hw
      | Not => exact good_not C ih h hw
      | _ => simp [cE] at h
    | BoolOp op es p =>
      unfold cE at h
      obtain ⟨g1, g2⟩ := good_bools C ih op p h hw
      exact ⟨g1, fun ht => (g2 (by unfold testOk at ht; exact ht)).pt⟩
    | IfExp t a b p => exact good_if C ih h hw
    | Compare a ops bs p =>
      match ops, bs, h with
      | [op], [b], h => exact good_cmp1 C ih h hw
      | [op, op2], [b, b2], h => exact good_cmp2 C ih h hw
      | [], _, h => simp [cE] at h
      | [_], [], h => simp [cE] at h
      | [_], _ :: _ :: _, h => simp [cE] at h
      | [_, _], [], h => simp [cE] at h
      | [_, _], [_], h => simp [cE] at h
      | [_, _], _ :: _ :: _ :: _, h => simp [cE] at h
      | _ :: _ :: _ :: _, _, h => simp [cE] at h
    | Tuple es x1 p =>
      unfold cE at h
      rw [Option.map_eq_some_iff] at h
      obtain ⟨cs, h, rfl⟩ := h
      exact good_tup C ih h hw
    | List es p =>
      unfold cE at h
      rw [Option.map_eq_some_iff] at h
      obtain ⟨cs, h, rfl⟩ := h
      exact good_lst C ih h hw
    | ListComp elt gs scope p =>
      match gs, h with
      | [⟨tg, it, ifs, z⟩], h =>
        by_cases hz : z = 0
        · subst hz; exact good_comp C ih h hw
        · simp [cE, hz] at h
      | [], h => simp [cE] at h
      | _ :: _ :: _, h => simp [cE] at h
    | Subscript v i p =>
      change cSub (cE n _) _ v i = some c at h
      unfold cSub at h
      split at h
      · rw [Option.map_eq_some_iff] at h
        obtain ⟨cv, h1, rfl⟩ := h
        exact good_slrev C ih h1 hw
      · simp only [Option.bind_eq_some_iff, Option.map_eq_some_iff] at h
        obtain ⟨cv, h1, cl, h2, ch, h3, rfl⟩ := h
        exact good_slice C ih h1 h2 h3 hw
      · split at h
        case isFalse => cases h
        rename_i hp
        split at h
        · split at h
          · rename_i j hj
            rw [Option.map_eq_some_iff] at h
            obtain ⟨ci, h1, rfl⟩ := h
            exact good_hix C ih hp hj h1 hw
          · simp only [Option.bind_eq_some_iff, Option.map_eq_some_iff] at h
            obtain ⟨cv, h1, ci, h2, rfl⟩ := h
            exact good_ix C ih hp h1 h2 hw
        · simp only [Option.bind_eq_some_iff, Option.map_eq_some_iff] at h
          obtain ⟨cv, h1, ci, h2, rfl⟩ := h
          exact good_ix C ih hp h1 h2 hw
    | Call f es ks p =>
      cases ks with
      | cons _ _ => simp [cE] at h
      | nil =>
        change cCall (cE n _) _ f es p = some c at h
        unfold cCall at h
        split at h
        · split at h
          case isFalse => cases h
          rename_i hg
          split at h
          · rename_i hf
            split at h
            · simp only [Option.bind_eq_some_iff, Option.map_eq_some_iff] at h
              obtain ⟨j, h1, cs, h2, rfl⟩ := h
              exact good_callH C ih hg hf h1 h2 hw
            · cases h
          · rename_i hf
            rw [Option.map_eq_some_iff] at h
            obtain ⟨cs, h1, rfl⟩ := h
            exact good_callF C ih hg hf h1 hw
          · split at h
            · rename_i hx
              subst hx
              split at h
              · split at h
                case isFalse => cases h
                rename_i hh
                simp only [Bool.and_eq_true] at hh
                simp only [Option.bind_eq_some_iff, Option.map_eq_some_iff] at h
                obtain ⟨o, h1, ce, h2, rfl⟩ := h
                exact good_isi C ih hg hh.1.1 hh.1.2 hh.2 h1 h2 hw
              · cases h
            · split at h
              · rename_i c' hr
                cases h
                have hx : _ = ("list" : Str) := cRng_list hr
                subst hx
                exact good_lrng C ih hg hr hw
              · split at h
                · rename_i c' hr
                  cases h
                  have hx : _ = ("len" : Str) := cDist_len hr
                  subst hx
                  exact good_dist C ih hg hr hw
                split at h
                case isFalse => cases h
                rename_i hb
                simp only [Option.bind_eq_some_iff, Option.map_eq_some_iff] at h
                obtain ⟨o, h1, cs, h2, rfl⟩ := h
                exact good_callB C ih hg hb h1 h2 hw
        · split at h
          case isFalse => cases h
          rename_i hm
          obtain ⟨hm, hl⟩ := hm
          subst hm
          split at h
          · rw [Option.map_eq_some_iff] at h
            obtain ⟨i, h1, rfl⟩ := h
            exact good_pop C h1 hl
          · split at h
            case isFalse => cases h
            rename_i hp
            simp only [Option.bind_eq_some_iff, Option.map_eq_some_iff] at h
            obtain ⟨i, h1, ce, h2, rfl⟩ := h
            exact good_popat C ih hp h1 hl h2 hw
          · cases h
        · cases h
    | _ => simp [cE] at h
end Iv
set_option Elab.async false
set_option linter.all false
set_option maxRecDepth 100000
set_option maxHeartbeats 2000000
/-! IvSound14: statements, by their readings. -/
namespace Iv
open PySem PySem.Spec PyProof.Rows
open L2 (V Hp HO SqL SqT upd upd_same upd_ne ne_of_none VK TE TA TT TI TS TG Cx Inv RelV Vals PE PT PA PS PSs PW PI PG PGs PO PTs OpR UnR CallR IxR SlR Vis Gl FnOk Room Binds CX0 Sp XK tTest It Walk wipe BlkOk Ends)

variable {K : PySem.W.Frag} {F : Fns} {k : Nat}

/-- what a statement may change: the hand, what names own -/
structure StpS (ah : Option Addr) (H : Hp) (s : St) (Fs : Fp) (Fg : List Addr) (H' : Hp) (s' : St) (Fs' : Fp) (Fg' : List Addr) : Prop where
  ext : ∀ a o, H a = some o → some a ≠ ah → (∀ i w, sl s i = .ow w → a ∉ Fs i) → H' a = some o
  tup : ∀ a vs, H a = some (.tup vs) → H' a = some (.tup vs)
  own : ∀ i w, sl s' i = .ow w → ∀ a ∈ Fs' i, H a = none ∨ ∃ j u, sl s j = .ow u ∧ a ∈ Fs j
  fg : ∀ a ∈ Fg', a ∈ Fg
  len : s'.1.length = s.1.length
  there : ∀ a, H' a = none → H a = none
theorem StpS.refl {ah : Option Addr} {H : Hp} {s : St} {Fs : Fp} {Fg : List Addr} : StpS ah H s Fs Fg H s Fs Fg :=
  ⟨fun _ _ e _ _ => e, fun _ _ e => e, fun i w e a m => .inr ⟨i, w, e, m⟩, fun _ h => h, rfl, fun _ e => e⟩
theorem StpS.trans {ah : Option Addr} {H H1 H2 : Hp} {s s1 s2 : St} {Fs Fs1 Fs2 : Fp} {Fg Fg1 Fg2 : List Addr} (a : StpS ah H s Fs Fg H1 s1 Fs1 Fg1) (b : StpS ah H1 s1 Fs1 Fg1 H2 s2 Fs2 Fg2) : StpS ah H s Fs Fg H2 s2 Fs2 Fg2 where
  ext := fun x o e n h => b.ext x o (a.ext x o e n h) n fun i w q m => by
    rcases a.own i w q x m with z | ⟨j, u, z1, z2⟩
    · rw [e] at z; cases z
    · exact h j u z1 z2
  tup := fun x vs e => b.tup x vs (a.tup x vs e)
  own := fun i w q x m => by
    rcases b.own i w q x m with z | ⟨j, u, z1, z2⟩
    · exact .inl (a.there x z)
    · exact a.own j u z1 x z2
  fg := fun x m => a.fg x (b.fg x m)
  len := b.len.trans a.len
  there := fun x e => a.there x (b.there x e)
theorem Stp.toS {ah : Option Addr} {P : List Nat} {H H' : Hp} {s s' : St} {Fs Fs' : Fp} {Fg Fg' : List Addr} (a : Stp ah P H s Fs Fg H' s' Fs' Fg') : StpS ah H s Fs Fg H' s' Fs' Fg' :=
  ⟨fun x o e n h => a.ext x o e n fun i hi m => by obtain ⟨w, q⟩ := a.pow i hi; exact h i w q m, a.tup, fun i w q x m => by
    by_cases z : i ∈ P
    · obtain ⟨u, q'⟩ := a.pow i z
      exact .inr ⟨i, u, q', a.fsub i x m⟩
    · exact .inr ⟨i, w, (a.fs i z).2 ▸ q, a.fsub i x m⟩, a.fg, a.len, a.there⟩
/-- what is handed back out of a def -/
structure RetOk (K : PySem.W.Frag) (ah : Option Addr) (H0 H : Hp) (Fg : List Addr) (g : G) (x : D) (v : V) (H' : Hp) (Fg' Fx : List Addr) : Prop where
  rep : Rep K H' v x Fx
  nd : Fx.Nodup
  new : ∀ a ∈ Fx, H0 a = none ∧ some a ≠ ah ∧ a ∉ Fg'
  hand : HandOk K H' ah g Fg'
  fg : ∀ a ∈ Fg', a ∈ Fg
  keep : ∀ a o, H0 a = some o → some a ≠ ah → H' a = some o
  tup : ∀ a vs, H a = some (.tup vs) → H' a = some (.tup vs)
  there : ∀ a, H' a = none → H a = none
def Wish (K : PySem.W.Frag) (ah : Option Addr) (H0 : Hp) (D : Ends) (H : Hp) (s : St) (Fs : Fp) (Fg : List Addr) (fl : Fl) (s' : St) : Prop := match fl with
  | .nx => ∀ (σ' : L2.St) (H' : Hp) (Fs' : Fp) (Fg' : List Addr), SR K ah H0 σ' H' s' Fs' Fg' → StpS ah H s Fs Fg H' s' Fs' Fg' → D.nx σ' H'
  | .brk => ∀ (σ' : L2.St) (H' : Hp) (Fs' : Fp) (Fg' : List Addr), SR K ah H0 σ' H' s' Fs' Fg' → StpS ah H s Fs Fg H' s' Fs' Fg' → D.bk σ' H'
  | .cnt => ∀ (σ' : L2.St) (H' : Hp) (Fs' : Fp) (Fg' : List Addr), SR K ah H0 σ' H' s' Fs' Fg' → StpS ah H s Fs Fg H' s' Fs' Fg' → D.ct σ' H'
  | .ret x => ∀ (v : V) (H' : Hp) (Fg' Fx : List Addr), RetOk K ah H0 H Fg s'.2 x v H' Fg' Fx → D.rt v H'
theorem Wish.step {ah : Option Addr} {H0 : Hp} {Dn : Ends} {H H1 : Hp} {s s1 s' : St} {Fs Fs1 : Fp} {Fg Fg1 : List Addr} {fl : Fl} (w : Wish K ah H0 Dn H s Fs Fg fl s') (a : StpS ah H s Fs Fg H1 s1 Fs1 Fg1) : Wish K ah H0 Dn H1 s1 Fs1 Fg1 fl s' := by
  cases fl with
  | nx => exact fun σ' H' Fs' Fg' R St => w σ' H' Fs' Fg' R (a.trans St)
  | brk => exact fun σ' H' Fs' Fg' R St => w σ' H' Fs' Fg' R (a.trans St)
  | cnt => exact fun σ' H' Fs' Fg' R St => w σ' H' Fs' Fg' R (a.trans St)
  | ret x => exact fun v H' Fg' Fx r => w v H' Fg' Fx ⟨r.rep, r.nd, r.new, r.hand, fun b m => a.fg b (r.fg b m), r.keep, fun b vs e => r.tup b vs (a.tup b vs e), fun b e => a.there b (r.there b e)⟩
def tIS (K : PySem.W.Frag) (F : Fns) (c : S) : TS := fun Dn σ H => ∃ (ah : Option Addr) (H0 : Hp) (n : Nat) (s : St) (Fs : Fp) (Fg : List Addr) (fl : Fl) (s' : St), SR K ah H0 σ H s Fs Fg ∧ ex F n c s = some (fl, s') ∧ Wish K ah H0 Dn H s Fs Fg fl s'
def tISs (K : PySem.W.Frag) (F : Fns) (c : List S) : TS := fun Dn σ H => ∃ (ah : Option Addr) (H0 : Hp) (n : Nat) (s : St) (Fs : Fp) (Fg : List Addr) (fl : Fl) (s' : St), SR K ah H0 σ H s Fs Fg ∧ exs F n c s = some (fl, s') ∧ Wish K ah H0 Dn H s Fs Fg fl s'
theorem psImp {X : Cx} {st : Stmt} {t t' : TS} (h : PS X st t) (i : ∀ Dn σ H, σ.length = X.N.length → t' Dn σ H → t Dn σ H) : PS X st t' := ⟨fun pins s σ H Dn I q => h.run pins s σ H Dn I (i Dn σ H I.len q)⟩
theorem pssImp {X : Cx} {st : List Stmt} {t t' : TS} (h : PSs X st t) (i : ∀ Dn σ H, σ.length = X.N.length → t' Dn σ H → t Dn σ H) : PSs X st t' := ⟨fun pins s σ H Dn I q => h.run pins s σ H Dn I (i Dn σ H I.len q)⟩

theorem tISs_nil {Dn : Ends} {σ : L2.St} {H : Hp} (h : tISs K F [] Dn σ H) : L2.tNext Dn σ H := by
  obtain ⟨ah, H0, n, s, Fs, Fg, fl, s', R, e, w⟩ := h
  simp only [exs, Option.some.injEq, Prod.mk.injEq] at e
  obtain ⟨rfl, rfl⟩ := e
  exact w σ H Fs Fg R .refl
theorem tISs_cons {c : S} {cs : List S} {Dn : Ends} {σ : L2.St} {H : Hp} (h : tISs K F (c :: cs) Dn σ H) : L2.tSeq (tIS K F c) (tISs K F cs) Dn σ H := by
  obtain ⟨ah, H0, n, s, Fs, Fg, fl, s', R, e, w⟩ := h
  unfold exs at e
  rw [Option.bind_eq_some_iff] at e
  obtain ⟨⟨f1, s1⟩, e1, e⟩ := e
  refine ⟨ah, H0, n, s, Fs, Fg, f1, s1, R, e1, ?_⟩
  cases f1 with
  | nx =>
    intro σ1 H1 Fs1 Fg1 R1 St1
    exact ⟨ah, H0, n, s1, Fs1, Fg1, fl, s', R1, e, w.step St1⟩
  | brk => cases e; exact w
  | cnt => cases e; exact w
  | ret x => cases e; exact w
/-! ### a name is given a thing -/
theorem set_self {σ : L2.St} {j : Nat} {o : Option V} (h : σ[j]? = some o) : σ.set j o = σ := by
  obtain ⟨h1, h2⟩ := List.getElem?_eq_some_iff.mp h
  rw [← h2]; exact List.set_getElem_self h1
theorem SR.dead {ah : Option Addr} {H0 H : Hp} {σ : L2.St} {s : St} {Fs : Fp} {Fg : List Addr} {j : Nat} {o : Option V} (R : SR K ah H0 σ H s Fs Fg) (h : σ[j]? = some o) : SR K ah H0 σ H (put s j .no) (setFs Fs j []) Fg := by
  have := R.forget (i := j) o
  rwa [set_self h] at this
theorem stpS_dead {ah : Option Addr} {H : Hp} {s : St} {Fs : Fp} {Fg : List Addr} {j : Nat} : StpS ah H s Fs Fg H (put s j .no) (setFs Fs j []) Fg :=
  ⟨fun _ _ e _ _ => e, fun _ _ e => e, fun i w q a m => by
    rw [sl_no] at q
    by_cases z : i = j
    · rw [if_pos z] at q; cases q
    · rw [if_neg z] at q; rw [setFs_ne z] at m; exact .inr ⟨i, w, q, m⟩, fun _ h => h, put_len, fun _ e => e⟩
theorem stpS_sh {ah : Option Addr} {H : Hp} {s : St} {Fs : Fp} {Fg : List Addr} {i : Nat} {d : D} {G : List Addr} (hi : i < s.1.length) : StpS ah H s Fs Fg H (put s i (.sh d)) (setFs Fs i G) Fg :=
  ⟨fun _ _ e _ _ => e, fun _ _ e => e, fun j w q a m => by
    rw [sl_put hi] at q
    by_cases z : j = i
    · rw [if_pos z] at q; cases q
    · rw [if_neg z] at q; rw [setFs_ne z] at m; exact .inr ⟨j, w, q, m⟩, fun _ h => h, put_len, fun _ e => e⟩
theorem stpS_ow {ah : Option Addr} {H H1 : Hp} {s s1 : St} {Fs Fs1 : Fp} {Fg Fg1 : List Addr} {i : Nat} {d : D} {G : List Addr} (hi : i < s1.1.length) (a : StpS ah H s Fs Fg H1 s1 Fs1 Fg1) (h : ∀ x ∈ G, H x = none ∨ ∃ j u, sl s j = .ow u ∧ x ∈ Fs j) :
    StpS ah H s Fs Fg H1 (put s1 i (.ow d)) (setFs Fs1 i G) Fg1 :=
  ⟨a.ext, a.tup, fun j w q x m => by
    rw [sl_put hi] at q
    by_cases z : j = i
    · subst z; rw [setFs_same] at m; exact h x m
    · rw [if_neg z] at q; rw [setFs_ne z] at m; exact a.own j w q x m, a.fg, put_len.trans a.len, a.there⟩
theorem stpS_share {ah : Option Addr} {H : Hp} {s : St} {Fs : Fp} {Fg : List Addr} {m : Nat → Bool} : StpS ah H s Fs Fg H (shareE m s) Fs Fg :=
  ⟨fun _ _ e _ _ => e, fun _ _ e => e, fun i w q a ma => by
    rw [sl_share] at q
    by_cases z : m i = true
    · rw [if_pos z] at q; exact (share1_ow q).elim
    · rw [if_neg z] at q; exact .inr ⟨i, w, q, ma⟩, fun _ h => h, share_len, fun _ e => e⟩
theorem sl_ge {s : St} {i : Nat} (h : s.1.length ≤ i) : sl s i = .no := by
  unfold sl
  rw [List.getD_eq_getElem?_getD, List.getElem?_eq_none h]; rfl
theorem sl_some {s : St} {i : Nat} {x : Sl} (h : s.1[i]? = some x) : sl s i = x := by
  unfold sl
  rw [List.getD_eq_getElem?_getD, h]; rfl
/-- behind a term: what a name is given -/
theorem store_ok {ah : Option Addr} {H0 H H1 : Hp} {σ : L2.St} {s s1 s2 : St} {Fs Fs1 : Fp} {Fg Fg1 Fx : List Addr} {P : List Nat} {i : Nat} {c : E} {d : D} {x : V} (R : SR K ah H0 σ H s Fs Fg) (he : ev F c s = some (d, s1)) (R1 : SR K ah H0 σ H1 s1 Fs1 Fg1) (St1 : Stp ah P H s Fs Fg H1 s1 Fs1 Fg1)
    (rp : Rep K H1 x d Fx) (rs : Res K ah H0 c.mentions P H Fs Fg (c.fresh d = true) H1 Fs1 Fg1 Fx) (hi : i < s1.1.length) (h : store i c d s1 = some s2) (hv : ∀ j, c = .var j → σ[j]? = some (some x)) :
    ∃ Fs2, SR K ah H0 (σ.set i (some x)) H1 s2 Fs2 Fg1 ∧ StpS ah H s Fs Fg H1 s2 Fs2 Fg1 := by
  have frs : ∀ a ∈ Fx, some a ≠ ah := rs.noah
  -- the plain ends
  have ends : (if c.fresh d = true then some (put s1 i (.ow d)) else if lf d = true then some (put s1 i (.sh d)) else some (put (shareE c.mentions s1) i (.sh d))) = some s2 →
      ∃ Fs2, SR K ah H0 (σ.set i (some x)) H1 s2 Fs2 Fg1 ∧ StpS ah H s Fs Fg H1 s2 Fs2 Fg1 := fun h => by
    split at h
    · rename_i hf
      cases h
      obtain ⟨n, f⟩ := rs.fresh hf
      refine ⟨_, R1.bindOw hi rp frs n fun a m => ⟨(f a m).1, (f a m).2.1, fun j _ => (f a m).2.2.1 j⟩, stpS_ow hi St1.toS fun a m => ?_⟩
      rcases (f a m).2.2.2 with z | ⟨j, hj, z⟩
      · exact .inl z
      · obtain ⟨w, q⟩ := St1.pow j hj
        exact .inr ⟨j, w, q, z⟩
    · split at h
      · rename_i hl
        cases h
        have e := rp.lf_nil hl
        subst e
        exact ⟨_, R1.bindSh hi rp frs (fun a m => (nomatch m)), St1.toS.trans (stpS_sh hi)⟩
      · cases h
        have hi' : i < (shareE c.mentions s1).1.length := by rw [share_len]; exact hi
        refine ⟨_, (R1.share c.mentions).bindSh hi' rp frs fun a m j w _ q => ?_, St1.toS.trans (stpS_share.trans (stpS_sh hi'))⟩
        rw [sl_share] at q
        by_cases z : c.mentions j = true
        · rw [if_pos z] at q; exact (share1_ow q).elim
        · rw [if_neg z] at q
          exact frame_sep R St1 (rs.frame a m) (by simpa using z) q
  cases c with
  | var j =>
    have hx := hv j rfl
    have e : s1 = s ∧ rd s j = some d := by
      simp only [ev, Option.map_eq_some_iff, Prod.mk.injEq] at he
      obtain ⟨d', e1, rfl, rfl⟩ := he
      exact ⟨rfl, e1⟩
    obtain ⟨rfl, hrd⟩ := e
    unfold store at h
    dsimp only at h
    -- what stands at j, seen from behind
    have rj : ∃ G, Fs1 j = G ∧ Rep K H1 x d G ∧ ∀ a ∈ G, some a ≠ ah := by
      have q := R1.slot j
      rcases rd_sl hrd with z | z
      · rw [z] at q
        obtain ⟨y, e1, r⟩ := q
        rw [hx] at e1; cases e1
        exact ⟨_, rfl, r, R1.noah j⟩
      · rw [z] at q
        obtain ⟨y, e1, r⟩ := q
        rw [hx] at e1; cases e1
        exact ⟨_, rfl, r, R1.noah j⟩
    obtain ⟨G, hG, rG, nG⟩ := rj
    split at h
    · rename_i w hw
      have ho : sl s1 j = .ow w := sl_some hw
      have hwd : w = d := by
        unfold rd at hrd; rw [hw] at hrd; cases hrd; rfl
      subst hwd
      have o := R1.own j w ho
      rw [hG] at o
      have ohere : ∃ u, sl s1 j = .ow u := ⟨w, ho⟩
      have move : some (put (put s1 j .no) i (.ow w)) = some s2 → ∃ Fs2, SR K ah H0 (σ.set i (some x)) H1 s2 Fs2 Fg1 ∧ StpS ah H s1 Fs Fg H1 s2 Fs2 Fg1 := fun h => by
        cases h
        have Rd := R1.dead (j := j) hx
        have hi' : i < (put s1 j .no).1.length := by rw [put_len]; exact hi
        refine ⟨_, Rd.bindOw hi' rG nG o.1 fun a m => ⟨(o.2 a m).1, (o.2 a m).2.1, fun l hl => ?_⟩, stpS_ow hi' (St1.toS.trans stpS_dead) fun a m => ?_⟩
        · by_cases z : l = j
          · subst z; rw [setFs_same]; simp
          · rw [setFs_ne z]; exact (o.2 a m).2.2 l z
        · exact St1.toS.own j w ho a (hG ▸ m)
      split at h
      · exact move h
      · exact move h
      · cases h
        have hj : j < s1.1.length := sl_lt ho
        have Rs : SR K ah H0 σ H1 (put s1 j (.sh w)) (setFs Fs1 j G) Fg1 := by
          have := R1.bindSh (i := j) (d := w) (x := x) (G := G) hj rG nG fun a m l u hl q => (R1.own l u q).2 a |> fun f => fun mm => (f mm).2.2 j (Ne.symm hl) (hG ▸ m)
          rwa [set_self hx] at this
        have hi' : i < (put s1 j (.sh w)).1.length := by rw [put_len]; exact hi
        refine ⟨_, Rs.bindSh hi' rG nG fun a m l u hl q => ?_, (St1.toS.trans (stpS_sh hj)).trans (stpS_sh hi')⟩
        rw [sl_put hj] at q
        by_cases z : l = j
        · rw [if_pos z] at q; cases q
        · rw [if_neg z] at q
          rw [setFs_ne z]
          exact fun mm => ((R1.own l u q).2 a mm).2.2 j (Ne.symm z) (hG ▸ m)
    · rename_i hno
      cases h
      refine ⟨_, R1.bindSh hi rG nG fun a m l u hl q mm => ?_, St1.toS.trans (stpS_sh hi)⟩
      by_cases z : l = j
      · subst z
        have lt := sl_lt q
        have e2 : s1.1[l]? = some (.ow u) := by
          unfold sl at q
          rw [List.getD_eq_getElem?_getD] at q
          cases e3 : s1.1[l]? with
          | none => rw [e3] at q; cases q
          | some y => rw [e3] at q; exact congrArg some q
        exact hno u e2
      · exact ((R1.own l u q).2 a mm).2.2 j (Ne.symm z) (hG ▸ m)
  | _ => exact ends h
end Iv
set_option Elab.async false
set_option linter.all false
set_option maxRecDepth 100000
set_option maxHeartbeats 2000000
/-! IvSound15: single statements, by their readings. -/
namespace Iv
open PySem PySem.Spec PyProof.Rows
open L2 (V Hp HO SqL SqT upd upd_same upd_ne ne_of_none VK TE TA TT TI TS TG Cx Inv RelV Vals PE PT PA PS PSs PW PI PG PGs PO PTs OpR UnR CallR IxR SlR Vis Gl FnOk Room Binds CX0 Sp XK tTest It Walk wipe BlkOk Ends)

variable {K : PySem.W.Frag} {F : Fns} {k : Nat}

/-- a term, a bare name seen through -/
def tX (K : PySem.W.Frag) (F : Fns) (c : E) : TE := fun σ H Q => ∃ (ah : Option Addr) (H0 : Hp) (s : St) (Fs : Fp) (Fg : List Addr) (d : D) (s' : St),
  SR K ah H0 σ H s Fs Fg ∧ ev F c s = some (d, s') ∧ ∀ (v : V) (H' : Hp) (Fs' : Fp) (Fg' Fx : List Addr) (P : List Nat), (∀ i ∈ P, i ∈ c.popL) → SR K ah H0 σ H' s' Fs' Fg' → Stp ah P H s Fs Fg H' s' Fs' Fg' → Rep K H' v d Fx →
    Res K ah H0 c.mentions P H Fs Fg (c.fresh d = true) H' Fs' Fg' Fx → (∀ j, c = .var j → σ[j]? = some (some v)) → Q v H'
def isVarE : E → Bool
  | .var _ => true
  | _ => false
def isNameE : Expr → Bool
  | .Name _ _ => true
  | _ => false
theorem tX_nv {c : E} {σ : L2.St} {H : Hp} {Q : VK} (n : isVarE c = false) (h : tX K F c σ H Q) : tIE K F c σ H Q := by
  obtain ⟨ah, H0, s, Fs, Fg, d, s', R, e, k⟩ := h
  exact ⟨ah, H0, s, Fs, Fg, d, s', R, e, fun v H' Fs' Fg' Fx P hP R' St rp rs => k v H' Fs' Fg' Fx P hP R' St rp rs fun j z => by rw [z] at n; cases n⟩
theorem tX_var {j : Nat} {σ : L2.St} {H : Hp} {Q : VK} (h : tX K F (.var j) σ H Q) : L2.tVar j σ H Q := by
  obtain ⟨ah, H0, s, Fs, Fg, d, s', R, e, k⟩ := h
  simp only [ev, Option.map_eq_some_iff, Prod.mk.injEq] at e
  obtain ⟨d', e1, rfl, rfl⟩ := e
  have q := R.slot j
  have rj : ∃ y, σ[j]? = some (some y) ∧ Rep K H y d' (Fs j) := by
    rcases rd_sl e1 with z | z
    · rw [z] at q; exact q
    · rw [z] at q; exact q
  obtain ⟨y, e2, r⟩ := rj
  refine ⟨y, e2, k y H Fs Fg (Fs j) [] (fun _ m => nomatch m) R .refl r ⟨R.noah j, fun a m => .inr (.inl ⟨j, by simp [E.mentions], m⟩), fun z => by simp [E.fresh] at z⟩ fun i z => by cases z; exact e2⟩
theorem pe_tX {X : Cx} {γ : Gam} {n : Nat} (C : Ctx X γ F k) {e : Expr} {c : E} (h : cE n γ e = some c) (hw : c.wf = true) (hv : (!isVarE c || isNameE e) = true) : PE X e (tX X.K F c) := by
  by_cases z : isVarE c = true
  · cases c with
    | var j =>
      rw [show isVarE (.var j) = true from rfl] at hv
      cases e with
      | Name x p =>
        refine PE.imp ?_ fun σ H Q q => tX_var q
        cases n with
        | zero => simp [cE] at h
        | succ n =>
          unfold cE at h
          split at h
          · rename_i i hi
            cases h
            exact (any_spec C (slot_any hi)).2
          · split at h
            · rw [Option.map_eq_some_iff] at h
              obtain ⟨_, _, q⟩ := h
              cases q
            · cases h
      | _ => simp [isNameE] at hv
    | _ => simp [isVarE] at z
  · exact PE.imp (good_all n X γ C e c h hw).1 fun σ H Q q => tX_nv (by simpa using z) q

/-! ### name = e -/
theorem tIS_asg {i : Nat} {c : E} {Dn : Ends} {σ : L2.St} {H : Hp} (hi : i < σ.length) (h : tIS K F (.asg i c) Dn σ H) : L2.tAsg (tX K F c) (L2.gName i) Dn σ H := by
  obtain ⟨ah, H0, n, s, Fs, Fg, fl, s', R, e, w⟩ := h
  simp only [ex, Option.bind_eq_some_iff, Option.map_eq_some_iff, Prod.mk.injEq] at e
  obtain ⟨⟨d, s1⟩, e1, s2, e2, rfl, rfl⟩ := e
  refine ⟨ah, H0, s, Fs, Fg, d, s1, R, e1, fun v H1 Fs1 Fg1 Fx P hP R1 St1 rp rs hv => ?_⟩
  obtain ⟨Fs2, R2, St2⟩ := store_ok R e1 R1 St1 rp rs (by rw [← R1.len]; exact hi) e2 hv
  exact w _ H1 Fs2 Fg1 R2 St2
/-! ### what goes into a list -/
theorem seal_ok {ah : Option Addr} {H0 H H1 : Hp} {σ : L2.St} {s s1 s2 : St} {Fs Fs1 : Fp} {Fg Fg1 Fx : List Addr} {P : List Nat} {c : E} {d : D} {x : V} (R1 : SR K ah H0 σ H1 s1 Fs1 Fg1) (St1 : Stp ah P H s Fs Fg H1 s1 Fs1 Fg1)
    (rp : Rep K H1 x d Fx) (rs : Res K ah H0 c.mentions P H Fs Fg (c.fresh d = true) H1 Fs1 Fg1 Fx) (he : ev F c s = some (d, s1)) (h : sealV c d s1 = some s2) (hv : ∀ j, c = .var j → σ[j]? = some (some x)) :
    ∃ Fs2 Fy, SR K ah H0 σ H1 s2 Fs2 Fg1 ∧ StpS ah H s Fs Fg H1 s2 Fs2 Fg1 ∧ Rep K H1 x d Fy ∧ Fy.Nodup ∧ (∀ a ∈ Fy, H0 a = none ∧ a ∉ Fg1 ∧ (∀ j, a ∉ Fs2 j) ∧ some a ≠ ah) ∧ ∀ a ∈ Fy, H a = none ∨ ∃ j u, sl s j = .ow u ∧ a ∈ Fs j := by
  unfold sealV at h
  split at h
  · rename_i hf
    cases h
    simp only [Bool.or_eq_true] at hf
    rcases hf with hf | hl
    · obtain ⟨n, f⟩ := rs.fresh hf
      refine ⟨Fs1, Fx, R1, St1.toS, rp, n, fun a m => ⟨(f a m).1, (f a m).2.1, (f a m).2.2.1, rs.noah a m⟩, fun a m => ?_⟩
      rcases (f a m).2.2.2 with z | ⟨j, hj, z⟩
      · exact .inl z
      · obtain ⟨w, q⟩ := St1.pow j hj
        exact .inr ⟨j, w, q, z⟩
    · have e := rp.lf_nil hl
      subst e
      exact ⟨Fs1, [], R1, St1.toS, rp, .nil, fun _ m => (nomatch m), fun _ m => (nomatch m)⟩
  · split at h
    · rename_i j _
      split at h
      · rename_i ws hw
        cases h
        have hx := hv j rfl
        have ho : sl s1 j = .ow (.list ws) := sl_some hw
        have hd : d = .list ws := by
          simp only [ev, Option.map_eq_some_iff, Prod.mk.injEq] at he
          obtain ⟨d', e1, rfl, rfl⟩ := he
          unfold rd at e1
          rw [hw] at e1
          exact (Option.some.inj e1).symm
        subst hd
        have q := R1.slot j
        rw [ho] at q
        obtain ⟨y, e1, r⟩ := q
        rw [hx] at e1; cases e1
        have o := R1.own j _ ho
        refine ⟨_, Fs1 j, R1.dead (j := j) hx, St1.toS.trans stpS_dead, r, o.1, fun a m => ⟨(o.2 a m).1, (o.2 a m).2.1, fun l => ?_, R1.noah j a m⟩, fun a m => St1.toS.own j _ ho a m⟩
        by_cases z : l = j
        · subst z; rw [setFs_same]; simp
        · rw [setFs_ne z]; exact (o.2 a m).2.2 l z
      · cases h
    · cases h
theorem set_mem {α : Type} {l : List α} {j : Nat} {x y : α} (h : y ∈ l.set j x) : y = x ∨ y ∈ l := by
  rcases List.mem_or_eq_of_mem_set h with z | z
  · exact .inr z
  · exact .inl z
theorem flat_set_mem : ∀ {Gs : List (List Addr)} {j : Nat} {Fx : List Addr} {a : Addr}, a ∈ (Gs.set j Fx).flatten → a ∈ Fx ∨ a ∈ Gs.flatten
  | [], _, _, _, h => by simp at h
  | G :: Gs, 0, Fx, a, h => by
    rw [List.set_cons_zero, List.flatten_cons, List.mem_append] at h
    rcases h with h | h
    · exact .inl h
    · exact .inr (by rw [List.flatten_cons]; exact List.mem_append_right _ h)
  | G :: Gs, j + 1, Fx, a, h => by
    rw [List.set_cons_succ, List.flatten_cons, List.mem_append] at h
    rcases h with h | h
    · exact .inr (by rw [List.flatten_cons]; exact List.mem_append_left _ h)
    · rcases flat_set_mem h with z | z
      · exact .inl z
      · exact .inr (by rw [List.flatten_cons]; exact List.mem_append_right _ z)
theorem flat_set_nodup : ∀ {Gs : List (List Addr)} {j : Nat} {Fx : List Addr}, Gs.flatten.Nodup → Fx.Nodup → (∀ a ∈ Fx, a ∉ Gs.flatten) → (Gs.set j Fx).flatten.Nodup
  | [], _, _, n, _, _ => by simp
  | G :: Gs, 0, Fx, n, m, d => by
    rw [List.flatten_cons] at n d
    rw [List.set_cons_zero, List.flatten_cons, List.nodup_append]
    exact ⟨m, (List.nodup_append.mp n).2.1, fun a h b h' e => d a h (List.mem_append_right _ (e ▸ h'))⟩
  | G :: Gs, j + 1, Fx, n, m, d => by
    rw [List.flatten_cons] at n d
    obtain ⟨n1, n2, n3⟩ := List.nodup_append.mp n
    rw [List.set_cons_succ, List.flatten_cons, List.nodup_append]
    refine ⟨n1, flat_set_nodup n2 m fun a h h' => d a h (List.mem_append_right _ h'), fun a h b h' e => ?_⟩
    subst e
    rcases flat_set_mem h' with z | z
    · exact d a z (List.mem_append_left _ h)
    · exact n3 a h a z rfl
/-- what a reading leaves of a thing that no name holds -/
theorem sealed_kp {ah : Option Addr} {P : List Nat} {H H' : Hp} {s s' : St} {Fs Fs' : Fp} {Fg Fg' Fy : List Addr} (St : Stp ah P H s Fs Fg H' s' Fs' Fg') (h : ∀ a ∈ Fy, (∀ j, a ∉ Fs j) ∧ some a ≠ ah) : Kp Fy H H' :=
  St.kp (fun a m => (h a m).2) fun i _ a m => (h a m).1 i
/-- a list of a name's own is written: the new list, the new cells -/
theorem own_write {ah : Option Addr} {H0 H : Hp} {σ : L2.St} {s : St} {Fs : Fp} {Fg Fy : List Addr} {i l : Nat} {xs ys : List D} {ws : List V} {Gs : List (List Addr)} (R : SR K ah H0 σ H s Fs Fg) (ho : sl s i = .ow (.list xs)) (es : σ[i]? = some (some (.ref l))) (hl : ∃ vs, H l = some (.lst vs)) (hin : l ∈ Fs i)
    (rep : RepL K H ws ys Gs) (nl : l ∉ Gs.flatten) (nd : Gs.flatten.Nodup) (hG : ∀ a ∈ Gs.flatten, a ∈ Fs i ∨ (a ∈ Fy)) (hy : ∀ a ∈ Fy, H0 a = none ∧ a ∉ Fg ∧ (∀ j, a ∉ Fs j) ∧ some a ≠ ah) :
    SR K ah H0 σ (upd H l (.lst ws)) (put s i (.ow (.list ys))) (setFs Fs i (l :: Gs.flatten)) Fg ∧ ∀ {Hs : Hp} {ss : St} {Fss : Fp} {Fgs : List Addr}, StpS ah Hs ss Fss Fgs H s Fs Fg → (∀ a ∈ Fy, Hs a = none ∨ ∃ j u, sl ss j = .ow u ∧ a ∈ Fss j) →
      StpS ah Hs ss Fss Fgs (upd H l (.lst ws)) (put s i (.ow (.list ys))) (setFs Fs i (l :: Gs.flatten)) Fg := by
  obtain ⟨vs, hl⟩ := hl
  have hk : ∀ a o, H a = some o → a ∉ Fs i → upd H l (.lst ws) a = some o := fun a o e m => by
    rw [upd_ne (show a ≠ l by intro z; subst z; exact m hin)]; exact e
  have rep' : Rep K (upd H l (.lst ws)) (.ref l) (.list ys) (l :: Gs.flatten) := .list upd_same (rep.kp (kp_updL hl nl))
  refine ⟨R.write ho es hk rep' (List.nodup_cons.mpr ⟨nl, nd⟩) fun a m => ?_, fun {Hs ss Fss Fgs} St org => ?_⟩
  · rcases List.mem_cons.mp m with z | z
    · exact .inl (z ▸ hin)
    · rcases hG a z with q | q
      · exact .inl q
      · exact .inr (hy a q)
  · have lt := sl_lt ho
    refine ⟨fun a o e n f => ?_, fun a us e => ?_, fun j w q a m => ?_, St.fg, put_len.trans St.len, fun a e => St.there a (updL_there hl a e)⟩
    · have e1 := St.ext a o e n f
      by_cases z : a = l
      · subst z
        rcases St.own i _ ho a hin with q | ⟨j, u, q1, q2⟩
        · rw [q] at e; cases e
        · exact (f j u q1 q2).elim
      · rw [upd_ne z]; exact e1
    · have e1 := St.tup a us e
      rw [upd_ne fun z => by subst z; rw [hl] at e1; cases e1]; exact e1
    · rw [sl_put lt] at q
      by_cases z : j = i
      · subst z
        rw [setFs_same] at m
        rcases List.mem_cons.mp m with y | y
        · exact St.own j _ ho a (y ▸ hin)
        · rcases hG a y with y | y
          · exact St.own j _ ho a y
          · exact org a y
      · rw [if_neg z] at q; rw [setFs_ne z] at m; exact St.own j w q a m
theorem l2_ixN {n j : Nat} {i : Int} (h : ixN n i = some j) : L2.ixN n i = some j := h
theorem tIE_of {c : E} {ah : Option Addr} {H0 H : Hp} {σ : L2.St} {s s' : St} {Fs : Fp} {Fg : List Addr} {d : D} {Q : VK} (R : SR K ah H0 σ H s Fs Fg) (e : ev F c s = some (d, s'))
    (k : ∀ (v : V) (H' : Hp) (Fs' : Fp) (Fg' Fx : List Addr) (P : List Nat), (∀ i ∈ P, i ∈ c.popL) → SR K ah H0 σ H' s' Fs' Fg' → Stp ah P H s Fs Fg H' s' Fs' Fg' → Rep K H' v d Fx → Res K ah H0 c.mentions P H Fs Fg (c.fresh d = true) H' Fs' Fg' Fx → Q v H') : tIE K F c σ H Q :=
  ⟨ah, H0, s, Fs, Fg, d, s', R, e, k⟩
/-- name[ix] = e -/
theorem tIS_setI {i : Nat} {ix c : E} {Dn : Ends} {σ : L2.St} {H : Hp} (h : tIS K F (.setI i ix c) Dn σ H) : L2.tAsg (tX K F c) (L2.gSub (L2.tVar i) (tIE K F ix) L2.rSetL) Dn σ H := by
  obtain ⟨ah, H0, n, s, Fs, Fg, fl, s', R, e, w⟩ := h
  simp only [ex, Option.bind_eq_some_iff] at e
  obtain ⟨⟨d, s1⟩, e1, s2, e2, e⟩ := e
  split at e
  case isFalse => cases e
  rename_i hL
  rw [Option.bind_eq_some_iff] at e
  obtain ⟨⟨dk, s3⟩, e3, e4⟩ := e
  split at e4
  case h_2 => cases e4
  rename_i kk xs q1 q2
  dsimp only at q1 q2; subst q1
  simp only [Option.map_eq_some_iff, Prod.mk.injEq] at e4
  obtain ⟨j, e5, rfl, rfl⟩ := e4
  have ho3 := own_sl q2
  refine ⟨ah, H0, s, Fs, Fg, d, s1, R, e1, fun v H1 Fs1 Fg1 Fx P hP R1 St1 rp rs hv => ?_⟩
  obtain ⟨Fs2, Fy, R2, St2, ry, ny, fy, oy⟩ := seal_ok R1 St1 rp rs e1 e2 hv
  obtain ⟨zs, hL'⟩ := hasL_sl hL
  obtain ⟨y, ei, _⟩ : ∃ y, σ[i]? = some (some y) ∧ True := by
    have q := R2.slot i
    rw [hL'] at q
    obtain ⟨y, q, _⟩ := q
    exact ⟨y, q, trivial⟩
  refine ⟨y, ei, tIE_of R2 e3 fun u H3 Fs3 Fg3 Fz P3 hP3 R3 St3 ru rsu => ?_⟩
  cases ru
  obtain ⟨l, vs, Gs, es, hl, rl, hF, nd⟩ := R3.ownL ho3
  rw [ei] at es; cases es
  obtain ⟨lt, _⟩ := ixN_lt e5
  refine ⟨l, vs, kk, j, rfl, rfl, hl, by rw [rl.len.1]; exact l2_ixN e5, ?_⟩
  have ry3 := ry.kp (sealed_kp St3 fun a m => ⟨(fy a m).2.2.1, (fy a m).2.2.2⟩)
  have fy3 : ∀ a ∈ Fy, H0 a = none ∧ a ∉ Fg3 ∧ (∀ j, a ∉ Fs3 j) ∧ some a ≠ ah := fun a m => ⟨(fy a m).1, fun z => (fy a m).2.1 (St3.fg a z), fun j z => (fy a m).2.2.1 j (St3.fsub j a z), (fy a m).2.2.2⟩
  have nd' := List.nodup_cons.mp nd
  have W := own_write (Fy := Fy) (ws := vs.set j v) (ys := xs.set j d) (Gs := Gs.set j Fy) R3 ho3 ei ⟨vs, hl⟩ (by rw [hF]; simp) (RepL.set ry3 j rl) (fun z => ?_) (flat_set_nodup nd'.2 ny fun a m z => ?_) (fun a m => ?_) fy3
  · exact w σ _ _ _ W.1 (W.2 (St2.trans St3.toS) oy)
  · rcases flat_set_mem z with z | z
    · exact (fy3 l z).2.2.1 i (by rw [hF]; simp)
    · exact nd'.1 z
  · exact (fy3 a m).2.2.1 i (by rw [hF]; simp [z])
  · rcases flat_set_mem m with z | z
    · exact .inr z
    · exact .inl (by rw [hF]; simp [z])
end Iv
set_option Elab.async false
set_option linter.all false
set_option maxRecDepth 100000
set_option maxHeartbeats 2000000
/-! IvSound16: more statements, by their readings. -/
namespace Iv
open PySem PySem.Spec PyProof.Rows
open L2 (V Hp HO SqL SqT upd upd_same upd_ne ne_of_none VK TE TA TT TI TS TG Cx Inv RelV Vals PE PT PA PS PSs PW PI PG PGs PO PTs OpR UnR CallR IxR SlR Vis Gl FnOk Room Binds CX0 Sp XK tTest It Walk wipe BlkOk Ends)

variable {K : PySem.W.Frag} {F : Fns} {k : Nat}

theorem rd_slot {ah : Option Addr} {H0 H : Hp} {σ : L2.St} {s : St} {Fs : Fp} {Fg : List Addr} {i : Nat} {d : D} (R : SR K ah H0 σ H s Fs Fg) (h : rd s i = some d) : ∃ y, σ[i]? = some (some y) ∧ Rep K H y d (Fs i) := by
  have q := R.slot i
  rcases rd_sl h with z | z
  · rw [z] at q; exact q
  · rw [z] at q; exact q
theorem slot_lt {ah : Option Addr} {H0 H : Hp} {σ : L2.St} {s : St} {Fs : Fp} {Fg : List Addr} {i : Nat} {y : V} (R : SR K ah H0 σ H s Fs Fg) (h : σ[i]? = some (some y)) : i < s.1.length := by
  rw [← R.len]; exact (List.getElem?_eq_some_iff.mp h).1
theorem rep_int {H : Hp} {x : V} {i : Int} {G : List Addr} (r : Rep K H x (.int i) G) : x = .int i ∧ G = [] := by cases r; exact ⟨rfl, rfl⟩
/-- name op= e, of ints -/
theorem tIS_aug {i : Nat} {c : E} {o : Op} {f : Int → Int → Int} {Dn : Ends} {σ : L2.St} {H : Hp} (hf : ∀ x y v, opS o [.int x, .int y] = some v → v = .int (f x y)) (h : tIS K F (.aug i o c) Dn σ H) : L2.tAug i (tIE K F c) (L2.ipI f) Dn σ H := by
  obtain ⟨ah, H0, n, s, Fs, Fg, fl, s', R, e, w⟩ := h
  simp only [ex, Option.bind_eq_some_iff] at e
  obtain ⟨a, e1, ⟨b, s1⟩, e2, e3⟩ := e
  split at e3
  case h_2 => cases e3
  rename_i x y q
  dsimp only at q; subst q
  simp only [Option.map_eq_some_iff, Prod.mk.injEq] at e3
  obtain ⟨v, e4, rfl, rfl⟩ := e3
  obtain ⟨u, eu, ru⟩ := rd_slot R e1
  obtain ⟨rfl, _⟩ := rep_int ru
  have := hf _ _ _ e4; subst this
  refine ⟨_, eu, tIE_of R e2 fun z H1 Fs1 Fg1 Fx P hP R1 St1 rz rs => ?_⟩
  cases rz
  have lt := slot_lt R1 eu
  exact ⟨x, y, rfl, rfl, w _ H1 _ Fg1 (R1.bindOw (G := []) lt (.int _) (fun _ m => (nomatch m)) .nil fun _ m => (nomatch m)) (stpS_ow lt St1.toS fun _ m => (nomatch m))⟩
theorem hasL_ty {ah : Option Addr} {H0 H : Hp} {σ : L2.St} {s : St} {Fs : Fp} {Fg : List Addr} {i : Nat} (R : SR K ah H0 σ H s Fs Fg) (h : hasL s i = true) : ∃ l vs, σ[i]? = some (some (.ref l)) ∧ H l = some (.lst vs) := by
  obtain ⟨xs, ho⟩ := hasL_sl h
  obtain ⟨l, vs, Gs, es, hl, _⟩ := R.ownL ho
  exact ⟨l, vs, es, hl⟩
/-- name.append(e), its value dropped -/
theorem tIS_append {i : Nat} {c : E} {Dn : Ends} {σ : L2.St} {H : Hp} (h : tIS K F (.append i c) Dn σ H) : L2.tDrop (L2.tBM K "list" L2.rAppend (L2.tVar i) (L2.tCons (tX K F c) L2.tNil)) Dn σ H := by
  obtain ⟨ah, H0, n, s, Fs, Fg, fl, s', R, e, w⟩ := h
  simp only [ex] at e
  split at e
  case isFalse => cases e
  rename_i hL
  simp only [Option.bind_eq_some_iff] at e
  obtain ⟨⟨d, s1⟩, e1, s2, e2, e⟩ := e
  split at e
  case h_2 => cases e
  rename_i xs q2
  split at e
  case isFalse => cases e
  rename_i hlen
  cases e
  have ho2 := own_sl q2
  obtain ⟨l, vs, es, hl⟩ := hasL_ty R hL
  refine ⟨_, es, .inl ⟨rfl, vs, SqL.of' hl⟩, ?_⟩
  refine ⟨ah, H0, s, Fs, Fg, d, s1, R, e1, fun v H1 Fs1 Fg1 Fx P hP R1 St1 rp rs hv => ?_⟩
  obtain ⟨Fs2, Fy, R2, St2, ry, ny, fy, oy⟩ := seal_ok R1 St1 rp rs e1 e2 hv
  obtain ⟨l', us, Gs, es', hl', rl, hF, nd⟩ := R2.ownL ho2
  rw [es] at es'; cases es'
  refine ⟨l, us, v, rfl, rfl, hl', by rw [rl.len.1, ← line_eq]; exact hlen, ?_⟩
  have nd' := List.nodup_cons.mp nd
  have W := own_write (Fy := Fy) (ws := us ++ [v]) (ys := xs ++ [d]) (Gs := Gs ++ [Fy]) R2 ho2 es ⟨us, hl'⟩ (by rw [hF]; simp) (rl.append (.cons ry .nil)) (fun z => ?_) ?_ (fun a m => ?_) fy
  · exact w σ _ _ _ W.1 (W.2 St2 oy)
  · simp only [List.flatten_append, List.flatten_cons, List.flatten_nil, List.append_nil, List.mem_append] at z
    rcases z with z | z
    · exact nd'.1 z
    · exact (fy l z).2.2.1 i (by rw [hF]; simp)
  · simp only [List.flatten_append, List.flatten_cons, List.flatten_nil, List.append_nil]
    refine List.nodup_append.mpr ⟨nd'.2, ny, fun a m b m' z => ?_⟩
    subst z
    exact (fy a m').2.2.1 i (by rw [hF]; simp [m])
  · simp only [List.flatten_append, List.flatten_cons, List.flatten_nil, List.append_nil, List.mem_append] at m
    rcases m with z | z
    · exact .inl (by rw [hF]; simp [z])
    · exact .inr z
/-- a term for its turns alone -/
theorem tIS_drop {c : E} {Dn : Ends} {σ : L2.St} {H : Hp} (h : tIS K F (.drop c) Dn σ H) : L2.tDrop (tIE K F c) Dn σ H := by
  obtain ⟨ah, H0, n, s, Fs, Fg, fl, s', R, e, w⟩ := h
  simp only [ex, Option.map_eq_some_iff, Prod.mk.injEq] at e
  obtain ⟨⟨d, s1⟩, e1, rfl, rfl⟩ := e
  exact tIE_of R e1 fun z H1 Fs1 Fg1 Fx P hP R1 St1 rz rs => w _ H1 _ Fg1 R1 St1.toS
/-- hand[ix] = e -/
theorem hd_of {s : St} {i : Nat} (h : isHd s i = true) : sl s i = .hd := isHd_sl h
theorem tIS_setH {i : Nat} {ix c : E} {Dn : Ends} {σ : L2.St} {H : Hp} (h : tIS K F (.setH i ix c) Dn σ H) : L2.tAsg (tIE K F c) (L2.gSub (L2.tVar i) (tIE K F ix) L2.rSetL) Dn σ H := by
  obtain ⟨ah, H0, n, s, Fs, Fg, fl, s', R, e, w⟩ := h
  simp only [ex] at e
  split at e
  case isFalse => cases e
  rename_i hL
  simp only [Option.bind_eq_some_iff] at e
  obtain ⟨⟨d, s1⟩, e1, e⟩ := e
  split at e
  case isFalse => cases e
  rename_i hlf
  simp only [Option.bind_eq_some_iff] at e
  obtain ⟨⟨dk, s2⟩, e2, e⟩ := e
  split at e
  case h_2 => cases e
  rename_i kk g q1 q2
  dsimp only at q1 q2; subst q1
  simp only [Option.map_eq_some_iff, Prod.mk.injEq] at e
  obtain ⟨j, e5, rfl, rfl⟩ := e
  obtain ⟨a, rfl, ea⟩ := hd_slot R hL
  refine tIE_of R e1 fun v H1 Fs1 Fg1 Fx P hP R1 St1 rp rs => ?_
  refine ⟨_, ea, tIE_of R1 e2 fun u H2 Fs2 Fg2 Fz P2 hP2 R2 St2 ru rsu => ?_⟩
  cases ru
  have hFx := rp.lf_nil hlf
  subst hFx
  have rp2 : Rep K H2 v d [] := rp.kp (sealed_kp St2 fun _ m => (nomatch m))
  have hh := R2.hand
  rw [q2] at hh
  obtain ⟨vs, Gs, hl, rl, rfl, nG⟩ := hh
  obtain ⟨lt, _⟩ := ixN_lt e5
  have Sx := St1.trans St2
  refine ⟨a, vs, kk, j, rfl, rfl, hl, by rw [rl.len.1]; exact l2_ixN e5, ?_⟩
  have kpo : ∀ b o, H2 b = some o → some b ≠ some a → upd H2 a (.lst (vs.set j v)) b = some o := fun b o e n => by
    rw [upd_ne (show b ≠ a by intro z; subst z; exact n rfl)]; exact e
  have kpt : ∀ b us, H2 b = some (.tup us) → upd H2 a (.lst (vs.set j v)) b = some (.tup us) := fun b us e => by
    rw [upd_ne (show b ≠ a by intro z; subst z; rw [hl] at e; cases e)]; exact e
  have sub : ∀ x ∈ (Gs.set j []).flatten, x ∈ Gs.flatten := fun x m => by
    rcases flat_set_mem m with z | z
    · exact nomatch z
    · exact z
  have hand' : HandOk K (upd H2 a (.lst (vs.set j v))) (some a) (some (g.set j d)) (Gs.set j []).flatten :=
    ⟨vs.set j v, Gs.set j [], upd_same, (RepL.set rp2 j rl).kp ⟨fun b m o e => kpo b o e (by intro z; cases z; exact nG (sub _ m)), kpt⟩, rfl, fun z => nG (sub _ z)⟩
  have R3 := R2.called hand' sub kpo kpt
  refine w σ _ _ _ R3 ⟨fun b o e n f => kpo b o (Sx.ext b o e n fun i hi m => by obtain ⟨u, q⟩ := Sx.pow i hi; exact f i u q m) n, fun b us e => kpt b us (Sx.tup b us e), Sx.toS.own, fun x m => Sx.fg x (sub x m), Sx.len, fun b e => Sx.there b (updL_there hl b e)⟩
/-- return e -/
theorem tIS_ret {c : E} {Dn : Ends} {σ : L2.St} {H : Hp} (h : tIS K F (.ret c) Dn σ H) : L2.tRet (tX K F c) Dn σ H := by
  obtain ⟨ah, H0, n, s, Fs, Fg, fl, s', R, e, w⟩ := h
  simp only [ex, Option.bind_eq_some_iff] at e
  obtain ⟨⟨d, s1⟩, e1, e⟩ := e
  split at e
  case isFalse => cases e
  rename_i hs
  cases e
  refine ⟨ah, H0, s, Fs, Fg, d, s1, R, e1, fun v H1 Fs1 Fg1 Fx P hP R1 St1 rp rs hv => ?_⟩
  have fin : ∀ Fy, Rep K H1 v d Fy → Fy.Nodup → (∀ a ∈ Fy, H0 a = none ∧ some a ≠ ah ∧ a ∉ Fg1) → Dn.rt v H1 := fun Fy r n f =>
    w v H1 Fg1 Fy ⟨r, n, f, R1.hand, St1.fg, R1.keep, St1.tup, St1.there⟩
  unfold sealR at hs
  simp only [Bool.or_eq_true] at hs
  rcases hs with (hs | hs) | hs
  · obtain ⟨n, f⟩ := rs.fresh hs
    exact fin Fx rp n fun a m => ⟨(f a m).1, rs.noah a m, (f a m).2.1⟩
  · have e := rp.lf_nil hs
    subst e
    exact fin [] rp .nil fun _ m => (nomatch m)
  · split at hs
    · rename_i j
      split at hs
      · rename_i u hu
        have hx := hv j rfl
        have ho : sl s1 j = .ow u := sl_some hu
        have hd : d = u := by
          simp only [ev, Option.map_eq_some_iff, Prod.mk.injEq] at e1
          obtain ⟨d', e1, rfl, rfl⟩ := e1
          unfold rd at e1
          rw [hu] at e1
          exact (Option.some.inj e1).symm
        subst hd
        have q := R1.slot j
        rw [ho] at q
        obtain ⟨y, e2, r⟩ := q
        rw [hx] at e2; cases e2
        have o := R1.own j _ ho
        exact fin (Fs1 j) r o.1 fun a m => ⟨(o.2 a m).1, R1.noah j a m, (o.2 a m).2.1⟩
      · cases hs
    · cases hs
theorem tIS_retN {Dn : Ends} {σ : L2.St} {H : Hp} (h : tIS K F (.ret (.cst .none)) Dn σ H) : L2.tRetN Dn σ H := by
  obtain ⟨ah, H0, n, s, Fs, Fg, fl, s', R, e, w⟩ := h
  simp [ex, ev, sealR, E.fresh] at e
  obtain ⟨rfl, rfl⟩ := e
  exact w .non H Fg [] ⟨.none, .nil, fun _ m => (nomatch m), R.hand, fun _ m => m, R.keep, fun _ _ e => e, fun _ e => e⟩
theorem tIS_flow {Dn : Ends} {σ : L2.St} {H : Hp} : (tIS K F .brk Dn σ H → L2.tBreak Dn σ H) ∧ (tIS K F .cnt Dn σ H → L2.tCont Dn σ H) ∧ (tIS K F .pass Dn σ H → L2.tNext Dn σ H) ∧ (tIS K F .bad Dn σ H → L2.tNever Dn σ H) := by
  refine ⟨fun h => ?_, fun h => ?_, fun h => ?_, fun h => ?_⟩
  all_goals
    obtain ⟨ah, H0, n, s, Fs, Fg, fl, s', R, e, w⟩ := h
    simp only [ex, Option.some.injEq, Prod.mk.injEq, reduceCtorEq] at e
  all_goals
    obtain ⟨rfl, rfl⟩ := e
    exact w σ H Fs Fg R .refl
/-- if -/
theorem tIS_ite {c : E} {a b : List S} {Dn : Ends} {σ : L2.St} {H : Hp} (h : tIS K F (.ite c a b) Dn σ H) : L2.tIfS (tTest (tIE K F c)) (tISs K F a) (tISs K F b) Dn σ H := by
  obtain ⟨ah, H0, n, s, Fs, Fg, fl, s', R, e, w⟩ := h
  simp only [ex, Option.bind_eq_some_iff] at e
  obtain ⟨⟨d, s1⟩, e1, e⟩ := e
  refine tIE_of R e1 fun v H1 Fs1 Fg1 Fx P hP R1 St1 rp rs => ?_
  split at e
  · rename_i q
    dsimp only at q; subst q
    obtain ⟨rfl, rfl⟩ := rep_bl rp
    exact ⟨true, rfl, by change ite _ _ _; rw [if_pos rfl]; exact ⟨ah, H0, n, s1, Fs1, Fg1, fl, s', R1, e, w.step St1.toS⟩⟩
  · rename_i q
    dsimp only at q; subst q
    obtain ⟨rfl, rfl⟩ := rep_bl rp
    exact ⟨false, rfl, by change ite _ _ _; rw [if_neg (by decide)]; exact ⟨ah, H0, n, s1, Fs1, Fg1, fl, s', R1, e, w.step St1.toS⟩⟩
  · cases e
/-- while -/
theorem tIS_while {c : E} {b : List S} {Dn : Ends} {σ : L2.St} {H : Hp} (h : tIS K F (.while c b) Dn σ H) : L2.tWhile (tTest (tIE K F c)) (tISs K F b) Dn σ H := by
  obtain ⟨ah, H0, n, s, Fs, Fg, fl, s', R, e, w⟩ := h
  simp only [ex] at e
  refine ⟨fun m σ1 H1 => ∃ s1 Fs1 Fg1, SR K ah H0 σ1 H1 s1 Fs1 Fg1 ∧ StpS ah H s Fs Fg H1 s1 Fs1 Fg1 ∧ whileL (ev F c) (exs F n b) m s1 = some (fl, s'), ⟨n, s, Fs, Fg, R, .refl, e⟩, ?_⟩
  rintro m σ1 H1 ⟨s1, Fs1, Fg1, R1, St1, e1⟩
  cases m with
  | zero => simp [whileL] at e1
  | succ m =>
    simp only [whileL, Option.bind_eq_some_iff] at e1
    obtain ⟨⟨d, s2⟩, e2, e3⟩ := e1
    refine tIE_of R1 e2 fun v H2 Fs2 Fg2 Fx P hP R2 St2 rp rs => ?_
    split at e3
    · rename_i q
      dsimp only at q; subst q
      obtain ⟨rfl, rfl⟩ := rep_bl rp
      cases e3
      exact ⟨false, rfl, by change ite _ _ _; rw [if_neg (by decide)]; exact w σ1 H2 Fs2 Fg2 R2 (St1.trans St2.toS)⟩
    · rename_i q
      dsimp only at q; subst q
      obtain ⟨rfl, rfl⟩ := rep_bl rp
      refine ⟨true, rfl, ?_⟩
      change ite _ _ _
      rw [if_pos rfl]
      refine ⟨fun σ' H' => ∃ s1 Fs1 Fg1, SR K ah H0 σ' H' s1 Fs1 Fg1 ∧ StpS ah H s Fs Fg H' s1 Fs1 Fg1 ∧ whileL (ev F c) (exs F n b) m s1 = some (fl, s'), fun σ' H' q => ⟨m, Nat.lt_succ_self m, q⟩, ?_⟩
      rw [Option.bind_eq_some_iff] at e3
      obtain ⟨⟨f3, s3⟩, e3, e4⟩ := e3
      have St3 := St1.trans St2.toS
      refine ⟨ah, H0, n, s2, Fs2, Fg2, f3, s3, R2, e3, ?_⟩
      cases f3 with
      | nx => exact fun σ' H' Fs' Fg' R' St' => ⟨s3, Fs', Fg', R', St3.trans St', e4⟩
      | cnt => exact fun σ' H' Fs' Fg' R' St' => ⟨s3, Fs', Fg', R', St3.trans St', e4⟩
      | brk =>
        cases e4
        exact fun σ' H' Fs' Fg' R' St' => w σ' H' Fs' Fg' R' (St3.trans St')
      | ret x =>
        cases e4
        have w' : Wish K ah H0 Dn H2 s2 Fs2 Fg2 (.ret x) s3 := w.step St3
        exact w'
    · cases e3
end Iv
set_option Elab.async false
set_option linter.all false
set_option maxRecDepth 100000
set_option maxHeartbeats 2000000
/-! IvSound17: for; many names at once. -/
namespace Iv
open PySem PySem.Spec PyProof.Rows
open L2 (V Hp HO SqL SqT upd upd_same upd_ne ne_of_none VK TE TA TT TI TS TG Cx Inv RelV Vals PE PT PA PS PSs PW PI PG PGs PO PTs OpR UnR CallR IxR SlR Vis Gl FnOk Room Binds CX0 Sp XK tTest It Walk wipe BlkOk Ends)

variable {K : PySem.W.Frag} {F : Fns} {k : Nat}

theorem fold_sh : ∀ {ps : List (Nat × D)} {s : St} {j : Nat} {w : D}, (∀ p ∈ ps, p.1 < s.1.length) → sl (ps.foldl (fun s p => put s p.1 (.sh p.2)) s) j = .ow w → sl s j = .ow w ∧ j ∉ ps.map (·.1)
  | [], s, j, w, _, h => ⟨h, by simp⟩
  | p :: ps, s, j, w, hl, h => by
    rw [List.foldl_cons] at h
    obtain ⟨h1, h2⟩ := fold_sh (fun q m => by rw [put_len]; exact hl q (List.mem_cons_of_mem _ m)) h
    rw [sl_put (hl p List.mem_cons_self)] at h1
    by_cases z : j = p.1
    · rw [if_pos z] at h1; cases h1
    · rw [if_neg z] at h1
      exact ⟨h1, by simp only [List.map_cons, List.mem_cons, not_or]; exact ⟨z, h2⟩⟩
theorem fold_len : ∀ {ps : List (Nat × D)} {s : St}, (ps.foldl (fun s p => put s p.1 (.sh p.2)) s).1.length = s.1.length
  | [], s => rfl
  | p :: ps, s => by rw [List.foldl_cons, fold_len, put_len]
theorem bind_ow {t : Tg} {d : D} {s sb : St} {j : Nat} {w : D} (e : bindTg t d s = some sb) (hi : ∀ i ∈ t.slots, i < s.1.length) (h : sl sb j = .ow w) : sl s j = .ow w ∧ j ∉ t.slots := by
  cases t with
  | nm i =>
    cases e
    rw [sl_put (hi i (by simp [Tg.slots]))] at h
    by_cases z : j = i
    · rw [if_pos z] at h; cases h
    · rw [if_neg z] at h; exact ⟨h, by simp [Tg.slots, z]⟩
  | tp is =>
    cases d <;> first | (cases e; done) | skip
    rename_i xs
    simp only [bindTg] at e
    split at e
    · rename_i hl
      cases e
      have := fold_sh (fun p m => hi p.1 (List.of_mem_zip m).1) h
      refine ⟨this.1, ?_⟩
      have hz : j ∉ (is.zip xs).map (·.1) := this.2
      rw [List.map_fst_zip (by omega)] at hz
      exact hz
    · cases e
theorem bind_len {t : Tg} {d : D} {s sb : St} (e : bindTg t d s = some sb) : sb.1.length = s.1.length := by
  cases t with
  | nm i => cases e; exact put_len
  | tp is =>
    cases d <;> first | (cases e; done) | skip
    simp only [bindTg] at e
    split at e
    · cases e; exact fold_len
    · cases e
theorem stpS_bind {ah : Option Addr} {H : Hp} {t : Tg} {d : D} {s sb : St} {Fs Fs2 : Fp} {Fg : List Addr} (e : bindTg t d s = some sb) (hi : ∀ i ∈ t.slots, i < s.1.length) (h : ∀ j, j ∉ t.slots → Fs2 j = Fs j) : StpS ah H s Fs Fg H sb Fs2 Fg :=
  ⟨fun _ _ e _ _ => e, fun _ _ e => e, fun j w q a m => by
    obtain ⟨q1, q2⟩ := bind_ow e hi q
    rw [h j q2] at m
    exact .inr ⟨j, w, q1, m⟩, fun _ h => h, bind_len e, fun _ e => e⟩
theorem StpS.same {ah : Option Addr} {H H' : Hp} {s : St} {Fs : Fp} {Fg : List Addr} (h : ∀ a o, H a = some o → H' a = some o) : StpS ah H s Fs Fg H' s Fs Fg :=
  ⟨fun a o e _ _ => h a o e, fun a _ e => h a _ e, fun i w e a m => .inr ⟨i, w, e, m⟩, fun _ h => h, rfl, fun a e => by
    cases q : H a with
    | none => rfl
    | some o => rw [h a o q] at e; cases e⟩
/-- what is walked stands through the body -/
theorem StpS.kp {ah : Option Addr} {H H' : Hp} {s s' : St} {Fs Fs' : Fp} {Fg Fg' Fa : List Addr} (a : StpS ah H s Fs Fg H' s' Fs' Fg') (h1 : ∀ x ∈ Fa, some x ≠ ah) (h2 : ∀ j w, sl s j = .ow w → ∀ x ∈ Fs j, x ∉ Fa) : Kp Fa H H' :=
  ⟨fun x m o e => a.ext x o e (h1 x m) fun i w q z => h2 i w q x z m, a.tup⟩
theorem StpS.apart {ah : Option Addr} {H H' : Hp} {s s' : St} {Fs Fs' : Fp} {Fg Fg' Fa : List Addr} (a : StpS ah H s Fs Fg H' s' Fs' Fg') (h0 : ∀ x ∈ Fa, ∃ o, H x = some o) (h2 : ∀ j w, sl s j = .ow w → ∀ x ∈ Fs j, x ∉ Fa) : ∀ j w, sl s' j = .ow w → ∀ x ∈ Fs' j, x ∉ Fa := fun j w q x m z => by
  rcases a.own j w q x m with y | ⟨i, u, y1, y2⟩
  · obtain ⟨o, e⟩ := h0 x z
    rw [y] at e; cases e
  · exact h2 i u y1 x y2 z
theorem tIS_for {t : Tg} {kd : IK} {cs : List E} {b : List S} {Dn : Ends} {σ : L2.St} {H : Hp} (hi : ∀ i ∈ t.slots, i < σ.length) (h : tIS K F (.for t kd cs b) Dn σ H) : L2.tFor (tII K F kd cs) (gT K t) (tISs K F b) Dn σ H := by
  obtain ⟨ah, H0, n, s, Fs, Fg, fl, s', R, e, w⟩ := h
  simp only [ex, Option.bind_eq_some_iff] at e
  obtain ⟨⟨ds, s1⟩, e1, vs, e2, e3⟩ := e
  refine ⟨ah, H0, s, Fs, Fg, ds, s1, vs, R, e1, e2, fun J H1 Fs1 Fg1 Fa P hP R1 St1 nah org there wk => ?_⟩
  obtain ⟨Gd, Y, wk, hGd, hY⟩ := wk
  have Rs := R1.share (shM kd cs)
  have Sts : StpS ah H s Fs Fg H1 (shareE (shM kd cs) s1) Fs1 Fg1 := St1.toS.trans stpS_share
  have ap0 : ∀ j u, sl (shareE (shM kd cs) s1) j = .ow u → ∀ x ∈ Fs1 j, x ∉ Fa := fun j u q x m z => by
    rw [sl_share] at q
    by_cases y : shM kd cs j = true
    · rw [if_pos y] at q; exact share1_ow q
    · rw [if_neg y] at q
      exact frame_sep R St1 (org x z) (by simpa using y) q m
  refine L2.for_it wk (fun i σ2 H2 => ∃ st Fs2 Fg2, SR K ah H0 σ2 H2 st Fs2 Fg2 ∧ StpS ah H s Fs Fg H2 st Fs2 Fg2 ∧ Kp Fa H1 H2 ∧ (∀ j u, sl st j = .ow u → ∀ x ∈ Fs2 j, x ∉ Fa) ∧
    loopL (fun v s => (bindTg t v s).bind fun s1 => exs F n b s1) (vs.drop i) st = some (fl, s')) ⟨_, Fs1, Fg1, Rs, Sts, .refl _ _, ap0, e3⟩ (fun i σ2 H2 _ ⟨st, Fs2, Fg2, _, _, kp, _⟩ => hGd H2 kp) ?_ ?_
  · rintro i x σ2 H2 H3 hlt ⟨st, Fs2, Fg2, R2, St2, kp, ap, el⟩ hy
    obtain ⟨same, d, Fx, hd, rx, hFx⟩ := hY i H2 x H3 hlt kp hy
    rw [List.drop_eq_getElem_cons hlt] at el
    have hd' : vs[i] = d := by
      have := List.getElem?_eq_getElem hlt
      rw [hd] at this; exact (Option.some.inj this).symm
    rw [hd'] at el
    simp only [loopL, Option.bind_eq_some_iff] at el
    obtain ⟨⟨f4, s4⟩, ⟨sb, eb, ex4⟩, el⟩ := el
    have R3 := R2.same same
    have lt : ∀ i ∈ t.slots, i < st.1.length := fun j hj => by rw [St2.len, ← R.len]; exact hi j hj
    have there2 : ∀ x ∈ Fa, ∃ o, H2 x = some o := fun x m => by
      obtain ⟨ws, q⟩ := there x m
      exact ⟨_, kp.1 x m _ q⟩
    refine bind_gT (vs := t.slots) (Fa := Fa ++ t.slots.flatMap Fs2) R3 eb rx (fun a m => ⟨nah a (hFx a m), List.mem_append_left _ (hFx a m), fun j u q z => ap j u q a z (hFx a m)⟩) (fun j hj => ⟨hj, lt j hj⟩)
      (fun j a hj m => List.mem_append_right _ (List.mem_flatMap.mpr ⟨j, hj, m⟩)) fun σ4 Fs4 R4 _ n4 _ => ?_
    have St4 : StpS ah H2 st Fs2 Fg2 H3 sb Fs4 Fg2 := (StpS.same same).trans (stpS_bind eb lt n4)
    have kp4 : Kp Fa H1 H3 := kp.trans (.of_same same)
    have ap4 := St4.apart there2 ap
    have there4 : ∀ x ∈ Fa, ∃ o, H3 x = some o := fun x m => by
      obtain ⟨o, q⟩ := there2 x m
      exact ⟨o, same x o q⟩
    refine ⟨ah, H0, n, sb, Fs4, Fg2, f4, s4, R4, ex4, ?_⟩
    cases f4 with
    | nx => exact fun σ5 H5 Fs5 Fg5 R5 St5 => ⟨s4, Fs5, Fg5, R5, (St2.trans St4).trans St5, kp4.trans (St5.kp nah ap4), St5.apart there4 ap4, el⟩
    | cnt => exact fun σ5 H5 Fs5 Fg5 R5 St5 => ⟨s4, Fs5, Fg5, R5, (St2.trans St4).trans St5, kp4.trans (St5.kp nah ap4), St5.apart there4 ap4, el⟩
    | brk =>
      cases el
      exact fun σ5 H5 Fs5 Fg5 R5 St5 => w σ5 H5 Fs5 Fg5 R5 ((St2.trans St4).trans St5)
    | ret y =>
      cases el
      have w' : Wish K ah H0 Dn H3 sb Fs4 Fg2 (.ret y) s4 := w.step (St2.trans St4)
      exact w'
  · rintro σ2 H2 ⟨st, Fs2, Fg2, R2, St2, kp, ap, el⟩
    rw [List.drop_length] at el
    simp only [loopL, Option.some.injEq, Prod.mk.injEq] at el
    obtain ⟨rfl, rfl⟩ := el
    exact w σ2 H2 Fs2 Fg2 R2 St2

/-! ### many names at once -/
def setAll (σ : L2.St) (is : List Nat) (us : List V) : L2.St := (is.zip us).foldl (fun σ p => σ.set p.1 (some p.2)) σ
theorem gNs_all {H : Hp} {Q : L2.St → Hp → Prop} : ∀ {is : List Nat} {us : List V} {σ : L2.St}, is.length = us.length → Q (setAll σ is us) H → gNs is us σ H Q
  | [], [], σ, _, q => ⟨rfl, q⟩
  | i :: is, u :: us, σ, hl, q => ⟨u, us, rfl, gNs_all (σ := σ.set i (some u)) (by simpa using hl) q⟩
  | [], _ :: _, _, hl, _ => by simp at hl
  | _ :: _, [], _, hl, _ => by simp at hl
theorem bind_par {ah : Option Addr} {H0 H : Hp} {Fg : List Addr} : ∀ {is : List Nat} {cs : List E} {ds : List D} {us : List V} {Gs : List (List Addr)} {σ : L2.St} {s : St} {Fs : Fp}, SR K ah H0 σ H s Fs Fg → is.length = ds.length → cs.length = ds.length → RepL K H us ds Gs → Gs.flatten.Nodup →
    (∀ a ∈ Gs.flatten, H0 a = none ∧ a ∉ Fg ∧ (∀ j, a ∉ Fs j) ∧ some a ≠ ah) → (∀ i ∈ is, i < s.1.length) →
    ∃ Fs2, SR K ah H0 (setAll σ is us) H ((is.zip (cs.zip ds)).foldl (fun s p => put s p.1 (if p.2.1.fresh p.2.2 then .ow p.2.2 else .sh p.2.2)) s) Fs2 Fg ∧ ∀ {Hs : Hp} {ss : St} {Fss : Fp} {Fgs : List Addr}, StpS ah Hs ss Fss Fgs H s Fs Fg → (∀ a ∈ Gs.flatten, Hs a = none ∨ ∃ j u, sl ss j = .ow u ∧ a ∈ Fss j) →
      StpS ah Hs ss Fss Fgs H ((is.zip (cs.zip ds)).foldl (fun s p => put s p.1 (if p.2.1.fresh p.2.2 then .ow p.2.2 else .sh p.2.2)) s) Fs2 Fg
  | [], cs, ds, us, Gs, σ, s, Fs, R, hl, hc, r, nd, hG, hi => ⟨Fs, by simpa [setAll] using R, fun St _ => by simpa using St⟩
  | i :: is, cs, [], us, Gs, σ, s, Fs, R, hl, hc, r, nd, hG, hi => by simp at hl
  | i :: is, [], d :: ds, us, Gs, σ, s, Fs, R, hl, hc, r, nd, hG, hi => by simp at hc
  | i :: is, c :: cs, d :: ds, us, Gs, σ, s, Fs, R, hl, hc, r, nd, hG, hi => by
    cases r with
    | @cons u us' x xs' G Gs' r1 r2 =>
      have hgi : ∀ a ∈ G, a ∈ (G :: Gs').flatten := fun a m => by simp [m]
      have hgr : ∀ a ∈ Gs'.flatten, a ∈ (G :: Gs').flatten := fun a m => by simp only [List.flatten_cons, List.mem_append]; exact .inr m
      have lt := hi i List.mem_cons_self
      rw [List.flatten_cons, List.nodup_append] at nd
      have R1 : SR K ah H0 (σ.set i (some u)) H (put s i (if c.fresh d then .ow d else .sh d)) (setFs Fs i G) Fg := by
        split
        · exact R.bindOw lt r1 (fun a m => (hG a (hgi a m)).2.2.2) nd.1 fun a m => ⟨(hG a (hgi a m)).1, (hG a (hgi a m)).2.1, fun j _ => (hG a (hgi a m)).2.2.1 j⟩
        · exact R.bindSh lt r1 (fun a m => (hG a (hgi a m)).2.2.2) fun a m j w _ _ => (hG a (hgi a m)).2.2.1 j
      have hG' : ∀ a ∈ Gs'.flatten, H0 a = none ∧ a ∉ Fg ∧ (∀ j, a ∉ setFs Fs i G j) ∧ some a ≠ ah := fun a m => ⟨(hG a (hgr a m)).1, (hG a (hgr a m)).2.1, fun j => by
        by_cases z : j = i
        · subst z; rw [setFs_same]; exact fun q => nd.2.2 a q a m rfl
        · rw [setFs_ne z]; exact (hG a (hgr a m)).2.2.1 j, (hG a (hgr a m)).2.2.2⟩
      obtain ⟨Fs2, R2, S2⟩ := bind_par (is := is) (cs := cs) (ds := ds) R1 (by simpa using hl) (by simpa using hc) r2 nd.2.1 hG' (fun l hl => by rw [put_len]; exact hi l (List.mem_cons_of_mem _ hl))
      refine ⟨Fs2, R2, fun {Hs ss Fss Fgs} St org => S2 ?_ fun a m => org a (hgr a m)⟩
      split
      · exact stpS_ow lt St fun a m => org a (hgi a m)
      · exact St.trans (stpS_sh lt)
theorem frl_of : ∀ {cs : List E} {ds : List D}, cs.length = ds.length → (cs.zip ds).all (fun p => p.1.fresh p.2 || lf p.2) = true → E.fresh.frl cs ds = true
  | [], [], _, _ => by simp [E.fresh.frl]
  | c :: cs, d :: ds, hl, h => by
    simp only [List.zip_cons_cons, List.all_cons, Bool.and_eq_true] at h
    unfold E.fresh.frl
    rw [frl_of (by simpa using hl) h.2, Bool.or_comm, h.1]
    rfl
  | [], _ :: _, hl, _ => by simp at hl
  | _ :: _, [], hl, _ => by simp at hl
theorem tIS_par {is : List Nat} {cs : List E} {Dn : Ends} {σ : L2.St} {H : Hp} (hi : ∀ i ∈ is, i < σ.length) (h : tIS K F (.par is cs) Dn σ H) : tIA K F cs σ H fun us H1 => is.length = us.length ∧ us.length = cs.length ∧ ∀ H2, (∀ a o, H1 a = some o → H2 a = some o) → Dn.nx (setAll σ is us) H2 := by
  obtain ⟨ah, H0, n, s, Fs, Fg, fl, s', R, e, w⟩ := h
  simp only [ex, Option.bind_eq_some_iff] at e
  obtain ⟨⟨ds, s1⟩, e1, e⟩ := e
  split at e
  case isFalse => cases e
  rename_i hc
  obtain ⟨hl, ha⟩ := hc
  cases e
  have hcl := evs_len e1
  refine ⟨ah, H0, s, Fs, Fg, ds, s1, R, e1, fun us H1 Fs1 Fg1 Fxs P hP R1 St1 rps rss => ?_⟩
  obtain ⟨nd, fr⟩ := rss.fresh (frl_of hcl ha)
  obtain ⟨Fs2, R2, S2⟩ := bind_par (cs := cs) (is := is) R1 hl hcl rps nd (fun a m => ⟨(fr a m).1, (fr a m).2.1, (fr a m).2.2.1, rss.noah a m⟩) fun i m => by rw [← R1.len]; exact hi i m
  have S3 := S2 St1.toS fun a m => by
    rcases (fr a m).2.2.2 with z | ⟨j, hj, z⟩
    · exact .inl z
    · obtain ⟨u, q⟩ := St1.pow j hj
      exact .inr ⟨j, u, q, z⟩
  exact ⟨by rw [rps.len.1]; exact hl, by rw [rps.len.1, hcl], fun H2 same => w _ H2 Fs2 Fg1 (R2.same same) (S3.trans (.same same))⟩
/-- names = e, a tuple -/
theorem tIS_asgT {is : List Nat} {c : E} {Dn : Ends} {σ : L2.St} {H : Hp} (hi : ∀ i ∈ is, i < σ.length) (h : tIS K F (.asgT is c) Dn σ H) : L2.tAsg (tIE K F c) (gT K (.tp is)) Dn σ H := by
  obtain ⟨ah, H0, n, s, Fs, Fg, fl, s', R, e, w⟩ := h
  simp only [ex, Option.bind_eq_some_iff] at e
  obtain ⟨⟨d, s1⟩, e1, e⟩ := e
  split at e
  case h_2 => cases e
  rename_i xs q
  dsimp only at q; subst q
  split at e
  case isFalse => cases e
  rename_i hc
  obtain ⟨hl, hf⟩ := hc
  cases e
  refine tIE_of R e1 fun v H1 Fs1 Fg1 Fx P hP R1 St1 rp rs => ?_
  have sep : ∀ a ∈ Fx, ∀ j, a ∉ Fs1 j := fun a m => by
    rw [Bool.or_eq_true] at hf
    rcases hf with hf | hf
    · exact ((rs.fresh hf).2 a m).2.2.1
    · have := rp.lf_nil (by unfold lf; exact hf)
      subst this; cases m
  have eb : bindTg (.tp is) (.tuple xs) s1 = some ((is.zip xs).foldl (fun s p => put s p.1 (.sh p.2)) s1) := by simp only [bindTg]; rw [if_pos hl]
  have lt : ∀ i ∈ (Tg.tp is).slots, i < s1.1.length := fun i m => by rw [← R1.len]; exact hi i m
  refine bind_gT (vs := (Tg.tp is).slots) (Fa := Fx ++ (Tg.tp is).slots.flatMap Fs1) R1 eb rp (fun a m => ⟨rs.noah a m, List.mem_append_left _ m, fun j u _ => sep a m j⟩) (fun j hj => ⟨hj, lt j hj⟩)
    (fun j a hj m => List.mem_append_right _ (List.mem_flatMap.mpr ⟨j, hj, m⟩)) fun σ4 Fs4 R4 _ n4 _ => ?_
  exact w σ4 H1 Fs4 Fg1 R4 (St1.toS.trans (stpS_bind eb lt n4))
end Iv
set_option Elab.async false
set_option linter.all false
set_option maxRecDepth 100000
set_option maxHeartbeats 2000000
/-! IvSound18: lists in lists; extend; name[ix] op= e. -/
namespace Iv
open PySem PySem.Spec PyProof.Rows
open L2 (V Hp HO SqL SqT upd upd_same upd_ne ne_of_none VK TE TA TT TI TS TG Cx Inv RelV Vals PE PT PA PS PSs PW PI PG PGs PO PTs OpR UnR CallR IxR SlR Vis Gl FnOk Room Binds CX0 Sp XK tTest It Walk wipe BlkOk Ends)

variable {K : PySem.W.Frag} {F : Fns} {k : Nat}

theorem flat_at : ∀ {Gs : List (List Addr)} {j : Nat} {G : List Addr}, Gs[j]? = some G → ∀ a ∈ G, a ∈ Gs.flatten
  | [], _, _, h, _, _ => by simp at h
  | G :: Gs, 0, _, h, a, m => by
    simp at h; subst h
    simp [m]
  | G :: Gs, j + 1, _, h, a, m => by
    rw [List.flatten_cons]
    exact List.mem_append_right _ (flat_at (Gs := Gs) (j := j) (by simpa using h) a m)
theorem nodup_at : ∀ {Gs : List (List Addr)} {j : Nat} {G : List Addr}, Gs[j]? = some G → Gs.flatten.Nodup → G.Nodup
  | [], _, _, h, _ => by simp at h
  | g :: gs, 0, _, h, n => by
    simp at h; subst h
    rw [List.flatten_cons, List.nodup_append] at n
    exact n.1
  | g :: gs, j + 1, _, h, n => by
    rw [List.flatten_cons, List.nodup_append] at n
    exact nodup_at (Gs := gs) (j := j) (by simpa using h) n.2.1
theorem nodup_set1 {G G' : List Addr} (h1 : G'.Nodup) (h2 : ∀ b ∈ G', b ∈ G) : ∀ {Gs : List (List Addr)} {j : Nat}, Gs[j]? = some G → Gs.flatten.Nodup → (Gs.set j G').flatten.Nodup
  | [], _, h, _ => by simp at h
  | g :: gs, 0, h, n => by
    simp at h; subst h
    rw [List.flatten_cons, List.nodup_append] at n
    rw [List.set_cons_zero, List.flatten_cons, List.nodup_append]
    exact ⟨h1, n.2.1, fun x mx y my e => n.2.2 x (h2 x mx) y my e⟩
  | g :: gs, j + 1, h, n => by
    rw [List.flatten_cons, List.nodup_append] at n
    have h' : gs[j]? = some G := by simpa using h
    rw [List.set_cons_succ, List.flatten_cons, List.nodup_append]
    refine ⟨n.1, nodup_set1 h1 h2 h' n.2.1, fun x mx y my e => ?_⟩
    rcases flat_set_mem my with z | z
    · exact n.2.2 x mx y (flat_at h' y (h2 y z)) e
    · exact n.2.2 x mx y z e
/-- one of its parts is changed, in its own cells -/
theorem RepL.upd1 {H : Hp} {l : Addr} {o : HO} {zs : List V} {u : V} {d' : D} {G' : List Addr} (hl : H l = some (.lst zs)) (hr : Rep K (upd H l o) u d' G') :
    ∀ {vs : List V} {ds : List D} {Gs : List (List Addr)} {j : Nat}, RepL K H vs ds Gs → Gs.flatten.Nodup → vs[j]? = some u → (∀ G, Gs[j]? = some G → l ∈ G) → RepL K (upd H l o) vs (ds.set j d') (Gs.set j G')
  | _, _, _, j, .nil, _, e, _ => by simp at e
  | _, _, _, 0, .cons (F := G) (Fs := Gs) r1 r2, n, e, hG => by
    simp at e; subst e
    rw [List.flatten_cons, List.nodup_append] at n
    rw [List.set_cons_zero, List.set_cons_zero]
    exact .cons hr (r2.kp (kp_updL hl fun m => n.2.2 l (hG _ (by simp)) l m rfl))
  | _, _, _, j + 1, .cons (F := G) (Fs := Gs) r1 r2, n, e, hG => by
    rw [List.flatten_cons, List.nodup_append] at n
    rw [List.set_cons_succ, List.set_cons_succ]
    have e' := e
    simp only [List.getElem?_cons_succ] at e'
    refine .cons (r1.kp (kp_updL hl fun m => ?_)) (RepL.upd1 hl hr r2 n.2.1 e' fun G h => hG G (by simpa using h))
    have hlt : j < Gs.length := by
      rw [r2.len.2, ← r2.len.1]; exact (List.getElem?_eq_some_iff.mp e').1
    have hj := List.getElem?_eq_getElem hlt
    exact n.2.2 l m l (flat_at hj l (hG _ (by simpa using hj))) rfl
/-- a list within a list of a name's own -/
theorem SR.deep {ah : Option Addr} {H0 H : Hp} {σ : L2.St} {s : St} {Fs : Fp} {Fg : List Addr} {i j : Nat} {xs ys : List D} (R : SR K ah H0 σ H s Fs Fg) (ho : sl s i = .ow (.list xs)) (hx : xs[j]? = some (.list ys)) :
    ∃ l vs l' zs Gs2, σ[i]? = some (some (.ref l)) ∧ H l = some (.lst vs) ∧ vs.length = xs.length ∧ vs[j]? = some (.ref l') ∧ H l' = some (.lst zs) ∧ RepL K H zs ys Gs2 ∧ (l' :: Gs2.flatten).Nodup ∧ (∀ a ∈ l' :: Gs2.flatten, a ∈ Fs i) ∧
      ∀ (zs' : List V) (ys' : List D) (Gs2' : List (List Addr)), RepL K H zs' ys' Gs2' → Gs2'.flatten.Nodup → (∀ a ∈ Gs2'.flatten, a ∈ Gs2.flatten) →
        ∃ Fs2, SR K ah H0 σ (upd H l' (.lst zs')) (put s i (.ow (.list (xs.set j (.list ys'))))) Fs2 Fg ∧ ∀ {Hs : Hp} {ss : St} {Fss : Fp} {Fgs : List Addr}, StpS ah Hs ss Fss Fgs H s Fs Fg → StpS ah Hs ss Fss Fgs (upd H l' (.lst zs')) (put s i (.ow (.list (xs.set j (.list ys'))))) Fs2 Fg := by
  obtain ⟨l, vs, Gs, es, hl, rl, hF, nd⟩ := R.ownL ho
  obtain ⟨u, G, hv, hG, ru⟩ := rl.get hx
  cases ru with
  | @list a zs _ Gs2 hl' r2 =>
    have mG := flat_at hG
    obtain ⟨nl, nd'⟩ := List.nodup_cons.mp nd
    have inF : ∀ a' ∈ a :: Gs2.flatten, a' ∈ Fs i := fun a' m => by rw [hF]; exact List.mem_cons_of_mem _ (mG a' m)
    have ndG : (a :: Gs2.flatten).Nodup := nodup_at hG nd'
    refine ⟨l, vs, a, zs, Gs2, es, hl, rl.len.1, hv, hl', r2, ndG, inF, fun zs' ys' Gs2' r' n' sub => ?_⟩
    have ndG' := List.nodup_cons.mp ndG
    have ne : l ≠ a := fun z => nl (z ▸ mG a (by simp))
    have hk : ∀ b o, H b = some o → b ∉ Fs i → upd H a (.lst zs') b = some o := fun b o e m => by
      rw [upd_ne (show b ≠ a by intro z; subst z; exact m (inF _ (by simp)))]; exact e
    have r1 : Rep K (upd H a (.lst zs')) (.ref a) (.list ys') (a :: Gs2'.flatten) := .list upd_same (r'.kp (kp_updL hl' fun z => ndG'.1 (sub a z)))
    have rall := RepL.upd1 hl' r1 rl nd' hv fun G' h => by rw [hG] at h; cases h; simp
    have rep : Rep K (upd H a (.lst zs')) (.ref l) (.list (xs.set j (.list ys'))) (l :: (Gs.set j (a :: Gs2'.flatten)).flatten) := .list (by rw [upd_ne ne]; exact hl) rall
    have hsub : ∀ b ∈ (Gs.set j (a :: Gs2'.flatten)).flatten, b ∈ Gs.flatten := fun b m => by
      rcases flat_set_mem m with z | z
      · rcases List.mem_cons.mp z with z | z
        · exact mG b (by simp [z])
        · exact mG b (List.mem_cons_of_mem _ (sub b z))
      · exact z
    have hnd : (Gs.set j (a :: Gs2'.flatten)).flatten.Nodup := by
      have h1 : (a :: Gs2'.flatten).Nodup := List.nodup_cons.mpr ⟨fun z => ndG'.1 (sub a z), n'⟩
      have h2 : ∀ b ∈ a :: Gs2'.flatten, b ∈ a :: Gs2.flatten := fun b m => by
        rcases List.mem_cons.mp m with z | z
        · simp [z]
        · exact List.mem_cons_of_mem _ (sub b z)
      exact nodup_set1 h1 h2 hG nd'
    have ndall : (l :: (Gs.set j (a :: Gs2'.flatten)).flatten).Nodup := List.nodup_cons.mpr ⟨fun z => nl (hsub l z), hnd⟩
    have inall : ∀ b ∈ l :: (Gs.set j (a :: Gs2'.flatten)).flatten, b ∈ Fs i := fun b m => by
      rw [hF]
      rcases List.mem_cons.mp m with z | z
      · simp [z]
      · exact List.mem_cons_of_mem _ (hsub b z)
    refine ⟨_, R.write ho es hk rep ndall fun b m => .inl (inall b m), fun {Hs ss Fss Fgs} St => ⟨fun b o e n f => ?_, fun b us e => ?_, fun m w q b mb => ?_, St.fg, put_len.trans St.len, fun b e => St.there b (updL_there hl' b e)⟩⟩
    · have e1 := St.ext b o e n f
      refine hk b o e1 fun m => ?_
      rcases St.own i _ ho b m with q | ⟨j', u', q1, q2⟩
      · rw [q] at e; cases e
      · exact f j' u' q1 q2
    · have e1 := St.tup b us e
      rw [upd_ne (show b ≠ a by intro z; subst z; rw [hl'] at e1; cases e1)]; exact e1
    · rw [sl_put (sl_lt ho)] at q
      by_cases z : m = i
      · subst z
        rw [setFs_same] at mb
        exact St.own m _ ho b (inall b mb)
      · rw [if_neg z] at q; rw [setFs_ne z] at mb; exact St.own m w q b mb
/-- nothing is popped: the names stand -/
theorem Stp.still {ah : Option Addr} {P : List Nat} {H H' : Hp} {s s' : St} {Fs Fs' : Fp} {Fg Fg' : List Addr} (a : Stp ah P H s Fs Fg H' s' Fs' Fg') {q : List Nat} (hP : ∀ i ∈ P, i ∈ q) (hq : q = []) (i : Nat) : Fs' i = Fs i ∧ sl s' i = sl s i :=
  a.fs i fun m => by have := hP i m; rw [hq] at this; cases this
theorem flat_nil_set {Gs : List (List Addr)} {j : Nat} : ∀ a ∈ (Gs.set j []).flatten, a ∈ Gs.flatten := fun a m => by
  rcases flat_set_mem m with z | z
  · cases z
  · exact z
theorem hasL_own {ah : Option Addr} {H0 H : Hp} {σ : L2.St} {s : St} {Fs : Fp} {Fg : List Addr} {i : Nat} (R : SR K ah H0 σ H s Fs Fg) (h : hasL s i = true) : ∃ y, σ[i]? = some (some y) := by
  obtain ⟨l, vs, es, _⟩ := hasL_ty R h
  exact ⟨_, es⟩
theorem l2_at {xs : List V} {i : Int} {j : Nat} {v : V} (h : ixN xs.length i = some j) (e : xs[j]? = some v) : L2.atI xs i = some v := by
  unfold L2.atI
  rw [l2_ixN h]; exact e
/-- name[ix][jx] = e -/
theorem tIS_setII {i : Nat} {ix jx c : E} {Dn : Ends} {σ : L2.St} {H : Hp} (hq : jx.popL = []) (h : tIS K F (.setII i ix jx c) Dn σ H) : L2.tAsg (tIE K F c) (L2.gSub (L2.tOp (L2.rIxL K) (L2.tVar i) (tIE K F ix)) (tIE K F jx) L2.rSetL) Dn σ H := by
  obtain ⟨ah, H0, n, s, Fs, Fg, fl, s', R, e, w⟩ := h
  simp only [ex, Option.bind_eq_some_iff] at e
  obtain ⟨⟨d, s1⟩, e1, e⟩ := e
  split at e
  case isFalse => cases e
  rename_i hc
  rw [Bool.and_eq_true] at hc
  obtain ⟨hlf, hL⟩ := hc
  rw [Option.bind_eq_some_iff] at e
  obtain ⟨⟨dk, s2⟩, e2, e⟩ := e
  split at e
  case h_2 => cases e
  rename_i kk xs q1 q2
  dsimp only at q1 q2; subst q1
  rw [Option.bind_eq_some_iff] at e
  obtain ⟨j, e3, e⟩ := e
  split at e
  case h_2 => cases e
  rename_i ys hx
  rw [Option.bind_eq_some_iff] at e
  obtain ⟨⟨dl, s3⟩, e4, e⟩ := e
  split at e
  case h_2 => cases e
  rename_i ll xs3 q3 q4
  dsimp only at q3 q4; subst q3
  simp only [Option.map_eq_some_iff, Prod.mk.injEq] at e
  obtain ⟨m, e5, rfl, rfl⟩ := e
  refine tIE_of R e1 fun v H1 Fs1 Fg1 Fx P hP R1 St1 rp rs => ?_
  have hFx := rp.lf_nil hlf
  subst hFx
  obtain ⟨y, ey⟩ := hasL_own R1 hL
  refine ⟨y, ey, tIE_of R1 e2 fun u H2 Fs2 Fg2 Fz P2 hP2 R2 St2 ru rsu => ?_⟩
  obtain ⟨rfl, _⟩ := rep_int ru
  have ho2 := own_sl q2
  obtain ⟨l, vs, l', zs, Gs2, es, hl, hlen, hv, hl', r2, nd2, in2, _⟩ := R2.deep ho2 hx
  rw [ey] at es; cases es
  refine ⟨l, vs, kk, _, rfl, rfl, SqL.of' hl, l2_at (by rw [hlen]; exact e3) hv, tIE_of R2 e4 fun u3 H3 Fs3 Fg3 Fz3 P3 hP3 R3 St3 ru3 rsu3 => ?_⟩
  obtain ⟨rfl, _⟩ := rep_int ru3
  have st := St3.still hP3 hq i
  have ho3 : sl s3 i = .ow (.list xs) := st.2.trans ho2
  obtain ⟨l3, vs3, l3', zs3, Gs3, es3, hl3, hlen3, hv3, hl3', r3, nd3, in3, go⟩ := R3.deep ho3 hx
  rw [ey] at es3; cases es3
  have kp : ∀ a ∈ Fs2 i, ∀ o, H2 a = some o → H3 a = some o := fun a ma o ea => St3.ext a o ea (R2.noah i a ma) fun p hp => by have := hP3 p hp; rw [hq] at this; cases this
  have eqv : vs3 = vs := by
    obtain ⟨lw, vw, Gw, esw, hlw, _, hFw, _⟩ := R2.ownL ho2
    rw [ey] at esw; cases esw
    have := kp l (by rw [hFw]; simp) _ hl
    rw [hl3] at this; cases this; rfl
  subst eqv
  rw [hv] at hv3; cases hv3
  refine ⟨l', zs3, ll, m, rfl, rfl, hl3', by rw [r3.len.1]; exact l2_ixN e5, ?_⟩
  have rv : Rep K H3 v d [] := (rp.kp (sealed_kp St2 fun _ m => (nomatch m))).kp (sealed_kp St3 fun _ m => (nomatch m))
  obtain ⟨Fs4, R4, S4⟩ := go (zs3.set m v) (ys.set m d) (Gs3.set m []) (RepL.set rv m r3) (flat_set_nodup (List.nodup_cons.mp nd3).2 .nil fun _ m => (nomatch m)) flat_nil_set
  exact w σ _ Fs4 Fg3 R4 (S4 ((St1.toS.trans St2.toS).trans St3.toS))
/-- name[ix].append(e) -/
theorem tIS_appendI {i : Nat} {ix c : E} {Dn : Ends} {σ : L2.St} {H : Hp} (hq : c.popL = []) (h : tIS K F (.appendI i ix c) Dn σ H) : L2.tDrop (L2.tBM K "list" L2.rAppend (L2.tOp (L2.rIxL K) (L2.tVar i) (tIE K F ix)) (L2.tCons (tIE K F c) L2.tNil)) Dn σ H := by
  obtain ⟨ah, H0, n, s, Fs, Fg, fl, s', R, e, w⟩ := h
  simp only [ex] at e
  split at e
  case isFalse => cases e
  rename_i hL
  rw [Option.bind_eq_some_iff] at e
  obtain ⟨⟨dk, s2⟩, e2, e⟩ := e
  split at e
  case h_2 => cases e
  rename_i kk xs q1 q2
  dsimp only at q1 q2; subst q1
  rw [Option.bind_eq_some_iff] at e
  obtain ⟨j, e3, e⟩ := e
  split at e
  case h_2 => cases e
  rename_i ys hx
  rw [Option.bind_eq_some_iff] at e
  obtain ⟨⟨d, s3⟩, e4, e⟩ := e
  split at e
  case isFalse => cases e
  rename_i hc
  cases e
  rw [Bool.and_eq_true, decide_eq_true_eq] at hc
  obtain ⟨hlf, hlt⟩ := hc
  obtain ⟨y, ey⟩ := hasL_own R hL
  refine ⟨y, ey, tIE_of R e2 fun u H2 Fs2 Fg2 Fz P2 hP2 R2 St2 ru rsu => ?_⟩
  obtain ⟨rfl, _⟩ := rep_int ru
  have ho2 := own_sl q2
  obtain ⟨l, vs, l', zs, Gs2, es, hl, hlen, hv, hl', r2, nd2, in2, _⟩ := R2.deep ho2 hx
  rw [ey] at es; cases es
  refine ⟨l, vs, kk, _, rfl, rfl, SqL.of' hl, l2_at (by rw [hlen]; exact e3) hv, .inl ⟨rfl, zs, SqL.of' hl'⟩, tIE_of R2 e4 fun v H3 Fs3 Fg3 Fz3 P3 hP3 R3 St3 rp rs3 => ?_⟩
  have hFx := rp.lf_nil hlf
  subst hFx
  have st := St3.still hP3 hq i
  have ho3 : sl s3 i = .ow (.list xs) := st.2.trans ho2
  obtain ⟨l3, vs3, l3', zs3, Gs3, es3, hl3, hlen3, hv3, hl3', r3, nd3, in3, go⟩ := R3.deep ho3 hx
  rw [ey] at es3; cases es3
  have kp : ∀ a ∈ Fs2 i, ∀ o, H2 a = some o → H3 a = some o := fun a ma o ea => St3.ext a o ea (R2.noah i a ma) fun p hp => by have := hP3 p hp; rw [hq] at this; cases this
  have eqv : vs3 = vs := by
    obtain ⟨lw, vw, Gw, esw, hlw, _, hFw, _⟩ := R2.ownL ho2
    rw [ey] at esw; cases esw
    have := kp l (by rw [hFw]; simp) _ hl
    rw [hl3] at this; cases this; rfl
  subst eqv
  rw [hv] at hv3; cases hv3
  refine ⟨l', zs3, v, rfl, rfl, hl3', by rw [r3.len.1, ← line_eq]; exact hlt, ?_⟩
  obtain ⟨Fs4, R4, S4⟩ := go (zs3 ++ [v]) (ys ++ [d]) (Gs3 ++ [[]]) (r3.append (.cons rp .nil)) (by simpa using (List.nodup_cons.mp nd3).2) (fun a m => by simpa using m)
  exact w σ _ Fs4 Fg3 R4 (S4 (St2.toS.trans St3.toS))
/-- name.extend(e) -/
theorem tIS_extend {i : Nat} {c : E} {Dn : Ends} {σ : L2.St} {H : Hp} (h : tIS K F (.extend i c) Dn σ H) : L2.tDrop (L2.tBM K "list" L2.rExtend (L2.tVar i) (L2.tCons (tIE K F c) L2.tNil)) Dn σ H := by
  obtain ⟨ah, H0, n, s, Fs, Fg, fl, s', R, e, w⟩ := h
  simp only [ex] at e
  split at e
  case isFalse => cases e
  rename_i hL
  simp only [Option.bind_eq_some_iff] at e
  obtain ⟨⟨d, s2⟩, e1, e⟩ := e
  split at e
  case h_2 => cases e
  rename_i ys xs q1 q2
  dsimp only at q1 q2; subst q1
  split at e
  case isFalse => cases e
  rename_i hc
  cases e
  obtain ⟨hlen, hfr⟩ := hc
  have ho2 := own_sl q2
  obtain ⟨l, vs, es, hl⟩ := hasL_ty R hL
  refine ⟨_, es, .inl ⟨rfl, vs, SqL.of' hl⟩, tIE_of R e1 fun v H2 Fs2 Fg2 Fx P hP R2 St2 rp rs => ?_⟩
  obtain ⟨l', us, Gs, es', hl', rl, hF, nd⟩ := R2.ownL ho2
  rw [es] at es'; cases es'
  cases rp with
  | @list b zs _ Gy hb ry =>
  have nd' := List.nodup_cons.mp nd
  have org : Gy.flatten.Nodup ∧ ∀ a ∈ Gy.flatten, (H0 a = none ∧ a ∉ Fg2 ∧ (∀ j, a ∉ Fs2 j) ∧ some a ≠ ah) ∧ (H a = none ∨ ∃ j u, sl s j = .ow u ∧ a ∈ Fs j) := by
    rw [Bool.or_eq_true] at hfr
    rcases hfr with hf | hf
    · obtain ⟨n1, f1⟩ := rs.fresh hf
      refine ⟨(List.nodup_cons.mp n1).2, fun a m => ?_⟩
      have f := f1 a (List.mem_cons_of_mem _ m)
      refine ⟨⟨f.1, f.2.1, f.2.2.1, rs.noah a (List.mem_cons_of_mem _ m)⟩, ?_⟩
      rcases f.2.2.2 with z | ⟨j, hj, z⟩
      · exact .inl z
      · obtain ⟨u, q⟩ := St2.pow j hj
        exact .inr ⟨j, u, q, z⟩
    · rw [ry.lfs_nil hf]
      exact ⟨.nil, fun _ m => (nomatch m)⟩
  refine ⟨l, b, us, zs, rfl, rfl, hl', hb, by rw [rl.len.1, ry.len.1, ← line_eq]; exact hlen, ?_⟩
  have W := own_write (Fy := Gy.flatten) (ws := us ++ zs) (ys := xs ++ ys) (Gs := Gs ++ Gy) R2 ho2 es ⟨us, hl'⟩ (by rw [hF]; simp) (rl.append ry) (fun z => ?_) ?_ (fun a m => ?_) (fun a m => (org.2 a m).1)
  · exact w σ _ _ _ W.1 (W.2 St2.toS fun a m => (org.2 a m).2)
  · rw [List.flatten_append, List.mem_append] at z
    rcases z with z | z
    · exact nd'.1 z
    · exact (org.2 l z).1.2.2.1 i (by rw [hF]; simp)
  · rw [List.flatten_append]
    refine List.nodup_append.mpr ⟨nd'.2, org.1, fun a m b m' z => ?_⟩
    subst z
    exact (org.2 a m').1.2.2.1 i (by rw [hF]; simp [m])
  · rw [List.flatten_append, List.mem_append] at m
    rcases m with z | z
    · exact .inl (by rw [hF]; simp [z])
    · exact .inr z
/-- name[ix] op= e, of ints -/
theorem tIS_augI {i : Nat} {ix c : E} {o : Op} {f : Int → Int → Int} {Dn : Ends} {σ : L2.St} {H : Hp} (hf : ∀ x y v, opS o [.int x, .int y] = some v → v = .int (f x y)) (hq : c.popL = []) (h : tIS K F (.augI i ix o c) Dn σ H) :
    L2.tAugS (L2.tVar i) (tIE K F ix) (tIE K F c) (L2.rIxL K) (L2.ipI f) L2.rSetL Dn σ H := by
  obtain ⟨ah, H0, n, s, Fs, Fg, fl, s', R, e, w⟩ := h
  simp only [ex] at e
  split at e
  case isFalse => cases e
  rename_i hL
  rw [Option.bind_eq_some_iff] at e
  obtain ⟨⟨dk, s2⟩, e2, e⟩ := e
  split at e
  case h_2 => cases e
  rename_i kk xs q1 q2
  dsimp only at q1 q2; subst q1
  rw [Option.bind_eq_some_iff] at e
  obtain ⟨j, e3, e⟩ := e
  split at e
  case h_2 => cases e
  rename_i x hx
  rw [Option.bind_eq_some_iff] at e
  obtain ⟨⟨d, s3⟩, e4, e⟩ := e
  split at e
  case h_2 => cases e
  rename_i y q5
  dsimp only at q5; subst q5
  simp only [Option.map_eq_some_iff, Prod.mk.injEq] at e
  obtain ⟨v, e5, rfl, rfl⟩ := e
  have := hf _ _ _ e5; subst this
  obtain ⟨y0, ey⟩ := hasL_own R hL
  refine ⟨y0, ey, tIE_of R e2 fun u H2 Fs2 Fg2 Fz P2 hP2 R2 St2 ru rsu => ?_⟩
  obtain ⟨rfl, _⟩ := rep_int ru
  have ho2 := own_sl q2
  obtain ⟨l, vs, Gs, es, hl, rl, hF, nd⟩ := R2.ownL ho2
  rw [ey] at es; cases es
  obtain ⟨vx, Gx, hv, hG, rx⟩ := rl.get hx
  obtain ⟨rfl, _⟩ := rep_int rx
  refine ⟨l, vs, kk, _, rfl, rfl, SqL.of' hl, l2_at (by rw [rl.len.1]; exact e3) hv, tIE_of R2 e4 fun v3 H3 Fs3 Fg3 Fz3 P3 hP3 R3 St3 rp rs3 => ?_⟩
  obtain ⟨rfl, _⟩ := rep_int rp
  have st := St3.still hP3 hq i
  have ho3 : sl s3 i = .ow (.list xs) := st.2.trans ho2
  obtain ⟨l3, vs3, Gs3, es3, hl3, rl3, hF3, nd3⟩ := R3.ownL ho3
  rw [ey] at es3; cases es3
  have nd' := List.nodup_cons.mp nd3
  refine ⟨x, y, rfl, rfl, l, vs3, kk, j, rfl, rfl, hl3, by rw [rl3.len.1]; exact l2_ixN e3, ?_⟩
  have W := own_write (Fy := []) (ws := vs3.set j (.int (f x y))) (ys := xs.set j (.int (f x y))) (Gs := Gs3.set j []) R3 ho3 ey ⟨vs3, hl3⟩ (by rw [hF3]; simp) (RepL.set (.int _) j rl3) (fun z => nd'.1 (flat_nil_set _ z)) (flat_set_nodup nd'.2 .nil fun _ m => (nomatch m))
    (fun a m => .inl (by rw [hF3]; exact List.mem_cons_of_mem _ (flat_nil_set a m))) fun _ m => (nomatch m)
  exact w σ _ _ _ W.1 (W.2 (St2.toS.trans St3.toS) fun _ m => (nomatch m))
end Iv
set_option Elab.async false
set_option linter.all false
set_option maxRecDepth 100000
set_option maxHeartbeats 2000000
/-! IvSound19: a statement's text read (cS); what is read does what ex says. -/
namespace Iv
open PySem PySem.Spec PyProof.Rows
open L2 (V Hp HO SqL SqT upd upd_same upd_ne ne_of_none VK TE TA TT TI TS TG Cx Inv RelV Vals PE PT PA PS PSs PW PI PG PGs PO PTs OpR UnR CallR IxR SlR Vis Gl FnOk Room Binds CX0 Sp XK tTest It Walk wipe BlkOk Ends)

/-- a def's body as a context -/
structure CtxD (X : Cx) (γ : Gam) (F : Fns) (k : Nat) : Prop extends Ctx X γ F k where
  names : X.env.scope.names = γ.sc
  kind : X.env.scope.kind = .function
  own : PassesOwn (model X.prog X.w) X.A X.env X.xe
variable {F : Fns} {k : Nat} {X : Cx} {γ : Gam}
theorem CtxD.block (C : CtxD X γ F k) : X.env.blockKind = .function := by
  unfold PySem.Env.blockKind
  rw [C.kind]; rfl
theorem CtxD.kindOf (C : CtxD X γ F k) (x : Str) : X.env.kindOf x = γ.sc.lookup x := by
  unfold PySem.Env.kindOf
  rw [C.names]

def cX (n : Nat) (γ : Gam) (e : Expr) : Option E := if plainE e then (cE n γ e).bind fun c => if c.wf && (!isVarE c || isNameE e) then some c else none else none
def cN (n : Nat) (γ : Gam) (e : Expr) : Option E := if plainE e then (cE n γ e).bind fun c => if c.wf then some c else none else none
theorem cX_ok (C : Ctx X γ F k) {n : Nat} {e : Expr} {c : E} (h : cX n γ e = some c) : plainE e = true ∧ cE n γ e = some c ∧ c.wf = true ∧ PE X e (tX X.K F c) := by
  unfold cX at h
  split at h
  case isFalse => cases h
  rename_i hp
  rw [Option.bind_eq_some_iff] at h
  obtain ⟨c', h1, h2⟩ := h
  split at h2
  case isFalse => cases h2
  rename_i hc
  cases h2
  rw [Bool.and_eq_true] at hc
  exact ⟨hp, h1, hc.1, pe_tX C h1 hc.1 hc.2⟩
theorem cN_ok (C : Ctx X γ F k) {n : Nat} {e : Expr} {c : E} (h : cN n γ e = some c) : plainE e = true ∧ cE n γ e = some c ∧ c.wf = true ∧ Good X F e c := by
  unfold cN at h
  split at h
  case isFalse => cases h
  rename_i hp
  rw [Option.bind_eq_some_iff] at h
  obtain ⟨c', h1, h2⟩ := h
  split at h2
  case isFalse => cases h2
  rename_i hc
  cases h2
  exact ⟨hp, h1, hc, good_all n X γ C e c h1 hc⟩
/-! ### name = e -/
def isComp : Expr → Bool
  | .ListComp _ _ _ _ => true
  | .SetComp _ _ _ _ => true
  | .DictComp _ _ _ _ _ => true
  | _ => false
def compScope : Expr → Option Scope
  | .ListComp _ _ s _ => some s
  | .SetComp _ _ s _ => some s
  | .DictComp _ _ _ s _ => some s
  | _ => none
def swapB (γ : Gam) (x : Str) (p : Pos) (e : Expr) : Bool := match compScope e with
  | none => false
  | some s => γ.sc.lookup x == some .local && p.line == e.pos.line && !(s.names.any fun (n, k) => n == x && (k == .local || k == .cell))
theorem swap_ok (C : CtxD X γ F k) {x : Str} {p : Pos} {e : Expr} {l : Nat} : swapsWith e (some (.Name x p)) l X.env = pure (swapB γ x p e) := by
  unfold swapB swapsWith
  cases e <;> first | rfl | skip
  all_goals
    simp only [compScope]
    rw [C.block, C.kindOf]
    rfl
theorem swap_tg {tg e : Expr} {l : Nat} {env : PySem.Env} (h : isNameE tg = false) : swapsWithSole [tg] e l env = pure false := by
  show swapsWith e (some tg) l env = pure false
  unfold swapsWith
  cases tg <;> first | (simp [isNameE] at h; done) | (cases e <;> rfl)
def cSet (n : Nat) (γ : Gam) (x : Str) (e : Expr) : Option S := (γ.stk x).bind fun i => (cX n γ e).map fun c => .asg i c
theorem ix_lt (C : Ctx X γ F k) {x : Str} {i : Nat} (h : γ.stk x = some i) : i < X.N.length := (List.getElem?_eq_some_iff.mp (stk_spec C h).1).1
theorem ok_set (C : CtxD X γ F k) {n : Nat} {x : Str} {p pos : Pos} {e : Expr} {c : S} (h : cSet n γ x e = some c) : PS X (.Assign [.Name x p] e pos) (tIS X.K F c) := by
  unfold cSet at h
  rw [Option.bind_eq_some_iff] at h
  obtain ⟨i, h1, h2⟩ := h
  rw [Option.map_eq_some_iff] at h2
  obtain ⟨c, h2, rfl⟩ := h2
  obtain ⟨hp, hc, hw, he⟩ := cX_ok C.toCtx h2
  obtain ⟨s1, s2, s3⟩ := stk_spec C.toCtx h1
  have lt := ix_lt C.toCtx h1
  by_cases hb : swapB γ x p e = true
  · have hsw := swap_ok (p := p) (e := e) (x := x) (l := pos.line) C
    rw [hb] at hsw
    have hloc : X.env.scope.names.lookup x = some .local := by
      unfold swapB at hb
      split at hb
      · cases hb
      · simp only [Bool.and_eq_true, beq_iff_eq] at hb
        rw [C.names]; exact hb.1.1
    cases e with
    | ListComp elt gs scope q =>
      cases n with
      | zero => simp [cE] at hc
      | succ n =>
      match gs, hc, hsw with
      | [⟨tg, it, ifs, z⟩], hc, hsw =>
        by_cases hz : z = 0
        · subst hz
          obtain ⟨t, q', es, cond, ce, rfl, g1, g2, g3, g4, g5, g6, g7⟩ := comp_ok C.toCtx (good_all n) hc hw
          exact psImp (L2.ps_setLc C.calm C.nd s1 hloc hsw g1 g2 g3 g4 g5 g6) fun Dn σ H hl q => g7 σ H _ hl (tX_nv rfl (tIS_asg (by rw [hl]; exact lt) q))
        · simp [cE, hz] at hc
      | [], hc, _ => simp [cE] at hc
      | _ :: _ :: _, hc, _ => simp [cE] at hc
    | SetComp _ _ _ _ => cases n <;> simp [cE] at hc
    | DictComp _ _ _ _ _ => cases n <;> simp [cE] at hc
    | _ => simp [swapB, compScope] at hb
  · have hsw := swap_ok (p := p) (e := e) (x := x) (l := pos.line) C
    rw [Bool.not_eq_true] at hb
    rw [hb] at hsw
    exact psImp (L2.ps_set C.nd s1 s2 he hsw s3) fun Dn σ H hl q => tIS_asg (by rw [hl]; exact lt) q
/-! ### names = .. -/
def isTup : Expr → Bool
  | .Tuple _ _ _ => true
  | _ => false
def cUnp (n : Nat) (γ : Gam) (ts : List Expr) (e : Expr) : Option S := if isTup e then none else (cTg.go γ ts).bind fun is => (cN n γ e).map fun c => .asgT is c
theorem go_lt (C : Ctx X γ F k) : ∀ {es : List Expr} {is : List Nat}, cTg.go γ es = some is → ∀ i ∈ is, i < X.N.length
  | [], is, h, i, m => by
    simp only [cTg.go, Option.some.injEq] at h
    subst h; cases m
  | e :: es, is, h, i, m => by
    cases e <;> first | (simp [cTg.go] at h; done) | skip
    simp only [cTg.go, Option.bind_eq_some_iff, Option.map_eq_some_iff] at h
    obtain ⟨j, h1, is', h2, rfl⟩ := h
    rcases List.mem_cons.mp m with z | z
    · subst z; exact ix_lt C h1
    · exact go_lt C h2 i z
theorem tg_pg (C : Ctx X γ F k) {ts : List Expr} {is : List Nat} {kt : Nat} {pt : Pos} (h : cTg.go γ ts = some is) : PG X (.Tuple ts kt pt) (gT X.K (.tp is)) := by
  obtain ⟨g1, g2, g3⟩ := pgs_go C h
  exact L2.pg_tup C.calm g1 g2 g3
theorem stores_none {ts : List Expr} {kt : Nat} {pt : Pos} {e : Expr} {env : PySem.Env} (h : isTup e = false) : swappedStores [.Tuple ts kt pt] e env = pure none := by
  cases e <;> first | rfl | (simp [isTup] at h; done)
theorem ok_unp (C : CtxD X γ F k) {n : Nat} {ts : List Expr} {kt : Nat} {pt pos : Pos} {e : Expr} {c : S} (h : cUnp n γ ts e = some c) : PS X (.Assign [.Tuple ts kt pt] e pos) (tIS X.K F c) := by
  unfold cUnp at h
  split at h
  · cases h
  rename_i ht
  rw [Option.bind_eq_some_iff] at h
  obtain ⟨is, h1, h2⟩ := h
  rw [Option.map_eq_some_iff] at h2
  obtain ⟨c, h2, rfl⟩ := h2
  obtain ⟨hp, hc, hw, he⟩ := cN_ok C.toCtx h2
  exact psImp (L2.ps_asg he.1 (tg_pg C.toCtx h1) (swap_tg rfl) (stores_none (by simpa using ht))) fun Dn σ H hl q => tIS_asgT (fun i m => by rw [hl]; exact go_lt C.toCtx h1 i m) q
/-- the names that a tuple's stores swap (as the model tells them) -/
def swN (sc : List (Str × NameKind)) (ts vs : List Expr) : Option (Option (List Str)) :=
  if !(ts.length == 2 || ts.length == 3) || vs.length != ts.length then some none else
  if vs.any (fun e => match e with | .Starred .. => true | _ => false) then some none else
  let line := (ts.head?.map (·.pos.line)).getD 0
  let names := ts.filterMap fun e => match e with
    | .Name id pos => if sc.lookup id == some .local && pos.line == line then some id else none
    | _ => none
  if names.length != ts.length || names.eraseDups.length != names.length then some none else
  if vs.all (foldedForSure 8) then some none else
  if vs.all (constantsAlone 8) then none else some (some names)
theorem swN_ok (C : CtxD X γ F k) {ts vs : List Expr} {kt k2 : Nat} {pt p2 : Pos} {o : Option (List Str)} (h : swN γ.sc ts vs = some o) : swappedStores [.Tuple ts kt pt] (.Tuple vs k2 p2) X.env = pure o := by
  unfold swN at h
  dsimp only at h
  unfold swappedStores
  simp only [C.kindOf, C.block]
  split at h
  · rename_i q
    cases h
    have : (!(ts.length == 2 || ts.length == 3) || vs.length != ts.length || ScopeKind.function != ScopeKind.function) = true := by rw [q]; rfl
    simp only [this]; rfl
  rename_i q
  have q' : (!(ts.length == 2 || ts.length == 3) || vs.length != ts.length || ScopeKind.function != ScopeKind.function) = false := by
    rw [Bool.not_eq_true] at q; rw [q]; rfl
  simp only [q']
  rw [if_neg (show ¬ (false = true) by decide)]
  split at h
  · rename_i r
    cases h
    exact if_pos r
  rename_i r
  refine (if_neg r).trans ?_
  split at h
  · rename_i t
    cases h
    exact if_pos t
  rename_i t
  refine (if_neg t).trans ?_
  split at h
  · rename_i u
    cases h
    exact if_pos u
  rename_i u
  refine (if_neg u).trans ?_
  split at h
  · cases h
  rename_i v
  cases h
  exact if_neg v
end Iv
set_option Elab.async false
set_option linter.all false
set_option maxRecDepth 100000
set_option maxHeartbeats 2000000
/-! IvSound20: the other statements; all together (good_stmts). -/
namespace Iv
open PySem PySem.Spec PyProof.Rows
open L2 (V Hp HO SqL SqT upd upd_same upd_ne ne_of_none VK TE TA TT TI TS TG Cx Inv RelV Vals PE PT PA PS PSs PW PI PG PGs PO PTs OpR UnR CallR IxR SlR Vis Gl FnOk Room Binds CX0 Sp XK tTest It Walk wipe BlkOk Ends)
variable {F : Fns} {k : Nat} {X : Cx} {γ : Gam}

/-! ### names = terms -/
def isLocal (γ : Gam) (x : Str) : Bool := γ.sc.lookup x == some .local
def cPar (n : Nat) (γ : Gam) (ts vs : List Expr) : Option S := (cTg.go γ ts).bind fun is => (mapO (cE n γ) vs).bind fun cs =>
  if E.wf.wfs cs && decide (is.length = cs.length) && decide (is.length ≤ 100) then (match swN γ.sc ts vs with
    | some none => some (.par is cs)
    | some (some names) => (match ts, is with
      | [.Name x _, .Name y _], [i, j] => if isLocal γ x && isLocal γ y && decide (i ≠ j) && decide (names = [x, y]) then some (.par is cs) else none
      | [.Name x _, .Name y _, .Name z _], [i, j, l] => if isLocal γ x && isLocal γ y && isLocal γ z && decide (i ≠ j) && decide (i ≠ l) && decide (j ≠ l) && decide (names = [x, y, z]) then some (.par is cs) else none
      | _, _ => none)
    | none => none) else none
theorem loc_of (C : CtxD X γ F k) {x : Str} (h : isLocal γ x = true) : X.env.scope.names.lookup x = some .local := by
  unfold isLocal at h
  rw [C.names]; simpa using h
theorem ok_par (C : CtxD X γ F k) {n : Nat} {ts vs : List Expr} {kt k2 : Nat} {pt p2 pos : Pos} {c : S} (h : cPar n γ ts vs = some c) : PS X (.Assign [.Tuple ts kt pt] (.Tuple vs k2 p2) pos) (tIS X.K F c) := by
  unfold cPar at h
  simp only [Option.bind_eq_some_iff] at h
  obtain ⟨is, h1, cs, h2, h⟩ := h
  split at h
  case isFalse => cases h
  rename_i hc
  simp only [Bool.and_eq_true, decide_eq_true_eq] at hc
  obtain ⟨⟨hw, hl⟩, h100⟩ := hc
  have pa := (pa_map C.toCtx (good_all n) h2 hw).1
  have lt := go_lt C.toCtx h1
  split at h
  · rename_i hs
    cases h
    refine psImp (L2.ps_asg (L2.pe_tup pa) (tg_pg C.toCtx h1) (swap_tg rfl) (swN_ok C hs)) fun Dn σ H hσ q => ?_
    refine tIA_mono (tIS_par (fun i m => by rw [hσ]; exact lt i m) q) fun us H1 ⟨q1, q2, q3⟩ => ⟨?_, fun p hp => ⟨p, us, rfl, .inl (.inl upd_same), q1.symm, gNs_all q1 (q3 _ (upd_keeps hp))⟩⟩
    rw [← q1]
    exact Nat.le_trans h100 (by decide)
  · rename_i names hs
    split at h
    · rename_i x px y py i j
      split at h
      case isFalse => cases h
      rename_i hq
      simp only [Bool.and_eq_true, decide_eq_true_eq] at hq
      obtain ⟨⟨⟨hx, hy⟩, hij⟩, hn⟩ := hq
      cases h
      subst hn
      simp only [cTg.go, Option.bind_eq_some_iff, Option.map_eq_some_iff] at h1
      obtain ⟨i', g1, r, ⟨j', g2, r', g3, rfl⟩, e1⟩ := h1
      cases g3
      cases e1
      match vs, cs, mapO_len h2, hl, h2, pa, hs with
      | [a, b], [ca, cb], _, _, h2, pa, hs =>
      refine psImp (L2.ps_par C.calm C.nd (stk_spec C.toCtx g1).1 (stk_spec C.toCtx g2).1 hij (loc_of C hx) (loc_of C hy) pa (swN_ok C hs) (swap_tg rfl)) fun Dn σ H hσ q => ?_
      refine tIA_mono (tIS_par (fun i m => by rw [hσ]; exact lt i m) q) fun us H1 ⟨q1, q2, q3⟩ => ?_
      match us, q1, q3 with
      | [u, w], _, q3 => exact ⟨u, w, rfl, q3 H1 fun _ _ e => e⟩
    · rename_i x px y py z pz i j l
      split at h
      case isFalse => cases h
      rename_i hq
      simp only [Bool.and_eq_true, decide_eq_true_eq] at hq
      obtain ⟨⟨⟨⟨⟨⟨hx, hy⟩, hz⟩, hij⟩, hil⟩, hjl⟩, hn⟩ := hq
      cases h
      subst hn
      simp only [cTg.go, Option.bind_eq_some_iff, Option.map_eq_some_iff] at h1
      obtain ⟨i', g1, r, ⟨j', g2, r', ⟨l', g3, r'', g4, rfl⟩, rfl⟩, e1⟩ := h1
      cases g4
      cases e1
      match vs, cs, mapO_len h2, hl, h2, pa, hs with
      | [a, b, d], [ca, cb, cd], _, _, h2, pa, hs =>
      refine psImp (L2.ps_par3 C.calm C.nd (stk_spec C.toCtx g1).1 (stk_spec C.toCtx g2).1 (stk_spec C.toCtx g3).1 hij hil hjl (loc_of C hx) (loc_of C hy) (loc_of C hz) pa (swN_ok C hs) (swap_tg rfl)) fun Dn σ H hσ q => ?_
      refine tIA_mono (tIS_par (fun i m => by rw [hσ]; exact lt i m) q) fun us H1 ⟨q1, q2, q3⟩ => ?_
      match us, q1, q3 with
      | [u, w, x], _, q3 => exact ⟨u, w, x, rfl, q3 H1 fun _ _ e => e⟩
    · cases h
  · cases h
/-! ### name[..] = e -/
def cStore (n : Nat) (γ : Gam) (o i e : Expr) : Option S := if !isTup e && plainE i then (match o with
  | .Name x _ => (match γ.hand x with
    | some j => (cN n γ e).bind fun c => (cN n γ i).map fun ci => .setH j ci c
    | none => (γ.slot x).bind fun j => (cX n γ e).bind fun c => (cN n γ i).map fun ci => .setI j ci c)
  | .Subscript (.Name x _) i1 _ => (γ.slot x).bind fun j => (cN n γ e).bind fun c => (cN n γ i1).bind fun c1 => (cN n γ i).bind fun c2 => if c2.popL.isEmpty then some (.setII j c1 c2 c) else none
  | _ => none) else none
theorem sub_stores {o i e : Expr} {p : Pos} {env : PySem.Env} : swappedStores [.Subscript o i p] e env = pure none := by
  cases e <;> rfl
theorem sub_assign {o i : Expr} {p : Pos} {env : PySem.Env} (h : plainE i = true) : ∀ v, assign (.Subscript o i p) env v = (do
      let ov ← holding [v] (eval o env)
      let iv ← holding [v, ov] (eval i env)
      standAt p
      holding [v, ov, iv] (setItem ov iv v)
      release [v, ov, iv] []) := by
  intro v
  cases i <;> first | rfl | (simp [plainE] at h; done)
theorem ok_store (C : CtxD X γ F k) {n : Nat} {o i e : Expr} {p pos : Pos} {c : S} (h : cStore n γ o i e = some c) : PS X (.Assign [.Subscript o i p] e pos) (tIS X.K F c) := by
  unfold cStore at h
  split at h
  case isFalse => cases h
  rename_i hi
  simp only [Bool.and_eq_true] at hi
  split at h
  · rename_i x px
    split at h
    · rename_i j hj
      simp only [Option.bind_eq_some_iff, Option.map_eq_some_iff] at h
      obtain ⟨ce, h1, ci, h2, rfl⟩ := h
      exact psImp (L2.ps_asg (cN_ok C.toCtx h1).2.2.2.1 (L2.pg_sub (any_spec C.toCtx (hand_any hj)).2 (cN_ok C.toCtx h2).2.2.2.1 L2.set_list (sub_assign hi.2)) (swap_tg rfl) sub_stores) fun Dn σ H _ q => tIS_setH q
    · simp only [Option.bind_eq_some_iff, Option.map_eq_some_iff] at h
      obtain ⟨j, hj, ce, h1, ci, h2, rfl⟩ := h
      exact psImp (L2.ps_asg (cX_ok C.toCtx h1).2.2.2 (L2.pg_sub (any_spec C.toCtx (slot_any hj)).2 (cN_ok C.toCtx h2).2.2.2.1 L2.set_list (sub_assign hi.2)) (swap_tg rfl) sub_stores) fun Dn σ H _ q => tIS_setI q
  · rename_i x px i1 p1
    simp only [Option.bind_eq_some_iff] at h
    obtain ⟨j, hj, ce, h1, c1, h2, c2, h3, h⟩ := h
    split at h
    case isFalse => cases h
    rename_i hpop
    cases h
    exact psImp (L2.ps_asg (cN_ok C.toCtx h1).2.2.2.1 (L2.pg_sub (L2.pe_ix L2.ix_list (any_spec C.toCtx (slot_any hj)).2 (cN_ok C.toCtx h2).2.2.2.1 (plainIx (cN_ok C.toCtx h2).1)) (cN_ok C.toCtx h3).2.2.2.1 L2.set_list (sub_assign hi.2)) (swap_tg rfl) sub_stores)
      fun Dn σ H _ q => tIS_setII (by simpa using hpop) q
  · cases h
/-! ### op= -/
def cAug (n : Nat) (γ : Gam) (tg : Expr) (op : Operator) (e : Expr) : Option S := (match op with
  | .Add => some Op.add
  | .Sub => some Op.sub
  | _ => none).bind fun o => (cN n γ e).bind fun c => match tg with
  | .Name x _ => (γ.stk x).map fun i => .aug i o c
  | .Subscript (.Name x _) ix _ => (γ.slot x).bind fun i => (cN n γ ix).bind fun ci => if c.popL.isEmpty && plainE ix then some (.augI i ci o c) else none
  | _ => none
theorem add_int : ∀ x y v, opS .add [.int x, .int y] = some v → v = .int (x + y) := fun x y v h => by
  simp only [opS, Option.some.injEq] at h
  exact h.symm
theorem sub_int : ∀ x y v, opS .sub [.int x, .int y] = some v → v = .int (x - y) := fun x y v h => by
  simp only [opS, Option.some.injEq] at h
  exact h.symm
theorem get_list : L2.PGet X (L2.rIxL X.K) := fun pins s σ H x y v u Q I rx ry h => by
  obtain ⟨p, xs, i, z, rfl, rfl, hq, he, q⟩ := h
  cases rx
  obtain ⟨t, rfl⟩ := ry
  obtain ⟨its, r, pl, hz⟩ := I.list hq
  obtain ⟨j, h1, h2, h3, h4, h5⟩ := L2.atI_get he
  obtain ⟨w, ew, rw'⟩ := r.get h2
  have hl := r.length
  have hn := L2.line63
  have fin : L2.EP X pins σ Q w s := ⟨z, H, I, rw', q⟩
  by_cases h0 : 0 ≤ i
  · have hj : i.toNat = j := by
      rw [seqIndex_of h0 h5] at h1
      exact Option.some.inj h1
    exact wpAny_getItem_list pl.isList h0 (by omega) (by rw [hj]; simpa using ew) fin
  · have hj : (i + (its.toArray.size : Int)).toNat = j := by
      rw [seqIndex_neg (by omega) h4] at h1
      rw [List.size_toArray, ← hl]
      exact Option.some.inj h1
    exact wpAny_getItem_list_neg pl.isList (by omega) (by rw [List.size_toArray] <;> omega) (by omega) (by rw [hj]; simpa using ew) fin
theorem aug_store {ix : Expr} (h : plainE ix = true) : ∀ ov iv new, augStore ix ov iv new = (do holding [new, ov, iv] (setItem ov iv new); release [new, ov, iv] []; pure .next) := by
  intro ov iv new
  cases ix <;> first | rfl | (simp [plainE] at h; done)
theorem ok_aug (C : CtxD X γ F k) {n : Nat} {tg e : Expr} {op : Operator} {pos : Pos} {c : S} (h : cAug n γ tg op e = some c) : PS X (.AugAssign tg op e pos) (tIS X.K F c) := by
  unfold cAug at h
  simp only [Option.bind_eq_some_iff] at h
  obtain ⟨o, ho, ce, h1, h⟩ := h
  have he := (cN_ok C.toCtx h1).2.2.2.1
  obtain ⟨f, hip, hf⟩ : ∃ f : Int → Int → Int, L2.PIp X op (L2.ipI f) ∧ ∀ x y v, opS o [.int x, .int y] = some v → v = .int (f x y) := by
    split at ho
    · cases ho; exact ⟨_, L2.ip_add, add_int⟩
    · cases ho; exact ⟨_, L2.ip_sub, sub_int⟩
    · cases ho
  split at h
  · rename_i x px
    rw [Option.map_eq_some_iff] at h
    obtain ⟨i, h2, rfl⟩ := h
    obtain ⟨s1, s2, s3⟩ := stk_spec C.toCtx h2
    exact psImp (L2.ps_aug C.nd s1 s2 he hip s3) fun Dn σ H _ q => tIS_aug hf q
  · rename_i x px ix p1
    simp only [Option.bind_eq_some_iff] at h
    obtain ⟨i, h2, ci, h3, h⟩ := h
    split at h
    case isFalse => cases h
    rename_i hpop
    cases h
    simp only [Bool.and_eq_true, List.isEmpty_iff] at hpop
    exact psImp (L2.ps_augS (any_spec C.toCtx (slot_any h2)).2 (cN_ok C.toCtx h3).2.2.2.1 get_list he hip L2.set_list (aug_store hpop.2)) fun Dn σ H _ q => tIS_augI hf hpop.1 q
  · cases h
/-! ### an expression alone -/
def cExpr (n : Nat) (γ : Gam) (e : Expr) : Option S := match e with
  | .Constant (.str _) _ _ => some .pass
  | .Call (.Attribute (.Name x px) m apos) [a] [] pos =>
    if apos.endLine == pos.line then
      (if m = ("append" : Str) then (γ.slot x).bind fun i => (cX n γ a).map fun c => .append i c
      else if m = ("extend" : Str) then (γ.slot x).bind fun i => (cN n γ a).map fun c => .extend i c
      else (cN n γ (.Call (.Attribute (.Name x px) m apos) [a] [] pos)).map .drop) else none
  | .Call (.Attribute (.Subscript (.Name x _) ix _) m apos) [a] [] pos =>
    if apos.endLine == pos.line then
      (if m = ("append" : Str) then (γ.slot x).bind fun i => (cN n γ ix).bind fun ci => (cN n γ a).bind fun c => if c.popL.isEmpty then some (.appendI i ci c) else none
      else none) else none
  | e => if isComp e then none else (cN n γ e).map .drop
theorem noswap {e : Expr} {l : Nat} {env : PySem.Env} (h : isComp e = false) : swapsWith e none l env = pure false := by
  unfold swapsWith
  cases e <;> first | rfl | (simp [isComp] at h; done)
theorem args1 {a : Expr} {env : PySem.Env} (h : plainE a = true) : starEach [a] env = (false, eval a env) :: starEach [] env := star_cons h
theorem ok_expr (C : CtxD X γ F k) {n : Nat} {e : Expr} {pos : Pos} {c : S} (h : cExpr n γ e = some c) : PS X (.Expr e pos) (tIS X.K F c) := by
  unfold cExpr at h
  split at h
  · cases h
    exact psImp L2.ps_doc fun Dn σ H _ q => tIS_flow.2.2.1 q
  · rename_i x px m apos a cpos
    split at h
    case isFalse => cases h
    rename_i hl
    split at h
    · rename_i hm
      subst hm
      simp only [Option.bind_eq_some_iff, Option.map_eq_some_iff] at h
      obtain ⟨i, h1, ca, h2, rfl⟩ := h
      obtain ⟨hp, _, _, he⟩ := cX_ok C.toCtx h2
      have hst : starEach [a] X.env = (false, eval a X.env) :: starEach [] X.env := args1 hp
      exact psImp (L2.ps_expr (L2.pe_bm PySem.F.plainAttrs_list PySem.F.slot_list_append PySem.F.type_list_append L2.mt_append (any_spec C.toCtx (slot_any h1) (p := px)).2 (L2.pa_cons he L2.pa_nil hst) rfl (by rw [hst]; rfl) hl hst rfl)) fun Dn σ H _ q => tIS_append q
    · split at h
      · rename_i hm
        subst hm
        simp only [Option.bind_eq_some_iff, Option.map_eq_some_iff] at h
        obtain ⟨i, h1, ca, h2, rfl⟩ := h
        obtain ⟨hp, _, _, he⟩ := cN_ok C.toCtx h2
        have hst : starEach [a] X.env = (false, eval a X.env) :: starEach [] X.env := args1 hp
        exact psImp (L2.ps_expr (L2.pe_bm PySem.F.plainAttrs_list PySem.F.slot_list_extend PySem.F.type_list_extend L2.mt_extend (any_spec C.toCtx (slot_any h1) (p := px)).2 (L2.pa_cons he.1 L2.pa_nil hst) rfl (by rw [hst]; rfl) hl hst rfl)) fun Dn σ H _ q => tIS_extend q
      · rw [Option.map_eq_some_iff] at h
        obtain ⟨ca, h2, rfl⟩ := h
        exact psImp (L2.ps_expr (cN_ok C.toCtx h2).2.2.2.1) fun Dn σ H _ q => tIS_drop q
  · rename_i x px ix p1 m apos a cpos
    split at h
    case isFalse => cases h
    rename_i hl
    split at h
    case isFalse => cases h
    rename_i hm
    subst hm
    simp only [Option.bind_eq_some_iff] at h
    obtain ⟨i, h1, ci, h2, ca, h3, h⟩ := h
    split at h
    case isFalse => cases h
    rename_i hpop
    cases h
    obtain ⟨hp, _, _, he⟩ := cN_ok C.toCtx h3
    obtain ⟨hp2, _, _, hi⟩ := cN_ok C.toCtx h2
    have hst : starEach [a] X.env = (false, eval a X.env) :: starEach [] X.env := args1 hp
    exact psImp (L2.ps_expr (L2.pe_bm PySem.F.plainAttrs_list PySem.F.slot_list_append PySem.F.type_list_append L2.mt_append (L2.pe_ix L2.ix_list (any_spec C.toCtx (slot_any h1) (p := px)).2 hi.1 (plainIx hp2)) (L2.pa_cons he.1 L2.pa_nil hst) rfl (by rw [hst]; rfl) hl hst rfl))
      fun Dn σ H _ q => tIS_appendI (by simpa using hpop) q
  · split at h
    · cases h
    · rename_i hc
      rw [Option.map_eq_some_iff] at h
      obtain ⟨ca, h2, rfl⟩ := h
      exact psImp (L2.ps_expr (cN_ok C.toCtx h2).2.2.2.1 (noswap (by simpa using hc))) fun Dn σ H _ q => tIS_drop q
/-! ### all statements -/
def cAsg (n : Nat) (γ : Gam) (ts : List Expr) (e : Expr) : Option S := match ts with
  | [.Name x _] => cSet n γ x e
  | [.Tuple ts _ _] => (match e with
    | .Tuple vs _ _ => cPar n γ ts vs
    | e => cUnp n γ ts e)
  | [.Subscript o i _] => cStore n γ o i e
  | _ => none
theorem ok_asg (C : CtxD X γ F k) {n : Nat} {ts : List Expr} {e : Expr} {pos : Pos} {c : S} (h : cAsg n γ ts e = some c) : PS X (.Assign ts e pos) (tIS X.K F c) := by
  unfold cAsg at h
  split at h
  · exact ok_set C h
  · split at h
    · exact ok_par C h
    · exact ok_unp C h
  · exact ok_store C h
  · cases h
def cTest (n : Nat) (γ : Gam) (e : Expr) : Option E := if testOk e then cN n γ e else none
theorem ok_test (C : Ctx X γ F k) {n : Nat} {e : Expr} {c : E} (h : cTest n γ e = some c) : PT X e (tTest (tIE X.K F c)) := by
  unfold cTest at h
  split at h
  case isFalse => cases h
  rename_i ht
  exact (cN_ok C h).2.2.2.2 ht
def cS : Nat → Nat → Gam → Stmt → S
  | 0, _, _, _ => .bad
  | m + 1, n, γ, .Assign ts e _ => (cAsg n γ ts e).getD .bad
  | m + 1, n, γ, .AugAssign tg op e _ => (cAug n γ tg op e).getD .bad
  | m + 1, n, γ, .Expr e _ => (cExpr n γ e).getD .bad
  | m + 1, n, γ, .If c a b _ => ((cTest n γ c).map fun cc => S.ite cc (a.map (cS m n γ)) (b.map (cS m n γ))).getD .bad
  | m + 1, n, γ, .While c b [] _ => ((cTest n γ c).map fun cc => S.while cc (b.map (cS m n γ))).getD .bad
  | m + 1, n, γ, .For tg it b [] _ => ((cTg γ tg).bind fun t => if plainE it then (cIt (cE n γ) γ tg it).bind fun p => if E.wf.wfs p.2 then some (S.for t p.1 p.2 (b.map (cS m n γ))) else none else none).getD .bad
  | m + 1, n, γ, .Return none _ => .ret (.cst .none)
  | m + 1, n, γ, .Return (some e) _ => ((cX n γ e).map S.ret).getD .bad
  | m + 1, n, γ, .Pass _ => .pass
  | m + 1, n, γ, .Break _ => .brk
  | m + 1, n, γ, .Continue _ => .cnt
  | _, _, _, _ => .bad
theorem ps_bad {st : Stmt} : PS X st (tIS X.K F .bad) := psImp (L2.ps_never) fun Dn σ H _ q => tIS_flow.2.2.2 q
theorem ps_getD {st : Stmt} {o : Option S} (h : ∀ c, o = some c → PS X st (tIS X.K F c)) : PS X st (tIS X.K F (o.getD .bad)) := by
  cases o with
  | none => exact ps_bad
  | some c => exact h c rfl
theorem tg_lt (C : Ctx X γ F k) {e : Expr} {t : Tg} (h : cTg γ e = some t) : ∀ i ∈ t.slots, i < X.N.length := by
  unfold cTg at h
  split at h
  · rw [Option.map_eq_some_iff] at h
    obtain ⟨i, h1, rfl⟩ := h
    intro j m
    have : j = i := by simpa [Tg.slots] using m
    subst this
    exact ix_lt C h1
  · rw [Option.map_eq_some_iff] at h
    obtain ⟨is, h1, rfl⟩ := h
    exact go_lt C h1
  · cases h
theorem good_list {m n : Nat} (ih : ∀ st, PS X st (tIS X.K F (cS m n γ st))) : ∀ sts : List Stmt, PSs X sts (tISs X.K F (sts.map (cS m n γ)))
  | [] => pssImp L2.pss_nil fun Dn σ H _ q => tISs_nil q
  | st :: sts => pssImp (L2.pss_cons (ih st) (good_list ih sts)) fun Dn σ H _ q => tISs_cons q
theorem good_stmt (C : CtxD X γ F k) : ∀ m n st, PS X st (tIS X.K F (cS m n γ st))
  | 0, n, st => ps_bad
  | m + 1, n, st => by
    have ih := good_list (fun st => good_stmt C m n st)
    cases st with
    | Assign ts e p => exact ps_getD fun c h => ok_asg C h
    | AugAssign tg op e p => exact ps_getD fun c h => ok_aug C h
    | Expr e p => exact ps_getD fun c h => ok_expr C h
    | If t a b p =>
      refine ps_getD fun c h => ?_
      rw [Option.map_eq_some_iff] at h
      obtain ⟨cc, h1, rfl⟩ := h
      exact psImp (L2.ps_if (ok_test C.toCtx h1) (ih a) (ih b)) fun Dn σ H _ q => tIS_ite q
    | While t b o p =>
      cases o with
      | cons _ _ => exact ps_bad
      | nil =>
        refine ps_getD fun c h => ?_
        rw [Option.map_eq_some_iff] at h
        obtain ⟨cc, h1, rfl⟩ := h
        exact psImp (L2.ps_while C.own (ok_test C.toCtx h1) (ih b)) fun Dn σ H _ q => tIS_while q
    | For tg it b o p =>
      cases o with
      | cons _ _ => exact ps_bad
      | nil =>
        refine ps_getD fun c h => ?_
        rw [Option.bind_eq_some_iff] at h
        obtain ⟨t, h1, h⟩ := h
        split at h
        case isFalse => cases h
        rename_i hp
        rw [Option.bind_eq_some_iff] at h
        obtain ⟨⟨kd, cs⟩, h2, h⟩ := h
        split at h
        case isFalse => cases h
        rename_i hw
        cases h
        have lt := tg_lt C.toCtx h1
        exact psImp (L2.ps_for C.own C.calm (good_it C.toCtx (good_all n) h2 hw) (pg_tg C.toCtx h1) (ih b) (fold_plain hp)) fun Dn σ H hσ q => tIS_for (fun i m => by rw [hσ]; exact lt i m) q
    | Return v p =>
      cases v with
      | none => exact psImp L2.ps_retN fun Dn σ H _ q => tIS_retN q
      | some e =>
        refine ps_getD fun c h => ?_
        rw [Option.map_eq_some_iff] at h
        obtain ⟨cc, h1, rfl⟩ := h
        exact psImp (L2.ps_ret (cX_ok C.toCtx h1).2.2.2) fun Dn σ H _ q => tIS_ret q
    | Pass p => exact psImp L2.ps_pass fun Dn σ H _ q => tIS_flow.2.2.1 q
    | Break p => exact psImp L2.ps_break fun Dn σ H _ q => tIS_flow.1 q
    | Continue p => exact psImp L2.ps_continue fun Dn σ H _ q => tIS_flow.2.1 q
    | _ => exact ps_bad
theorem good_stmts (C : CtxD X γ F k) (m n : Nat) (sts : List Stmt) : PSs X sts (tISs X.K F (sts.map (cS m n γ))) := good_list (fun st => good_stmt C m n st) sts
end Iv
set_option Elab.async false
set_option linter.all false
set_option maxRecDepth 100000
set_option maxHeartbeats 2000000
/-! IvSound21: a def whose read body runs as φ tells, keeps φ's promise. -/
namespace Iv
open PySem PySem.Spec PyProof.Rows
open L2 (V Hp HO SqL SqT upd upd_same upd_ne ne_of_none VK TE TA TT TI TS TG Cx Inv RelV Vals PE PT PA PS PSs PW PI PG PGs PO PTs OpR UnR CallR IxR SlR Vis Gl FnOk Room Binds CX0 Sp XK tTest It Walk wipe BlkOk Ends FnScope cxOf)
variable {F : Fns} {k : Nat} {K : PySem.W.Frag}

theorem args_ok {ah : Option Addr} {H : Hp} {p q : Nat} : ∀ {ws : List V} {ds : List D} {Fs : List (List Addr)} {i : Nat}, RepL K H ws ds Fs → SlOk K ah H ((ws.map some ++ List.replicate p none)[i]?) ((ds.map Sl.sh ++ List.replicate q Sl.no).getD i .no) (Fs.getD i [])
  | _, _, _, i, .nil => by
    have : (List.replicate q Sl.no).getD i Sl.no = Sl.no := by
      rw [List.getD_eq_getElem?_getD, List.getElem?_replicate]
      split <;> rfl
    simp only [List.map_nil, List.nil_append]
    rw [this]
    rfl
  | _, _, _, 0, .cons r1 r2 => ⟨_, rfl, r1⟩
  | _, _, _, i + 1, .cons r1 r2 => args_ok (i := i) r2
def entry (slots : Nat) (h : Bool) (args : List D) (g : G) : St := (((if h then [Sl.hd] else []) ++ args.map Sl.sh ++ List.replicate (slots - args.length - (if h then 1 else 0)) Sl.no), g)
theorem getD_mem {Fs : List (List Addr)} {i : Nat} {a : Addr} (h : a ∈ Fs.getD i []) : a ∈ Fs.flatten := by
  rw [List.getD_eq_getElem?_getD] at h
  cases e : Fs[i]? with
  | none => rw [e] at h; cases h
  | some G =>
    rw [e] at h
    exact flat_at e a h
theorem entry_ok {ah : Option Addr} {H : Hp} {g : G} {Fg : List Addr} {h : Bool} {vs ws : List V} {ds : List D} {Fs : List (List Addr)} {N : List Str} (hand : HandOk K H ah g Fg) (hv : if h = true then ∃ a, ah = some a ∧ vs = .ref a :: ws else vs = ws) (r : RepL K H ws ds Fs)
    (nah : ∀ a ∈ Fs.flatten, some a ≠ ah) (hl : vs.length ≤ N.length) : ∃ Fp, SR K ah H (L2.start N vs) H (entry N.length h ds g) Fp Fg := by
  cases h with
  | false =>
    have hv : vs = ws := hv
    subst hv
    refine ⟨fun i => Fs.getD i [], ⟨?_, fun i => ?_, fun i d e => ?_, fun i a m => nah a (getD_mem m), hand, fun _ _ e _ => e⟩⟩
    · simp only [L2.start, entry, List.length_append, List.length_map, List.length_replicate, r.len.1]
      simp
    · exact args_ok r
    · exfalso
      have := args_ok (ah := ah) (p := 0) (q := N.length - ds.length - 0) (i := i) r
      have e' : (ds.map Sl.sh ++ List.replicate (N.length - ds.length - 0) Sl.no).getD i .no = .ow d := e
      clear this e
      rw [List.getD_eq_getElem?_getD, List.getElem?_append] at e'
      split at e'
      · rename_i hi
        rw [List.getElem?_eq_getElem hi] at e'
        simp at e'
      · rw [List.getElem?_replicate] at e'
        split at e' <;> cases e'
  | true =>
    obtain ⟨a0, rfl, rfl⟩ : ∃ a, ah = some a ∧ vs = .ref a :: ws := hv
    refine ⟨fun i => match i with
      | 0 => []
      | i + 1 => Fs.getD i [], ⟨?_, fun i => ?_, fun i d e => ?_, fun i a m => ?_, hand, fun _ _ e _ => e⟩⟩
    · simp only [L2.start, entry, List.length_append, List.length_map, List.length_replicate, List.length_cons, r.len.1]
      simp
      omega
    · cases i with
      | zero => exact ⟨rfl, a0, rfl, rfl⟩
      | succ i => exact args_ok (i := i) r
    · exfalso
      cases i with
      | zero => cases e
      | succ i =>
        have e' : (ds.map Sl.sh ++ List.replicate (N.length - ds.length - 1) Sl.no).getD i .no = .ow d := e
        clear e
        rw [List.getD_eq_getElem?_getD, List.getElem?_append] at e'
        split at e'
        · rename_i hi
          rw [List.getElem?_eq_getElem hi] at e'
          simp at e'
        · rw [List.getElem?_replicate] at e'
          split at e' <;> cases e'
    · cases i with
      | zero => cases m
      | succ i => exact nah a (getD_mem m)
/-- a def's body read -/
def cB (m n : Nat) (γ : Gam) (st : Stmt) : List S := (L2.defBody st).map (cS m n γ)
variable {P : Program} {w : World} {mg : Str → Option Value} {base : PySem.Heap}
theorem ctx_mk {N ps : List Str} {qual : Str} {scope : Scope} {f : Addr} {cdv : Value} {A : Around} {outer : List PySem.Env} {s : Shared} {H : Hp} {E : XK} {γ : Gam} (S : FnScope N ps scope) (hN : γ.N = N) (hsc : γ.sc = scope.names)
    (hr : Room k (A.deeper (envOfC qual scope s.heap.objs.size f cdv)))
    (fns : ∀ i x h, γ.fns[i]? = some (x, h) → ∃ (f : Addr) (fd : FuncData) (ps : List Str), mg x = some (.ref f) ∧ PySem.W.keepIn K (.ref f) = true ∧ FnOk P w K mg base CX0 k f fd ps (spOf K (F i) h) ∧ Binds K fd ps [])
    (blt : ∀ x ∈ bltNames, mg x = none) (cst : ∀ x d, γ.cst.lookup x = some d → ∃ (u : Value) (v : V), mg x = some u ∧ RelV v u ∧ ∀ H, Rep K H v d []) : CtxD (cxOf CX0 P w K mg base N qual scope f cdv A outer s H E).nox γ F k where
  calm := rfl
  room := hr
  hN := hN.symm
  nd := S.nd
  vis := fun x h => by
    rw [hsc] at h
    show L2.Vis scope x
    unfold L2.Vis
    cases e : scope.names.lookup x with
    | none => rw [e] at h; cases h
    | some q => rw [e] at h; cases q <;> simp [isLoc] at h <;> simp
  gl := fun x h => by
    rw [hsc] at h
    show scope.names.lookup x = some .globalImplicit
    cases e : scope.names.lookup x with
    | none => rw [e] at h; cases h
    | some q => rw [e] at h; cases q <;> simp [isGl] at h <;> rfl
  st := fun x h => by
    rw [hsc] at h
    refine ⟨?_, .inl rfl⟩
    show L2.Loc scope x
    unfold L2.Loc
    cases e : scope.names.lookup x with
    | none => rw [e] at h; cases h
    | some q => rw [e] at h; cases q <;> simp [isSt] at h <;> simp
  cell := fun x h => by
    rw [hsc] at h
    exact h
  fns := fns
  blt := blt
  cst := cst
  names := hsc.symm
  kind := S.kind
  own := PassesOwn.never
/-- the promise -/
theorem fn_ok {x qual : Str} {st : Stmt} {f : Addr} {fd : FuncData} {N ps : List Str} {h : Bool} {γ : Gam} {φ : List D → G → Option (D × G)} (m n0 : Nat) (Fu : L2.Fun K x qual st f fd) (S : FnScope N ps (L2.defScope st)) (hN : γ.N = N) (hsc : γ.sc = (L2.defScope st).names)
    (fns : ∀ i x h, γ.fns[i]? = some (x, h) → ∃ (f : Addr) (fd : FuncData) (ps : List Str), mg x = some (.ref f) ∧ PySem.W.keepIn K (.ref f) = true ∧ FnOk P w K mg base CX0 k f fd ps (spOf K (F i) h) ∧ Binds K fd ps [])
    (blt : ∀ x ∈ bltNames, mg x = none) (cst : ∀ x d, γ.cst.lookup x = some d → ∃ (u : Value) (v : V), mg x = some u ∧ RelV v u ∧ ∀ H, Rep K H v d [])
    (hlen : ∀ ds g r, φ ds g = some r → ds.length + (if h then 1 else 0) = ps.length) (hrun : ∀ ds g r, φ ds g = some r → ∃ n, run F n N.length h (cB m n0 γ st) ds g = some r) : FnOk P w K mg base CX0 (k + 1) f fd ps (spOf K φ h) := by
  have lenOf : ∀ vs H Q E, spOf K φ h vs H Q E → vs.length = ps.length := fun vs H Q E q => by
    obtain ⟨ah, g, Fg, ds, ws, Fs, d, g', e, hand, hv, r, _⟩ := q
    have := hlen ds g _ e
    have rl := r.len.1
    cases h with
    | false =>
      have hv : vs = ws := hv
      subst hv
      simpa [rl] using this
    | true =>
      obtain ⟨a0, _, rfl⟩ : ∃ a, ah = some a ∧ vs = .ref a :: ws := hv
      simpa [rl] using this
  have hpl : ps.length ≤ N.length := by
    have := congrArg List.length S.pre
    rw [List.length_take] at this
    omega
  refine L2.Fun.ok Fu S lenOf fun cdv A outer s H vs Q E hr hsp => ⟨tISs K F (cB m n0 γ st), ?_, ?_⟩
  · exact good_stmts (ctx_mk S hN hsc hr fns blt cst) m n0 (L2.defBody st)
  · have hvl := lenOf vs H Q E hsp
    obtain ⟨ah, g, Fg, ds, ws, Fs, d, g', e, hand, hv, r, nah, kq⟩ := hsp
    obtain ⟨n, en⟩ := hrun ds g _ e
    obtain ⟨Fp, R⟩ := entry_ok (N := N) hand hv r nah (by omega)
    unfold run at en
    rw [Option.bind_eq_some_iff] at en
    obtain ⟨⟨fl, s'⟩, e1, e2⟩ := en
    refine ⟨ah, H, n, _, Fp, Fg, fl, s', R, e1, ?_⟩
    cases fl with
    | ret v0 =>
      cases e2
      exact fun v H' Fg' Fx ro => kq v H' Fx Fg' ro.rep ro.nd ro.new ro.hand ro.fg ro.keep ro.there ro.tup
    | nx =>
      cases e2
      exact fun σ' H' Fs' Fg' R' St' => kq .non H' [] Fg' .none .nil (fun _ m => (nomatch m)) R'.hand St'.fg R'.keep St'.there St'.tup
    | brk => cases e2
    | cnt => cases e2
end Iv
set_option Elab.async false
set_option linter.all false
set_option maxRecDepth 100000
set_option maxHeartbeats 2000000
/-! IvSound22: a law's hand out of its script; the law itself. -/
namespace Iv
open PySem PySem.Spec PyProof.Rows
open L2 (V Hp HO SqL SqT upd upd_same upd_ne ne_of_none VK TE TA TT TI TS TG Cx Inv RelV Vals PE PT PA PS PSs PW PI PG PGs PO PTs OpR UnR CallR IxR SlR Vis Gl FnOk Room Binds CX0 Sp XK tTest It Walk wipe BlkOk Ends FnScope cxOf)
variable {F : Fns} {k : Nat} {K : PySem.W.Frag} {X : Cx} {γ : Gam}

/-- no name holds anything -/
def bare (n : Nat) (g : G) : St := (List.replicate n Sl.no, g)
theorem sl_bare {n i : Nat} {g : G} : sl (bare n g) i = .no := by
  unfold sl bare
  dsimp only
  rw [List.getD_eq_getElem?_getD, List.getElem?_replicate]
  split <;> rfl
theorem bare_ok {H0 H : Hp} {σ : L2.St} {n : Nat} (hl : σ.length = n) (keep : ∀ a o, H0 a = some o → H a = some o) : SR K none H0 σ H (bare n none) (fun _ => []) [] :=
  ⟨(by rw [hl]; simp [bare]), (fun i => by rw [sl_bare]; rfl), (fun i d e => by rw [sl_bare] at e; cases e), (fun i a m => (nomatch m)), rfl, fun a o e _ => keep a o e⟩
theorem wipe_len {σ : L2.St} : ∀ {vs : List Nat}, (wipe σ vs).length = σ.length
  | [] => rfl
  | v :: vs => by
    show ((wipe σ vs).set v none).length = σ.length
    rw [List.length_set, wipe_len]
theorem sq_mono {H H' : Hp} {a : Addr} {xs : List V} (h : SqL K H a xs) (s : ∀ b o, H b = some o → H' b = some o) : SqL K H' a xs := L2.Same.seq s h
theorem cut63 {xs : List V} (h : xs.length ≤ 63) : L2.cutV xs none (some 63) = xs := by
  unfold L2.cutV
  rw [show HT.sIx xs.length xs.length (some 63) = min 63 xs.length from HT.sIx_nat xs.length xs.length 63, HT.sIx_none]
  rw [List.drop_zero, Nat.sub_zero]
  exact List.take_of_length_le (by omega)
abbrev sliceOf (X : Cx) : TE := L2.tSl (L2.rSlL X.K) (L2.tVar 0) L2.tNoPart (L2.tPart (L2.tC (.int 63)))
/-- a comprehension over the script -/
theorem comp_script {elt : Expr} {scope : Scope} {ic n : Nat} {ce : E} {f : Int → Int} (hpop : ce.popL = []) (hev : ∀ (c : Int) (s : St), rd s ic = some (.int c) → ev F ce s = some (.int (f c), s)) {σ : L2.St} {H : Hp} {Q : VK} {a : Addr} {ns : List Int}
    (hic : ic < σ.length) (h0 : σ[0]? = some (some (.ref a))) (hs : SqL K H a (ns.map V.int)) (hl : ns.length ≤ 63)
    (hq : ∀ H' D, (∀ b o, H b = some o → H' b = some o) → H D = none → H' D = some (.lst ((ns.map f).map V.int)) → Q (.ref D) H') :
    L2.tLc (L2.iList K (L2.tSl (L2.rSlL K) (L2.tVar 0) L2.tNoPart (L2.tPart (L2.tC (.int 63))))) (gT K (.nm ic)) (tCnd K F none) (tIE K F ce) [ic] σ H Q := by
  refine ⟨_, h0, 63, rfl, a, _, rfl, hs, fun p hp => ?_⟩
  rw [cut63 (by simpa using hl)]
  refine ⟨p, rfl, ⟨_, SqL.of' upd_same⟩, fun D hD => ?_⟩
  have hDp : D ≠ p := fun z => by subst z; rw [upd_same] at hD; cases hD
  have hHD : H D = none := by rw [upd_ne hDp] at hD; exact hD
  refine L2.lc_it (L2.walk_list (xs := ns.map V.int)) (fun i H' => (∀ b o, H b = some o → H' b = some o) ∧ H' p = some (.lst (ns.map V.int)) ∧ H' D = some (.lst (((ns.take i).map f).map V.int))) ⟨fun b o e => ?_, ?_, ?_⟩ (fun i H' _ q => SqL.of' q.2.1) ?_ ?_
  · rw [upd_ne (ne_of_none e hHD), upd_ne (ne_of_none e hp)]; exact e
  · rw [upd_ne (Ne.symm hDp), upd_same]
  · rw [upd_same]; rfl
  · rintro i x H2 H3 hi ⟨k1, k2, k3⟩ ⟨rfl, hx⟩
    rw [List.length_map] at hi
    rw [List.getElem?_map, List.getElem?_eq_getElem hi] at hx
    have hx := (Option.some.inj hx).symm
    subst hx
    refine ⟨(wipe_set (List.mem_singleton.mpr rfl)).trans wipe_wipe, ?_⟩
    rw [tCnd_none]
    refine L2.iteT ?_
    have R0 : SR K none H (wipe σ [ic]) H3 (bare σ.length none) (fun _ => []) [] := bare_ok wipe_len k1
    have R1 := R0.bindSh (i := ic) (d := .int ns[i]) (x := .int ns[i]) (G := []) (by simp [bare, hic]) (.int _) (fun _ m => (nomatch m)) (fun _ m => (nomatch m))
    have e1 := hev ns[i] (put (bare σ.length none) ic (.sh (.int ns[i]))) (by unfold rd put bare; dsimp only; rw [List.getElem?_set_self (by simpa using hic)])
    refine tIE_of R1 e1 fun v H4 Fs4 Fg4 Fx P hP R4 St4 rp rs => ?_
    obtain ⟨rfl, _⟩ := rep_int rp
    have hP' : P = [] := P_nil hP hpop
    subst hP'
    have kp : ∀ b o, H3 b = some o → H4 b = some o := fun b o e => St4.ext b o e (by simp) (fun _ m => (nomatch m))
    refine ⟨_, kp _ _ k3, ?_, fun b o e => ?_, ?_, ?_⟩
    · rw [List.length_map, List.length_map, List.length_take]
      have : (63 : Nat) < sizeLine := by decide
      omega
    · rw [upd_ne (ne_of_none e hHD)]; exact kp b o (k1 b o e)
    · rw [upd_ne (Ne.symm hDp)]; exact kp _ _ k2
    · rw [upd_same, List.take_succ, List.getElem?_eq_getElem hi]
      simp only [Option.toList_some, List.map_append, List.map_cons, List.map_nil]
  · rintro H' ⟨k1, _, k3⟩
    rw [List.length_map, List.take_length] at k3
    exact hq H' D k1 hHD k3
def handD (f : Int → Int) (seed : Int) (ns : List Int) : List D := [.list ((ns.map f).map .int), .int 0, .int 0, .int (seed + 7 * ns.length), .int 0]
def spHand (K : PySem.W.Frag) (f : Int → Int) (seed : Int) : Sp := fun vs H Q _ => ∃ (a : Addr) (ns : List Int), vs = [.ref a] ∧ SqL K H a (ns.map V.int) ∧ ns.length ≤ 63 ∧
  ∀ (v : V) (H' : Hp) (Fx : List Addr), Rep K H' v (.list (handD f seed ns)) Fx → Fx.Nodup → (∀ b o, H b = some o → H' b = some o) → Q v H'
def spLaw (K : PySem.W.Frag) : Sp := fun vs H Q _ => ∃ (a : Addr) (ns : List Int), vs = [.ref a] ∧ SqL K H a (ns.map V.int) ∧ ns.length ≤ 63 ∧ ∀ H', Q (.bl true) H'
variable {P : Program} {w : World} {mg : Str → Option Value} {base : PySem.Heap}
/-- the hand, its cells laid in a name first -/
theorem lfs_ints' : ∀ l : List Int, lfs (l.map PyData.int) = true
  | [] => rfl
  | x :: l => by
    show (lf (.int x) && lfs (l.map PyData.int)) = true
    rw [lfs_ints' l]; rfl
theorem handA_ok {st : Stmt} {fa : Addr} {fd : FuncData} {N : List Str} {γ : Gam} {f : Int → Int} {seed : Int} {n : Nat} {elt ret : Expr} {scope : Scope} {p1 p2 p3 p4 p5 p6 p7 p8 p9 : Pos} {j : Nat} {ce : E} (Fu : L2.Fun K "_law_hand" "_law_hand" st fa fd) (S : FnScope N ["script"] (L2.defScope st)) (hγ : γ = ⟨N, (L2.defScope st).names, [], []⟩)
    (hN : N = [("script" : Str), ("cells" : Str), ("cell" : Str)])
    (hb : L2.defBody st = [.Assign [.Name "cells" p1] (.ListComp elt [⟨.Name "cell" p2, .Subscript (.Name "script" p3) (.Slice none (some (.Constant (.int 63) j p4)) none p5) p6, [], 0⟩] scope p7) p8, .Return (some ret) p9])
    (h1 : γ.stk "cells" = some 1) (h0 : γ.any "script" = some 0) (hsw : swapB γ "cells" p1 (.ListComp elt [⟨.Name "cell" p2, .Subscript (.Name "script" p3) (.Slice none (some (.Constant (.int 63) j p4)) none p5) p6, [], 0⟩] scope p7) = true)
    (hblk : L2.blkC γ.N { kind := .function, names := γ.sc, isGenerator := false, isCoroutine := false } scope (ownOf γ.N scope.names) = true) (hown : ownOf γ.N scope.names = [(("cell" : Str), 2)]) (hcell : ({ γ with sc := scope.names } : Gam).stk "cell" = some 2)
    (hce : cE n { γ with sc := scope.names } elt = some ce) (hw : ce.wf = true) (hpop : ce.popL = []) (hev : ∀ (c : Int) (s : St), rd s 2 = some (.int c) → ev (fun _ _ _ => none) ce s = some (.int (f c), s))
    {es : List Expr} {cs : List E} {pr : Pos} (hes : ret = .List es pr) (hmap : mapO (cE n γ) es = some cs) (hwf : E.wf.wfs cs = true)
    (hret : ∀ ns : List Int, ns.length ≤ 63 → ∃ s', evs (fun _ _ _ => none) cs (put (bare 3 none) 1 (.ow (.list ((ns.map f).map .int)))) = some (handD f seed ns, s'))
    (blt : ∀ x ∈ bltNames, mg x = none) : FnOk P w K mg base CX0 (k + 1) fa fd ["script"] (spHand K f seed) := by
  subst hγ
  refine L2.Fun.ok Fu S (fun vs H Q E h => by obtain ⟨a, ns, rfl, _⟩ := h; rfl) fun cdv A outer s H vs Q E hr hsp => ?_
  have C : CtxD (cxOf CX0 P w K mg base N "_law_hand" (L2.defScope st) fa cdv A outer s H E).nox ⟨N, (L2.defScope st).names, [], []⟩ (fun _ _ _ => none) k := ctx_mk S rfl rfl hr (fun i x h e => by simp at e) blt fun x d e => by simp at e
  obtain ⟨s1, s2, s3⟩ := stk_spec C.toCtx h1
  have hloc : (cxOf CX0 P w K mg base N "_law_hand" (L2.defScope st) fa cdv A outer s H E).nox.env.scope.names.lookup ("cells" : Str) = some .local := by
    unfold swapB compScope at hsw
    simp only [Bool.and_eq_true, beq_iff_eq] at hsw
    rw [C.names]; exact hsw.1.1
  have hsw' := swap_ok (p := p1) (e := .ListComp elt [⟨.Name "cell" p2, .Subscript (.Name "script" p3) (.Slice none (some (.Constant (.int 63) j p4)) none p5) p6, [], 0⟩] scope p7) (x := "cells") (l := p8.line) C
  rw [hsw] at hsw'
  have B := fun s H Ca cl fp => C.toCtx.blk scope s H Ca cl fp
  have hsl : PE (cxOf CX0 P w K mg base N "_law_hand" (L2.defScope st) fa cdv A outer s H E).nox (.Subscript (.Name "script" p3) (.Slice none (some (.Constant (.int 63) j p4)) none p5) p6) (L2.tSl (L2.rSlL K) (L2.tVar 0) L2.tNoPart (L2.tPart (L2.tC (.int 63)))) :=
    L2.pe_slice L2.sl_list (any_spec C.toCtx h0).2 L2.po_none (L2.po_some L2.pe_int)
  have st1 := L2.ps_setLc (spos := p8) (g := gT K (.nm 2)) (tt := tCnd K (fun _ _ _ => none) none) (te := tIE K (fun _ _ _ => none) ce) C.calm C.nd s1 hloc hsw' (L2.pi_list (tg := .Name "cell" p2) hsl) (blk_ok C.toCtx hblk) (fun s H Ca cl fp => pg_nm (B s H Ca cl fp) hcell) (fun s H Ca cl fp => good_cond (c := none) (n := n) (B s H Ca cl fp) (good_all n) rfl rfl) (fun s H Ca cl fp => (good_all n _ _ (B s H Ca cl fp) elt ce hce hw).1) (fold_plain rfl)
  rw [hb]
  subst hes
  refine ⟨_, L2.pss_cons st1 (L2.pss_one (L2.ps_ret (L2.pe_lst (pa_map C.toCtx (good_all n) hmap hwf).1))), ?_⟩
  obtain ⟨a, ns, rfl, hs, hl, kq⟩ := hsp
  subst hN
  rw [hown]
  show L2.tLc (L2.iList K (L2.tSl (L2.rSlL K) (L2.tVar 0) L2.tNoPart (L2.tPart (L2.tC (.int 63))))) (gT K (.nm 2)) (tCnd K (fun _ _ _ => none) none) (tIE K (fun _ _ _ => none) ce) [2] (L2.start [("script" : Str), ("cells" : Str), ("cell" : Str)] [.ref a]) H
    (fun x H1 => tIA K (fun _ _ _ => none) cs ((L2.start [("script" : Str), ("cells" : Str), ("cell" : Str)] [.ref a]).set 1 (some x)) H1 fun vs H2 => vs.length ≤ sizeLine ∧ ∀ p, H2 p = none → Q (.ref p) (upd H2 p (.lst vs)))
  refine comp_script (ic := 2) (n := n) (scope := scope) (elt := elt) hpop hev (a := a) (ns := ns) (show 2 < (L2.start [("script" : Str), ("cells" : Str), ("cell" : Str)] [.ref a]).length from Nat.lt_succ_self 2) rfl hs hl fun H' Dd same hD hDd => ?_
  have R0 : SR K none H (L2.start [("script" : Str), ("cells" : Str), ("cell" : Str)] [.ref a]) H' (bare 3 none) (fun _ => []) [] := bare_ok rfl same
  have rep : Rep K H' (.ref Dd) (.list ((ns.map f).map .int)) (Dd :: ((ns.map f).map fun _ => ([] : List Addr)).flatten) := .list hDd (RepL.of_ints (ns.map f))
  rw [flat_nil] at rep
  have R1 := R0.bindOw (i := 1) (by simp [bare]) rep (fun _ m => by simp) (by simp) (fun b m => by
    have : b = Dd := by simpa using m
    subst this
    exact ⟨hD, by simp, fun _ _ => by simp⟩)
  obtain ⟨s', e1⟩ := hret ns hl
  refine ⟨none, H, _, _, _, _, s', R1, e1, fun vs H2 Fs' Fg' Fxs P hP R2 S2 rl _ => ?_⟩
  have hlen := rl.len.1
  refine ⟨by rw [hlen]; show 5 ≤ sizeLine; decide, fun p hp => ?_⟩
  cases rl with
  | cons r0 t0 =>
    have tl := t0.lfs_nil (by rfl)
    cases r0 with
    | @list b us _ Gs hb rb =>
      have gn : Gs.flatten = [] := rb.lfs_nil (lfs_ints' _)
      have hpb : p ≠ b := fun e => by subst e; rw [hp] at hb; cases hb
      refine kq (.ref p) _ (p :: ((b :: Gs.flatten) :: _).flatten) (.list upd_same ((RepL.cons (.list hb rb) t0).kp (.of_same (upd_keeps hp)))) ?_ fun c o e => ?_
      · rw [List.flatten_cons, tl, gn]
        simpa using hpb
      · rw [upd_ne (ne_of_none (R2.keep c o e (by simp)) hp)]
        exact R2.keep c o e (by simp)
/-- the law -/
theorem law_ok {st : Stmt} {fa fh : Addr} {fd fdh : FuncData} {N rest : List Str} {γ : Gam} {f : Int → Int} {seed : Int} {m n0 : Nat} {sts : List Stmt} {p1 p2 p3 p4 p5 : Pos} (Fu : L2.Fun K "law" "law" st fa fd) (S : FnScope N ["script"] (L2.defScope st)) (hN : γ.N = N) (hsc : γ.sc = (L2.defScope st).names)
    (hN2 : N = ("script" : Str) :: ("hand" : Str) :: rest) (hb : L2.defBody st = .Assign [.Name "hand" p1] (.Call (.Name "_law_hand" p2) [.Name "script" p3] [] p4) p5 :: sts)
    (hh : mg "_law_hand" = some (.ref fh)) (hk : PySem.W.keepIn K (.ref fh) = true) (Hf : FnOk P w K mg base CX0 k fh fdh ["script"] (spHand K f seed)) (hbh : Binds K fdh ["script"] [])
    (hg : isGl ((L2.defScope st).names.lookup ("_law_hand" : Str)) = true) (h0 : γ.any "script" = some 0) (h1 : isSt ((L2.defScope st).names.lookup ("hand" : Str)) = true)
    (fns : ∀ i x h, γ.fns[i]? = some (x, h) → ∃ (f : Addr) (fd : FuncData) (ps : List Str), mg x = some (.ref f) ∧ PySem.W.keepIn K (.ref f) = true ∧ FnOk P w K mg base CX0 k f fd ps (spOf K (F i) h) ∧ Binds K fd ps [])
    (blt : ∀ x ∈ bltNames, mg x = none) (cst : ∀ x d, γ.cst.lookup x = some d → ∃ (u : Value) (v : V), mg x = some u ∧ RelV v u ∧ ∀ H, Rep K H v d [])
    (hrun : ∀ ns : List Int, ns.length ≤ 63 → ∃ n s', exs F n (sts.map (cS m n0 γ)) (put (bare N.length (some (handD f seed ns))) 1 .hd) = some (.ret (.bool true), s')) : FnOk P w K mg base CX0 (k + 1) fa fd ["script"] (spLaw K) := by
  refine L2.Fun.ok Fu S (fun vs H Q E h => by obtain ⟨a, ns, rfl, _⟩ := h; rfl) fun cdv A outer s H vs Q E hr hsp => ?_
  have C : CtxD (cxOf CX0 P w K mg base N "law" (L2.defScope st) fa cdv A outer s H E).nox γ F k := ctx_mk S hN hsc hr fns blt cst
  have hgl : Gl (cxOf CX0 P w K mg base N "law" (L2.defScope st) fa cdv A outer s H E).nox ("_law_hand" : Str) := C.gl _ (by rw [hsc]; exact hg)
  have hst := C.st "hand" (by rw [hsc]; exact h1)
  have N1 : N[1]? = some ("hand" : Str) := by rw [hN2]; rfl
  have call : PE (cxOf CX0 P w K mg base N "law" (L2.defScope st) fa cdv A outer s H E).nox (.Call (.Name "_law_hand" p2) [.Name "script" p3] [] p4) (L2.tCall (spHand K f seed) [] L2.E0 (L2.tCons (L2.tVar 0) L2.tNil)) :=
    L2.pe_call Hf C.room hgl hh hk hbh .nil L2.pass0 (L2.pa_cons (any_spec C.toCtx h0).2 L2.pa_nil) (by decide) rfl rfl
  rw [hb]
  refine ⟨_, L2.pss_cons (L2.ps_set C.nd N1 hst.1 call rfl hst.2) (good_stmts C m n0 sts), ?_⟩
  obtain ⟨a, ns, rfl, hs, hl, kq⟩ := hsp
  have e0 : (L2.start N [.ref a])[0]? = some (some (.ref a)) := by rw [hN2]; rfl
  refine ⟨_, e0, a, ns, rfl, hs, hl, fun v H' Fx rp nd same => ?_⟩
  cases rp with
  | @list l vs _ Gs hl' rl =>
  obtain ⟨n, s', e1⟩ := hrun ns hl
  have hlen : (L2.start N [.ref a]).length = N.length := by rw [hN2]; simp [L2.start]
  have lt1 : 1 < (bare N.length (some (handD f seed ns))).1.length := by rw [hN2]; simp [bare]
  have R : SR K (some l) (fun _ => none) ((L2.start N [.ref a]).set 1 (some (.ref l))) H' (put (bare N.length (some (handD f seed ns))) 1 .hd) (fun _ => []) Gs.flatten := by
    refine ⟨?_, fun i => ?_, fun i d e => ?_, fun i a m => (nomatch m), ⟨vs, Gs, hl', rl, rfl, (List.nodup_cons.mp nd).1⟩, fun b o e _ => by cases e⟩
    · rw [List.length_set, put_len, hlen]; simp [bare]
    · rw [sl_put lt1]
      by_cases z : i = 1
      · subst z
        rw [if_pos rfl]
        exact ⟨rfl, l, rfl, by rw [List.getElem?_set_self (by rw [hlen, hN2]; simp)]⟩
      · rw [if_neg z, sl_bare]; rfl
    · rw [sl_put lt1] at e
      by_cases z : i = 1
      · rw [if_pos z] at e; cases e
      · rw [if_neg z, sl_bare] at e; cases e
  refine ⟨some l, fun _ => none, n, _, _, _, _, s', R, e1, ?_⟩
  intro v H2 Fg' Fx ro
  obtain ⟨rfl, _⟩ := rep_bl ro.rep
  exact kq H2
end Iv
set_option Elab.async false
set_option linter.all false
set_option maxRecDepth 100000
set_option maxHeartbeats 2000000
/-! IvSound23: the hand in one display. -/
namespace Iv
open PySem PySem.Spec PyProof.Rows
open L2 (V Hp HO SqL SqT upd upd_same upd_ne ne_of_none VK TE TA TT TI TS TG Cx Inv RelV Vals PE PT PA PS PSs PW PI PG PGs PO PTs OpR UnR CallR IxR SlR Vis Gl FnOk Room Binds CX0 Sp XK tTest It Walk wipe BlkOk Ends FnScope cxOf)
variable {F : Fns} {k : Nat} {K : PySem.W.Frag} {X : Cx} {γ : Gam}
variable {P : Program} {w : World} {mg : Str → Option Value} {base : PySem.Heap}
theorem handB_ok {st : Stmt} {fa : Addr} {fd : FuncData} {N : List Str} {γ : Gam} {f : Int → Int} {seed : Int} {n : Nat} {elt : Expr} {scope : Scope} {p2 p3 p4 p5 p6 p7 q1 q2 q3 q4 q5 q6 q7 q8 q9 q10 q11 q12 q13 q14 q15 : Pos} {j j0 j1 j2 j3 j4 j5 : Nat} {ce : E} (Fu : L2.Fun K "_law_hand" "_law_hand" st fa fd) (S : FnScope N ["script"] (L2.defScope st)) (hγ : γ = ⟨N, (L2.defScope st).names, [], []⟩)
    (hN : N = [("script" : Str), ("cell" : Str)])
    (hb : L2.defBody st = [.Return (some (.List [.ListComp elt [⟨.Name "cell" p2, .Subscript (.Name "script" p3) (.Slice none (some (.Constant (.int 63) j p4)) none p5) p6, [], 0⟩] scope p7, .Constant (.int 0) j0 q1, .Constant (.int 0) j1 q2,
      .BinOp (.Constant (.int seed) j2 q3) .Add (.BinOp (.Constant (.int 7) j3 q4) .Mult (.Call (.Name "len" q5) [.Subscript (.Name "script" q6) (.Slice none (some (.Constant (.int 63) j5 q7)) none q8) q9] [] q10) q11) q12, .Constant (.int 0) j4 q13] q14)) q15])
    (h0 : γ.any "script" = some 0) (hlen : isGl ((L2.defScope st).names.lookup ("len" : Str)) = true)
    (hblk : L2.blkC γ.N { kind := .function, names := γ.sc, isGenerator := false, isCoroutine := false } scope (ownOf γ.N scope.names) = true) (hown : ownOf γ.N scope.names = [(("cell" : Str), 1)]) (hcell : ({ γ with sc := scope.names } : Gam).stk "cell" = some 1)
    (hce : cE n { γ with sc := scope.names } elt = some ce) (hw : ce.wf = true) (hpop : ce.popL = []) (hev : ∀ (c : Int) (s : St), rd s 1 = some (.int c) → ev (fun _ _ _ => none) ce s = some (.int (f c), s))
    (blt : ∀ x ∈ bltNames, mg x = none) : FnOk P w K mg base CX0 (k + 1) fa fd ["script"] (spHand K f seed) := by
  subst hγ
  refine L2.Fun.ok Fu S (fun vs H Q E h => by obtain ⟨a, ns, rfl, _⟩ := h; rfl) fun cdv A outer s H vs Q E hr hsp => ?_
  have C : CtxD (cxOf CX0 P w K mg base N "_law_hand" (L2.defScope st) fa cdv A outer s H E).nox ⟨N, (L2.defScope st).names, [], []⟩ (fun _ _ _ => none) k := ctx_mk S rfl rfl hr (fun i x h e => by simp at e) blt fun x d e => by simp at e
  have B := fun s H Ca cl fp => C.toCtx.blk scope s H Ca cl fp
  have hsl : ∀ {z1 z2 z3 z4 : Pos} {zj : Nat}, PE (cxOf CX0 P w K mg base N "_law_hand" (L2.defScope st) fa cdv A outer s H E).nox (.Subscript (.Name "script" z1) (.Slice none (some (.Constant (.int 63) zj z2)) none z3) z4) (L2.tSl (L2.rSlL K) (L2.tVar 0) L2.tNoPart (L2.tPart (L2.tC (.int 63)))) :=
    L2.pe_slice L2.sl_list (any_spec C.toCtx h0).2 L2.po_none (L2.po_some L2.pe_int)
  have lc := L2.pe_lc (pos := p7) (g := gT K (.nm 1)) (tt := tCnd K (fun _ _ _ => none) none) (te := tIE K (fun _ _ _ => none) ce) C.calm C.nd (L2.pi_list (tg := .Name "cell" p2) (hsl (z1 := p3) (z2 := p4) (z3 := p5) (z4 := p6) (zj := j))) (blk_ok C.toCtx hblk) (fun s H Ca cl fp => pg_nm (B s H Ca cl fp) hcell)
    (fun s H Ca cl fp => good_cond (ifs := []) (c := none) (n := n) (B s H Ca cl fp) (good_all n) rfl rfl) (fun s H Ca cl fp => (good_all n _ _ (B s H Ca cl fp) elt ce hce hw).1) (fold_plain rfl)
  have hgl : Gl (cxOf CX0 P w K mg base N "_law_hand" (L2.defScope st) fa cdv A outer s H E).nox ("len" : Str) := C.gl _ hlen
  have ln := L2.pe_callB (pos := q10) (p := q5) L2.call_len_seq hgl (blt ("len" : Str) (by decide +kernel)) (by decide +kernel) (L2.pa_cons (hsl (z1 := q6) (z2 := q7) (z3 := q8) (z4 := q9) (zj := j5)) L2.pa_nil rfl) (by decide) (by decide) rfl rfl
  rw [hb]
  refine ⟨_, L2.pss_one (L2.ps_ret (L2.pe_lst (L2.pa_cons lc (L2.pa_cons L2.pe_int (L2.pa_cons L2.pe_int (L2.pa_cons (L2.pe_add L2.pe_int (L2.pe_mul L2.pe_int ln)) (L2.pa_cons L2.pe_int L2.pa_nil))))))), ?_⟩
  obtain ⟨a, ns, rfl, hs, hl, kq⟩ := hsp
  subst hN
  rw [hown]
  unfold L2.tRet L2.tLst
  simp only [L2.tCons, List.map_cons, List.map_nil]
  refine comp_script (F := fun _ _ _ => none) (ic := 1) (n := n) (scope := scope) (elt := elt) hpop hev (a := a) (ns := ns) (σ := L2.start [("script" : Str), ("cell" : Str)] [.ref a]) (show 1 < (L2.start [("script" : Str), ("cell" : Str)] [.ref a]).length from Nat.lt_succ_self 1) rfl hs hl fun H1 Dd same hD hDd => ?_
  refine ⟨_, rfl, 63, rfl, a, _, rfl, sq_mono hs same, fun p hp => ⟨p, _, rfl, .inl (SqL.of' upd_same), ⟨7, _, rfl, rfl, ⟨by decide, by decide⟩, ⟨seed, _, rfl, rfl, ?_⟩⟩⟩⟩
  rw [cut63 (by simpa using hl)]
  refine ⟨(by decide : 5 ≤ sizeLine), fun q hq => ?_⟩
  have hqp : q ≠ p := fun z => by subst z; rw [upd_same] at hq; cases hq
  have hq1 : H1 q = none := by rw [upd_ne hqp] at hq; exact hq
  have hDq : Dd ≠ q := fun z => by subst z; rw [hDd] at hq1; cases hq1
  have hDp : Dd ≠ p := fun z => by subst z; rw [hDd] at hp; cases hp
  have keep2 : ∀ b o, H1 b = some o → upd (upd H1 p (.lst (ns.map V.int))) q (.lst [.ref Dd, .int 0, .int 0, .int (seed + 7 * ((ns.map V.int).length : Nat)), .int 0]) b = some o := fun b o e => by
    rw [upd_ne (show b ≠ q by intro z; subst z; rw [hq1] at e; cases e), upd_ne (show b ≠ p by intro z; subst z; rw [hp] at e; cases e)]; exact e
  have repC : Rep K (upd (upd H1 p (.lst (ns.map V.int))) q (.lst [.ref Dd, .int 0, .int 0, .int (seed + 7 * ((ns.map V.int).length : Nat)), .int 0])) (.ref Dd) (.list ((ns.map f).map .int)) (Dd :: ((ns.map f).map fun _ => ([] : List Addr)).flatten) := .list (keep2 _ _ hDd) (RepL.of_ints (ns.map f))
  rw [flat_nil] at repC
  have rep : Rep K (upd (upd H1 p (.lst (ns.map V.int))) q (.lst [.ref Dd, .int 0, .int 0, .int (seed + 7 * ((ns.map V.int).length : Nat)), .int 0])) (.ref q) (.list (handD f seed ns)) (q :: ([[Dd], [], [], [], []] : List (List Addr)).flatten) := by
    unfold handD
    refine .list upd_same (.cons repC (.cons (.int _) (.cons (.int _) (.cons ?_ (.cons (.int _) .nil)))))
    rw [List.length_map]
    exact .int _
  exact kq (.ref q) _ _ rep (by simp [Ne.symm hDq]) fun b o e => keep2 b o (same b o e)
end Iv
set_option Elab.async false
set_option linter.all false
set_option maxRecDepth 100000
/-! IvEval: plain rules for running what was read (for the laws' own runs). -/
namespace Iv
open PySem
theorem eqv_int (a b : Int) : PyData.eqv (.int a) (.int b) = decide (a = b) := by
  by_cases h : a = b <;> simp [PyData.eqv, h]
@[simp] theorem o_add (a b : Int) : opS .add [.int a, .int b] = some (.int (a + b)) := (rfl)
@[simp] theorem o_sub (a b : Int) : opS .sub [.int a, .int b] = some (.int (a - b)) := (rfl)
@[simp] theorem o_neg (a : Int) : opS .neg [.int a] = some (.int (-a)) := (rfl)
@[simp] theorem o_lt (a b : Int) : opS .lt [.int a, .int b] = some (.bool (decide (a < b))) := (rfl)
@[simp] theorem o_le (a b : Int) : opS .le [.int a, .int b] = some (.bool (decide (a ≤ b))) := (rfl)
@[simp] theorem o_gt (a b : Int) : opS .gt [.int a, .int b] = some (.bool (decide (b < a))) := (rfl)
@[simp] theorem o_ge (a b : Int) : opS .ge [.int a, .int b] = some (.bool (decide (b ≤ a))) := (rfl)
@[simp] theorem o_eqI (a b : Int) : opS .eq [.int a, .int b] = some (.bool (decide (a = b))) := by
  show some (PyData.bool (PyData.eqv (.int a) (.int b))) = _
  rw [eqv_int]
@[simp] theorem o_neI (a b : Int) : opS .ne [.int a, .int b] = some (.bool (!decide (a = b))) := by
  show some (PyData.bool (!PyData.eqv (.int a) (.int b))) = _
  rw [eqv_int]
@[simp] theorem o_len (xs : List D) : opS .len [.list xs] = some (.int xs.length) := (rfl)
@[simp] theorem o_lenT (xs : List D) : opS .len [.tuple xs] = some (.int xs.length) := (rfl)
@[simp] theorem o_tuple (xs : List D) : opS .tuple [.list xs] = some (.tuple xs) := (rfl)
@[simp] theorem o_list (xs : List D) : opS .list [.tuple xs] = some (.list xs) := (rfl)
@[simp] theorem o_listL (xs : List D) : opS .list [.list xs] = some (.list xs) := (rfl)
@[simp] theorem o_lst0 : opS .lstD [] = some (.list []) := (rfl)
@[simp] theorem o_lst1 (a : D) : opS .lstD [a] = some (.list [a]) := (rfl)
@[simp] theorem o_tup0 : opS .tupD [] = some (.tuple []) := (rfl)
@[simp] theorem o_tup1 (a : D) : opS .tupD [a] = some (.tuple [a]) := (rfl)
@[simp] theorem o_tup2 (a b : D) : opS .tupD [a, b] = some (.tuple [a, b]) := (rfl)
@[simp] theorem o_ixL (xs : List D) (i : Int) : opS .ix [.list xs, .int i] = atI xs i := (rfl)
@[simp] theorem o_ixT (xs : List D) (i : Int) : opS .ix [.tuple xs, .int i] = atI xs i := (rfl)
@[simp] theorem o_intI (i : Int) : opS .int [.int i] = some (.int i) := (rfl)
@[simp] theorem o_intB (b : Bool) : opS .int [.bool b] = some (.int (if b then 1 else 0)) := (rfl)
@[simp] theorem o_abs (i : Int) : opS .abs [.int i] = some (.int (if i < 0 then -i else i)) := (rfl)
@[simp] theorem o_idx (i : Int) : opS .idx [.int i] = some (.int i) := (rfl)
@[simp] theorem o_max2 (i j : Int) : opS .max2 [.int i, .int j] = some (.int (if j > i then j else i)) := (rfl)
@[simp] theorem o_min2 (i j : Int) : opS .min2 [.int i, .int j] = some (.int (if j < i then j else i)) := (rfl)
@[simp] theorem o_isint (i : Int) : opS .isint [.int i] = some (.bool true) := (rfl)
@[simp] theorem o_isboolI (i : Int) : opS .isbool [.int i] = some (.bool false) := (rfl)
@[simp] theorem o_istupT (xs : List D) : opS .istup [.tuple xs] = some (.bool true) := (rfl)
theorem loopL_nx {t : D → St → Option (Fl × St)} {v : D} {vs : List D} {s s1 : St} (h : t v s = some (.nx, s1)) : loopL t (v :: vs) s = loopL t vs s1 := by
  simp [loopL, h]
theorem loopL_ret {t : D → St → Option (Fl × St)} {v x : D} {vs : List D} {s s1 : St} (h : t v s = some (.ret x, s1)) : loopL t (v :: vs) s = some (.ret x, s1) := by
  simp [loopL, h]
theorem loopL_nil {t : D → St → Option (Fl × St)} {s : St} : loopL t [] s = some (.nx, s) := rfl
theorem whileL_end {c : St → Option (D × St)} {b : St → Option (Fl × St)} {n : Nat} {s s1 : St} (h : c s = some (.bool false, s1)) : whileL c b (n + 1) s = some (.nx, s1) := by
  simp [whileL, h]
theorem whileL_nx {c : St → Option (D × St)} {b : St → Option (Fl × St)} {n : Nat} {s s1 s2 : St} (h : c s = some (.bool true, s1)) (h2 : b s1 = some (.nx, s2)) : whileL c b (n + 1) s = whileL c b n s2 := by
  simp [whileL, h, h2]
section
variable {F : Fns} {n : Nat}
theorem exs_nx {x : S} {xs : List S} {s s1 : St} (h : ex F n x s = some (.nx, s1)) : exs F n (x :: xs) s = exs F n xs s1 := by
  simp [exs, h]
theorem exs_ret {x : S} {xs : List S} {s s1 : St} {d : D} (h : ex F n x s = some (.ret d, s1)) : exs F n (x :: xs) s = some (.ret d, s1) := by
  simp [exs, h]
theorem exs_nil {s : St} : exs F n [] s = some (.nx, s) := by simp [exs]
theorem ex_for {t : Tg} {k : IK} {es : List E} {b : List S} {s s1 : St} {ds vs : List D} (h1 : evs F es s = some (ds, s1)) (h2 : itS k ds = some vs) :
    ex F n (.for t k es b) s = loopL (fun v s => (bindTg t v s).bind fun s1 => exs F n b s1) vs (shareE (shM k es) s1) := by
  simp [ex, h1, h2]
theorem run_ret {slots : Nat} {body : List S} {args : List D} {g g' : G} {s s' : List Sl} {d : D} (hs : args.map Sl.sh ++ List.replicate (slots - args.length - 0) Sl.no = s) (h : exs F n body (s, g) = some (.ret d, (s', g'))) : Iv.run F n slots false body args g = some (d, g') := by
  subst hs
  unfold Iv.run
  simp only [Bool.false_eq_true, if_false, List.nil_append]
  rw [h]; rfl
end
theorem compL_map {t : D → G → Option (Option D × G)} {g : G} {f : D → D} : ∀ {vs : List D}, (∀ v ∈ vs, t v g = some (some (f v), g)) → compL t vs g = some (vs.map f, g)
  | [], _ => rfl
  | v :: vs, h => by
    unfold compL
    rw [h v List.mem_cons_self]
    simp [compL_map fun u m => h u (List.mem_cons_of_mem _ m)]
theorem boolsOf_map {f : D → Bool} : ∀ vs : List D, boolsOf (vs.map fun v => .bool (f v)) = some (vs.map f)
  | [] => rfl
  | v :: vs => by
    rw [List.map_cons]
    unfold boolsOf
    rw [boolsOf_map vs]; rfl
theorem ev_comp {F : Fns} {t : Tg} {k : IK} {es : List E} {elt : E} {s : St} {ds vs : List D} {f : D → D} (h1 : evs F es s = some (ds, s)) (h2 : itS k ds = some vs) (hl : vs.length ≤ line)
    (h3 : ∀ v ∈ vs, ∃ s1 s2, bindTg t v ((clr t.slots (shareE (E.mentions.ms es) s)).1, s.2) = some s1 ∧ ev F elt s1 = some (f v, (s2, s.2))) : ev F (.comp t k es none elt) s = some (.list (vs.map f), s) := by
  unfold ev
  rw [h1, Option.bind_some, h2, Option.bind_some]
  rw [compL_map (g := s.2) (f := f) (fun v m => by
    obtain ⟨s1, s2, e1, e2⟩ := h3 v m
    show (bindTg t v ((clr t.slots (shareE (E.mentions.ms es) s)).1, s.2)).bind _ = _
    rw [e1, Option.bind_some]
    simp [e2])]
  simp [hl]
end Iv
set_option Elab.async false
set_option linter.all false
set_option maxRecDepth 100000
/-! IvSimp: the meaning as rules that simp runs (own work). -/
namespace Iv
open PySem
def cond1 {α : Type} (d : D) (t f : Option α) : Option α := match d with
  | .bool true => t
  | .bool false => f
  | _ => none
@[simp] theorem cond1_bool {α : Type} (b : Bool) (t f : Option α) : cond1 (.bool b) t f = if b = true then t else f := by cases b <;> rfl
def asB {α : Type} (d : D) (k : Bool → Option α) : Option α := match d with
  | .bool b => k b
  | _ => none
@[simp] theorem asB_bool {α : Type} (b : Bool) (k : Bool → Option α) : asB (.bool b) k = k b := (rfl)
def asI {α : Type} (d : D) (k : Int → Option α) : Option α := match d with
  | .int b => k b
  | _ => none
@[simp] theorem asI_int {α : Type} (b : Int) (k : Int → Option α) : asI (.int b) k = k b := (rfl)
def rdS : Option Sl → Option D
  | some (.sh v) => some v
  | some (.ow v) => some v
  | _ => none
@[simp] theorem rdS_sh (v : D) : rdS (some (.sh v)) = some v := (rfl)
@[simp] theorem rdS_ow (v : D) : rdS (some (.ow v)) = some v := (rfl)
def ownS : Option Sl → Option D
  | some (.ow v) => some v
  | _ => none
@[simp] theorem ownS_ow (v : D) : ownS (some (.ow v)) = some v := (rfl)
def isLst : Option D → Bool
  | some (.list _) => true
  | _ => false
@[simp] theorem isLst_l (v : List D) : isLst (some (.list v)) = true := (rfl)
def isHdS : Option Sl → Bool
  | some .hd => true
  | _ => false
@[simp] theorem isHdS_hd : isHdS (some .hd) = true := (rfl)
@[simp] theorem rd_mk (l : Env) (g : G) (i : Nat) : rd (l, g) i = rdS l[i]? := by unfold rd; rfl
@[simp] theorem own_mk (l : Env) (g : G) (i : Nat) : own (l, g) i = ownS l[i]? := by unfold own; rfl
@[simp] theorem hasL_mk (l : Env) (g : G) (i : Nat) : hasL (l, g) i = isLst (ownS l[i]?) := by unfold hasL; rw [own_mk]; rfl
@[simp] theorem isHd_mk (l : Env) (g : G) (i : Nat) : isHd (l, g) i = isHdS l[i]? := by unfold isHd; rfl
@[simp] theorem hdOk_none (s : St) : hdOk s none = true := (rfl)
@[simp] theorem hdOk_some (l : Env) (g : G) (i : Nat) : hdOk (l, g) (some i) = isHdS l[i]? := isHd_mk l g i
@[simp] theorem put_mk (l : Env) (g : G) (i : Nat) (x : Sl) : put (l, g) i x = (l.set i x, g) := (rfl)
section
variable {F : Fns} {n : Nat}
@[simp] theorem ev_cst (v : D) (s : St) : ev F (.cst v) s = some (v, s) := by unfold ev; rfl
@[simp] theorem ev_var (i : Nat) (s : St) : ev F (.var i) s = (rd s i).map fun v => (v, s) := by unfold ev; rfl
@[simp] theorem ev_op (o : Op) (es : List E) (s : St) : ev F (.op o es) s = (evs F es s).bind fun r => (opS o r.1).map fun v => (v, r.2) := by rw [ev]
@[simp] theorem ev_and (a b : E) (s : St) : ev F (.and a b) s = (ev F a s).bind fun r => cond1 r.1 ((ev F b r.2).bind fun q => asB q.1 fun c => some (.bool c, q.2)) (some (.bool false, r.2)) := by rw [ev]; rfl
@[simp] theorem ev_or (a b : E) (s : St) : ev F (.or a b) s = (ev F a s).bind fun r => cond1 r.1 (some (.bool true, r.2)) ((ev F b r.2).bind fun q => asB q.1 fun c => some (.bool c, q.2)) := by
  rw [ev]
  congr; funext r
  unfold cond1
  split
  · rename_i h; rw [h]; rfl
  · rename_i h; rw [h]
  · rename_i h1 h2
    split
    · rename_i h; exact absurd h h2
    · rename_i h; exact absurd h h1
    · rfl
@[simp] theorem ev_not (a : E) (s : St) : ev F (.not a) s = (ev F a s).bind fun r => asB r.1 fun b => some (.bool (!b), r.2) := by rw [ev]; rfl
@[simp] theorem ev_ifx (c a b : E) (s : St) : ev F (.ifx c a b) s = (ev F c s).bind fun r => cond1 r.1 (ev F a r.2) (ev F b r.2) := by rw [ev]; rfl
def chainK (o2 : Op) (q : D) (x : Option D) (t : Option (D × St)) (s : St) : Option (D × St) := x.bind fun d => cond1 d (t.bind fun t => (opS o2 [q, t.1]).bind fun d => asB d fun b => some (.bool b, t.2)) (some (.bool false, s))
@[simp] theorem ev_chain (o1 o2 : Op) (a b c : E) (s : St) : ev F (.chain o1 o2 a b c) s = (ev F a s).bind fun r => (ev F b r.2).bind fun q => (opS o1 [r.1, q.1]).bind fun d => cond1 d ((ev F c q.2).bind fun t => (opS o2 [q.1, t.1]).bind fun d => asB d fun b => some (.bool b, t.2)) (some (.bool false, q.2)) := by
  rw [ev]
  congr; funext r
  congr; funext q
  cases opS o1 [r.1, q.1] with
  | none => rfl
  | some d =>
    rw [Option.bind_some]
    unfold cond1
    split
    · rename_i h; cases h
      dsimp only
      congr; funext t
      cases opS o2 [q.1, t.1] with
      | none => rfl
      | some d =>
        rw [Option.bind_some]
        unfold asB
        split
        · rename_i h; cases h; rfl
        · rename_i h1
          split
          · exact absurd rfl (h1 _)
          · rfl
    · rename_i h; cases h; rfl
    · rename_i h1 h2
      split
      · exact absurd rfl h1
      · exact absurd rfl h2
      · rfl
@[simp] theorem ev_call (f : Nat) (h : Option Nat) (es : List E) (s : St) : ev F (.call f h es) s = if hdOk s h = true then (evs F es s).bind fun r => (F f r.1 r.2.2).map fun q => (q.1, (r.2.1, q.2)) else none := by rw [ev]
@[simp] theorem evs_nil (s : St) : evs F [] s = some ([], s) := by rw [evs]
@[simp] theorem evs_cs (e : E) (es : List E) (s : St) : evs F (e :: es) s = (ev F e s).bind fun r => (evs F es r.2).map fun q => (r.1 :: q.1, q.2) := by rw [evs]
@[simp] theorem ev_hix (i : Nat) (e : E) (s : St) : ev F (.hix i e) s = if isHd s i = true then (ev F e s).bind fun r => asI r.1 fun k => r.2.2.bind fun g => (atI g k).map fun v => (v, r.2) else none := by
  rw [ev]
  congr; funext r
  unfold asI
  cases r.1 <;> first | rfl | (cases r.2.2 <;> rfl)
@[simp] theorem exs_nil' (s : St) : exs F n [] s = some (.nx, s) := by rw [exs]
def seqK (r : Option (Fl × St)) (k : St → Option (Fl × St)) : Option (Fl × St) := r.bind fun r => match r.1 with
  | .nx => k r.2
  | f => some (f, r.2)
@[simp] theorem seqK_nx (s : St) (k : St → Option (Fl × St)) : seqK (some (.nx, s)) k = k s := (rfl)
@[simp] theorem seqK_ret (v : D) (s : St) (k : St → Option (Fl × St)) : seqK (some (.ret v, s)) k = some (.ret v, s) := (rfl)
@[simp] theorem seqK_brk (s : St) (k : St → Option (Fl × St)) : seqK (some (.brk, s)) k = some (.brk, s) := (rfl)
@[simp] theorem seqK_cnt (s : St) (k : St → Option (Fl × St)) : seqK (some (.cnt, s)) k = some (.cnt, s) := (rfl)
@[simp] theorem seqK_if (p : Prop) [Decidable p] (a b : Option (Fl × St)) (k : St → Option (Fl × St)) : seqK (if p then a else b) k = if p then seqK a k else seqK b k := by split <;> rfl
@[simp] theorem exs_cons (x : S) (xs : List S) (s : St) : exs F n (x :: xs) s = seqK (ex F n x s) (exs F n xs) := by
  rw [exs]; rfl
@[simp] theorem ex_asg (i : Nat) (e : E) (s : St) : ex F n (.asg i e) s = (ev F e s).bind fun r => (store i e r.1 r.2).map fun s => (.nx, s) := by rw [ex]
@[simp] theorem ex_ite (c : E) (a b : List S) (s : St) : ex F n (.ite c a b) s = (ev F c s).bind fun r => cond1 r.1 (exs F n a r.2) (exs F n b r.2) := by rw [ex]; rfl
@[simp] theorem ex_drop (e : E) (s : St) : ex F n (.drop e) s = (ev F e s).map fun r => (.nx, r.2) := by rw [ex]
@[simp] theorem ex_retS (e : E) (s : St) : ex F n (.ret e) s = (ev F e s).bind fun r => if sealR e r.1 r.2 = true then some (.ret r.1, r.2) else none := by rw [ex]
@[simp] theorem ex_brk (s : St) : ex F n .brk s = some (.brk, s) := by rw [ex]
@[simp] theorem ex_cnt (s : St) : ex F n .cnt s = some (.cnt, s) := by rw [ex]
@[simp] theorem ex_pass (s : St) : ex F n .pass s = some (.nx, s) := by rw [ex]
@[simp] theorem ex_par (is : List Nat) (es : List E) (s : St) : ex F n (.par is es) s = (evs F es s).bind fun r => if is.length = r.1.length ∧ ((es.zip r.1).all fun p => p.1.fresh p.2 || lf p.2) = true then
      some (.nx, (is.zip (es.zip r.1)).foldl (fun s p => put s p.1 (if p.2.1.fresh p.2.2 = true then .ow p.2.2 else .sh p.2.2)) r.2) else none := by rw [ex]
@[simp] theorem ex_aug (i : Nat) (o : Op) (e : E) (s : St) : ex F n (.aug i o e) s = (rd s i).bind fun a => (ev F e s).bind fun r => asI a fun x => asI r.1 fun y => (opS o [.int x, .int y]).map fun v => (.nx, put r.2 i (.ow v)) := by
  rw [ex]
  congr; funext a
  cases ev F e s with
  | none => cases a <;> rfl
  | some r =>
    rw [Option.bind_some, Option.bind_some]
    unfold asI
    cases a <;> first | rfl | (cases r.1 <;> rfl)
def appK (i : Nat) (v : D) (s : St) : Option D → Option (Fl × St)
  | some (.list xs) => if xs.length < line then some (.nx, put s i (.ow (.list (xs ++ [v])))) else none
  | _ => none
@[simp] theorem appK_l (i : Nat) (v : D) (s : St) (xs : List D) : appK i v s (some (.list xs)) = if xs.length < line then some (.nx, put s i (.ow (.list (xs ++ [v])))) else none := (rfl)
@[simp] theorem ex_append (i : Nat) (e : E) (s : St) : ex F n (.append i e) s = if hasL s i = true then (ev F e s).bind fun r => (sealV e r.1 r.2).bind fun s1 => appK i r.1 s1 (own s1 i) else none := by rw [ex]; rfl
def extK (i : Nat) (e : E) (v : D) (s : St) : Option D → Option (Fl × St)
  | some (.list xs) => match v with
    | .list ys => if xs.length + ys.length ≤ line ∧ (e.fresh (.list ys) || lfs ys) = true then some (.nx, put s i (.ow (.list (xs ++ ys)))) else none
    | _ => none
  | _ => none
@[simp] theorem extK_l (i : Nat) (e : E) (s : St) (xs ys : List D) : extK i e (.list ys) s (some (.list xs)) = if xs.length + ys.length ≤ line ∧ (e.fresh (.list ys) || lfs ys) = true then some (.nx, put s i (.ow (.list (xs ++ ys)))) else none := (rfl)
@[simp] theorem ex_extend (i : Nat) (e : E) (s : St) : ex F n (.extend i e) s = if hasL s i = true then (ev F e s).bind fun r => extK i e r.1 r.2 (own r.2 i) else none := by
  rw [ex]
  congr; funext r
  cases own r.2 i with
  | none => cases r.1 <;> rfl
  | some d => cases r.1 <;> cases d <;> rfl
@[simp] theorem ex_setH (i : Nat) (ix e : E) (s : St) : ex F n (.setH i ix e) s = if isHd s i = true then (ev F e s).bind fun r => if lf r.1 = true then (ev F ix r.2).bind fun q => asI q.1 fun k => q.2.2.bind fun g => (ixN g.length k).map fun j => (.nx, (q.2.1, some (g.set j r.1))) else none else none := by
  rw [ex]
  congr; funext r
  congr; funext q
  unfold asI
  cases q.1 <;> first | rfl | (cases q.2.2 <;> rfl)
@[simp] theorem ex_while (c : E) (b : List S) (s : St) : ex F n (.while c b) s = whileL (ev F c) (exs F n b) n s := by rw [ex]
end
/-! ### ifs go inward -/
@[simp] theorem if_bool_and {σ : Type} (p : Prop) [Decidable p] (q : Bool) (s : σ) : (if p then some (PyData.bool q, s) else some (PyData.bool false, s)) = some (PyData.bool (decide p && q), s) := by
  by_cases h : p <;> simp [h]
@[simp] theorem if_bool_or {σ : Type} (p : Prop) [Decidable p] (q : Bool) (s : σ) : (if p then some (PyData.bool true, s) else some (PyData.bool q, s)) = some (PyData.bool (decide p || q), s) := by
  by_cases h : p <;> simp [h]
@[simp] theorem if_int {σ : Type} (p : Prop) [Decidable p] (a b : Int) (s : σ) : (if p then some (PyData.int a, s) else some (PyData.int b, s)) = some (PyData.int (if p then a else b), s) := by
  by_cases h : p <;> simp [h]
/-! ### what is new, what is seen -/
def freshOp (o : Op) (v : D) (es : List E) : Bool := match o, v with
  | .lstD, .list xs => E.fresh.frl es xs
  | .tupD, .tuple xs => E.fresh.frl es xs
  | _, .list xs => allocOp o && lfs xs
  | _, _ => false
@[simp] theorem fresh_op (o : Op) (es : List E) (v : D) : E.fresh (.op o es) v = (atomOp o || E.fr.frs es || freshOp o v es) := by unfold E.fresh; rfl
@[simp] theorem freshOp_lstD (es : List E) (xs : List D) : freshOp .lstD (.list xs) es = E.fresh.frl es xs := (rfl)
@[simp] theorem freshOp_tupD (es : List E) (xs : List D) : freshOp .tupD (.tuple xs) es = E.fresh.frl es xs := (rfl)
@[simp] theorem freshOp_add (es : List E) (xs : List D) : freshOp .add (.list xs) es = lfs xs := (rfl)
@[simp] theorem freshOp_addT (es : List E) (xs : List D) : freshOp .add (.tuple xs) es = false := (rfl)
@[simp] theorem freshOp_mul (es : List E) (xs : List D) : freshOp .mul (.list xs) es = lfs xs := (rfl)
@[simp] theorem freshOp_mulT (es : List E) (xs : List D) : freshOp .mul (.tuple xs) es = false := (rfl)
@[simp] theorem freshOp_slice (es : List E) (xs : List D) : freshOp .slice (.list xs) es = lfs xs := (rfl)
@[simp] theorem freshOp_sliceT (es : List E) (xs : List D) : freshOp .slice (.tuple xs) es = false := (rfl)
@[simp] theorem freshOp_slrev (es : List E) (xs : List D) : freshOp .slrev (.list xs) es = lfs xs := (rfl)
@[simp] theorem freshOp_slrevT (es : List E) (xs : List D) : freshOp .slrev (.tuple xs) es = false := (rfl)
@[simp] theorem freshOp_list (es : List E) (xs : List D) : freshOp .list (.list xs) es = lfs xs := (rfl)
@[simp] theorem freshOp_listT (es : List E) (xs : List D) : freshOp .list (.tuple xs) es = false := (rfl)
@[simp] theorem freshOp_ix (es : List E) (xs : List D) : freshOp .ix (.list xs) es = false := (rfl)
@[simp] theorem freshOp_ixT (es : List E) (xs : List D) : freshOp .ix (.tuple xs) es = false := (rfl)
@[simp] theorem freshOp_ix_int (es : List E) (xs : Int) : freshOp .ix (.int xs) es = false := (rfl)
@[simp] theorem freshOp_ix_bool (es : List E) (xs : Bool) : freshOp .ix (.bool xs) es = false := (rfl)
@[simp] theorem freshOp_ix_str (es : List E) (xs : Str) : freshOp .ix (.str xs) es = false := (rfl)
@[simp] theorem freshOp_ix_none (es : List E) : freshOp .ix .none es = false := (rfl)
@[simp] theorem freshOp_tuple (es : List E) (xs : List D) : freshOp .tuple (.list xs) es = false := (rfl)
@[simp] theorem freshOp_tupleT (es : List E) (xs : List D) : freshOp .tuple (.tuple xs) es = false := (rfl)
@[simp] theorem freshOp_tuple_int (es : List E) (xs : Int) : freshOp .tuple (.int xs) es = false := (rfl)
@[simp] theorem freshOp_tuple_bool (es : List E) (xs : Bool) : freshOp .tuple (.bool xs) es = false := (rfl)
@[simp] theorem freshOp_tuple_str (es : List E) (xs : Str) : freshOp .tuple (.str xs) es = false := (rfl)
@[simp] theorem freshOp_tuple_none (es : List E) : freshOp .tuple .none es = false := (rfl)
@[simp] theorem freshOp_add_int (es : List E) (xs : Int) : freshOp .add (.int xs) es = false := (rfl)
@[simp] theorem freshOp_mul_int (es : List E) (xs : Int) : freshOp .mul (.int xs) es = false := (rfl)
@[simp] theorem atomOp_sub : atomOp .sub = true := (rfl)
@[simp] theorem atomOp_fdiv : atomOp .fdiv = true := (rfl)
@[simp] theorem atomOp_mod : atomOp .mod = true := (rfl)
@[simp] theorem atomOp_pow : atomOp .pow = true := (rfl)
@[simp] theorem atomOp_neg : atomOp .neg = true := (rfl)
@[simp] theorem atomOp_eq : atomOp .eq = true := (rfl)
@[simp] theorem atomOp_ne : atomOp .ne = true := (rfl)
@[simp] theorem atomOp_lt : atomOp .lt = true := (rfl)
@[simp] theorem atomOp_le : atomOp .le = true := (rfl)
@[simp] theorem atomOp_gt : atomOp .gt = true := (rfl)
@[simp] theorem atomOp_ge : atomOp .ge = true := (rfl)
@[simp] theorem atomOp_isin : atomOp .isin = true := (rfl)
@[simp] theorem atomOp_notin : atomOp .notin = true := (rfl)
@[simp] theorem atomOp_is_ : atomOp .is_ = true := (rfl)
@[simp] theorem atomOp_isnt : atomOp .isnt = true := (rfl)
@[simp] theorem atomOp_len : atomOp .len = true := (rfl)
@[simp] theorem atomOp_abs : atomOp .abs = true := (rfl)
@[simp] theorem atomOp_int : atomOp .int = true := (rfl)
@[simp] theorem atomOp_max2 : atomOp .max2 = true := (rfl)
@[simp] theorem atomOp_min2 : atomOp .min2 = true := (rfl)
@[simp] theorem atomOp_maxL : atomOp .maxL = true := (rfl)
@[simp] theorem atomOp_minL : atomOp .minL = true := (rfl)
@[simp] theorem atomOp_sum : atomOp .sum = true := (rfl)
@[simp] theorem atomOp_all : atomOp .all = true := (rfl)
@[simp] theorem atomOp_any : atomOp .any = true := (rfl)
@[simp] theorem atomOp_sorted : atomOp .sorted = true := (rfl)
@[simp] theorem atomOp_isint : atomOp .isint = true := (rfl)
@[simp] theorem atomOp_isbool : atomOp .isbool = true := (rfl)
@[simp] theorem atomOp_istup : atomOp .istup = true := (rfl)
@[simp] theorem atomOp_isstr : atomOp .isstr = true := (rfl)
@[simp] theorem atomOp_islist : atomOp .islist = true := (rfl)
@[simp] theorem atomOp_idx : atomOp .idx = true := (rfl)
@[simp] theorem atomOp_lrng : atomOp .lrng = true := (rfl)
@[simp] theorem atomOp_ndist : atomOp .ndist = true := (rfl)
@[simp] theorem atomOp_add : atomOp .add = false := (rfl)
@[simp] theorem atomOp_mul : atomOp .mul = false := (rfl)
@[simp] theorem atomOp_slice : atomOp .slice = false := (rfl)
@[simp] theorem atomOp_slrev : atomOp .slrev = false := (rfl)
@[simp] theorem atomOp_lstD : atomOp .lstD = false := (rfl)
@[simp] theorem atomOp_list : atomOp .list = false := (rfl)
@[simp] theorem atomOp_tupD : atomOp .tupD = false := (rfl)
@[simp] theorem atomOp_ix : atomOp .ix = false := (rfl)
@[simp] theorem atomOp_tuple : atomOp .tuple = false := (rfl)
@[simp] theorem fresh_ifx (c a b : E) (v : D) : E.fresh (.ifx c a b) v = (a.fresh v && b.fresh v) := by rw [E.fresh]
@[simp] theorem fresh_cst (c v : D) : E.fresh (.cst c) v = true := by rw [E.fresh]
@[simp] theorem fresh_and (a b : E) (v : D) : E.fresh (.and a b) v = true := by rw [E.fresh]
@[simp] theorem fresh_or (a b : E) (v : D) : E.fresh (.or a b) v = true := by rw [E.fresh]
@[simp] theorem fresh_not (a : E) (v : D) : E.fresh (.not a) v = true := by rw [E.fresh]
@[simp] theorem fresh_chain (o p : Op) (a b c : E) (v : D) : E.fresh (.chain o p a b c) v = true := by rw [E.fresh]
@[simp] theorem fresh_call (f : Nat) (h : Option Nat) (es : List E) (v : D) : E.fresh (.call f h es) v = true := by rw [E.fresh]
@[simp] theorem fresh_pop (i : Nat) (v : D) : E.fresh (.pop i) v = true := by rw [E.fresh]
@[simp] theorem fresh_var (i : Nat) (v : D) : E.fresh (.var i) v = false := by unfold E.fresh; rfl
@[simp] theorem fresh_hix (i : Nat) (e : E) (v : D) : E.fresh (.hix i e) v = false := by unfold E.fresh; rfl
@[simp] theorem frl_nil : E.fresh.frl [] [] = true := by rw [E.fresh.frl]
@[simp] theorem frl_cons (e : E) (es : List E) (x : D) (xs : List D) : E.fresh.frl (e :: es) (x :: xs) = ((lf x || e.fresh x) && E.fresh.frl es xs) := by rw [E.fresh.frl]
@[simp] theorem frs_nil : E.fr.frs [] = true := (rfl)
@[simp] theorem frs_cons (e : E) (es : List E) : E.fr.frs (e :: es) = (e.fr && E.fr.frs es) := (rfl)
@[simp] theorem fr_cst (v : D) : E.fr (.cst v) = true := (rfl)
@[simp] theorem fr_var (i : Nat) : E.fr (.var i) = false := (rfl)
@[simp] theorem fr_op (o : Op) (es : List E) : E.fr (.op o es) = (atomOp o || E.fr.frs es) := (rfl)
@[simp] theorem fr_and (a b : E) : E.fr (.and a b) = true := (rfl)
@[simp] theorem fr_or (a b : E) : E.fr (.or a b) = true := (rfl)
@[simp] theorem fr_not (a : E) : E.fr (.not a) = true := (rfl)
@[simp] theorem fr_ifx (c a b : E) : E.fr (.ifx c a b) = (a.fr && b.fr) := (rfl)
@[simp] theorem fr_chain (o p : Op) (a b c : E) : E.fr (.chain o p a b c) = true := (rfl)
@[simp] theorem fr_comp (t : Tg) (k : IK) (es : List E) (c : Option E) (e : E) : E.fr (.comp t k es c e) = e.fr := (rfl)
@[simp] theorem fr_call (f : Nat) (h : Option Nat) (es : List E) : E.fr (.call f h es) = true := (rfl)
@[simp] theorem fr_pop (i : Nat) : E.fr (.pop i) = true := (rfl)
@[simp] theorem fr_hix (i : Nat) (e : E) : E.fr (.hix i e) = false := (rfl)
@[simp] theorem lf_none : lf .none = true := (rfl)
@[simp] theorem lf_bool (b : Bool) : lf (.bool b) = true := (rfl)
@[simp] theorem lf_int (b : Int) : lf (.int b) = true := (rfl)
@[simp] theorem lf_str (b : Str) : lf (.str b) = true := (rfl)
@[simp] theorem lf_list (b : List D) : lf (.list b) = false := (rfl)
@[simp] theorem lf_tuple (b : List D) : lf (.tuple b) = lfs b := (rfl)
@[simp] theorem lfs_nil : lfs [] = true := (rfl)
@[simp] theorem lfs_cons (x : D) (b : List D) : lfs (x :: b) = (lf x && lfs b) := (rfl)
@[simp] theorem lfs_ints : ∀ l : List Int, lfs (l.map PyData.int) = true
  | [] => rfl
  | x :: l => by rw [List.map_cons, lfs_cons, lfs_ints l]; rfl
@[simp] theorem lfs_app : ∀ a b : List D, lfs (a ++ b) = (lfs a && lfs b)
  | [], b => by simp
  | x :: a, b => by rw [List.cons_append, lfs_cons, lfs_cons, lfs_app a b, Bool.and_assoc]
theorem at_atom {o : Op} (h : atomOp o = true) : atomOp o = true := h
/-! ### laying away -/
@[simp] theorem store_varL (i j : Nat) (v : D) (l : Env) (g : G) : store i (.var j) v (l, g) = (match l[j]? with
    | some (.ow w) => (match w with
      | .list _ => some (put (put (l, g) j .no) i (.ow v))
      | .dict _ => some (put (put (l, g) j .no) i (.ow v))
      | _ => some (put (put (l, g) j (.sh v)) i (.sh v)))
    | _ => some (put (l, g) i (.sh v))) := rfl
def store2 (i : Nat) (e : E) (v : D) (s : St) : Option St := if e.fresh v = true then some (put s i (.ow v)) else if lf v = true then some (put s i (.sh v)) else some (put (shareE e.mentions s) i (.sh v))
@[simp] theorem store_cst (i : Nat) (c v : D) (s : St) : store i (.cst c) v s = some (put s i (.ow v)) := by unfold store; simp
@[simp] theorem store_op (i : Nat) (o : Op) (es : List E) (v : D) (s : St) : store i (.op o es) v s = store2 i (.op o es) v s := (rfl)
@[simp] theorem store_comp (i : Nat) (t : Tg) (k : IK) (es : List E) (c : Option E) (e : E) (v : D) (s : St) : store i (.comp t k es c e) v s = store2 i (.comp t k es c e) v s := (rfl)
@[simp] theorem store_ifx (i : Nat) (c a b : E) (v : D) (s : St) : store i (.ifx c a b) v s = store2 i (.ifx c a b) v s := (rfl)
@[simp] theorem store_hix (i j : Nat) (e : E) (v : D) (s : St) : store i (.hix j e) v s = store2 i (.hix j e) v s := (rfl)
@[simp] theorem store_and (i : Nat) (a b : E) (v : D) (s : St) : store i (.and a b) v s = some (put s i (.ow v)) := (show store i (.and a b) v s = store2 i (.and a b) v s from rfl).trans (by unfold store2; simp)
@[simp] theorem store_or (i : Nat) (a b : E) (v : D) (s : St) : store i (.or a b) v s = some (put s i (.ow v)) := (show store i (.or a b) v s = store2 i (.or a b) v s from rfl).trans (by unfold store2; simp)
@[simp] theorem store_not (i : Nat) (a : E) (v : D) (s : St) : store i (.not a) v s = some (put s i (.ow v)) := (show store i (.not a) v s = store2 i (.not a) v s from rfl).trans (by unfold store2; simp)
@[simp] theorem store_call (i f : Nat) (h : Option Nat) (es : List E) (v : D) (s : St) : store i (.call f h es) v s = some (put s i (.ow v)) := (show store i (.call f h es) v s = store2 i (.call f h es) v s from rfl).trans (by unfold store2; simp)
@[simp] theorem store_pop (i j : Nat) (v : D) (s : St) : store i (.pop j) v s = some (put s i (.ow v)) := (show store i (.pop j) v s = store2 i (.pop j) v s from rfl).trans (by unfold store2; simp)
@[simp] theorem store2_fresh {i : Nat} {e : E} {v : D} {s : St} (h : e.fresh v = true) : store2 i e v s = some (put s i (.ow v)) := by unfold store2; simp [h]
@[simp] theorem store2_lf {i : Nat} {e : E} {v : D} {s : St} (h1 : e.fresh v = false) (h : lf v = true) : store2 i e v s = some (put s i (.sh v)) := by unfold store2; simp [h, h1]

@[simp] theorem lfs_rep (n : Nat) (x : D) : lfs (List.replicate n x) = (n == 0 || lf x) := by
  induction n with
  | zero => rfl
  | succ n ih =>
    rw [List.replicate_succ, lfs_cons, ih]
    cases n with
    | zero => cases lf x <;> rfl
    | succ n => cases lf x <;> simp
/-! ### operators -/
@[simp] theorem add_neg1 (a : Int) : a + -1 = a - 1 := by omega
@[simp] theorem p_none : part .none = some none := (rfl)
@[simp] theorem p_int (i : Int) : part (.int i) = some (some i) := (rfl)
@[simp] theorem o_mulI (a b : Int) : opS .mul [.int a, .int b] = if mulOk a b = true then some (.int (a * b)) else none := (rfl)
@[simp] theorem mulOk_l {a b : Int} (h : -18446744073709551616 < a) (h2 : a < 18446744073709551616) : mulOk a b = true := by
  unfold mulOk two64
  simp [h, h2]
@[simp] theorem mulOk_r {a b : Int} (h : -18446744073709551616 < b) (h2 : b < 18446744073709551616) : mulOk a b = true := by
  unfold mulOk two64
  simp [h, h2]
@[simp] theorem o_fdivI (a b : Int) : opS .fdiv [.int a, .int b] = if divOk b = true then some (.int (a / b)) else none := (rfl)
@[simp] theorem divOk_s {j : Int} (h : 0 < j) (h2 : j < 18446744073709551616) : divOk j = true := by
  unfold divOk
  have : j.natAbs.log2 < 9000 := by
    have h3 : j.natAbs < 2 ^ 64 := by omega
    have h4 : j.natAbs.log2 < 64 := (Nat.log2_lt (by omega)).mpr h3
    omega
  simp [h, this]
@[simp] theorem o_modI (a b : Int) : opS .mod [.int a, .int b] = if 0 < b then some (.int (a % b)) else none := (rfl)
@[simp] theorem o_powI (a b : Int) : opS .pow [.int a, .int b] = if powOk a b = true then some (.int (a ^ b.toNat)) else none := (rfl)
@[simp] theorem o_addL (a b : List D) : opS .add [.list a, .list b] = if a.length + b.length ≤ line then some (.list (a ++ b)) else none := (rfl)
@[simp] theorem o_addT (a b : List D) : opS .add [.tuple a, .tuple b] = if a.length + b.length ≤ line then some (.tuple (a ++ b)) else none := (rfl)
@[simp] theorem o_sliceL (xs : List D) (a b : D) : opS .slice [.list xs, a, b] = (part a).bind fun lo => (part b).map fun hi => .list (cut xs lo hi) := (rfl)
@[simp] theorem o_sliceT (xs : List D) (a b : D) : opS .slice [.tuple xs, a, b] = (part a).bind fun lo => (part b).map fun hi => .tuple (cut xs lo hi) := (rfl)
@[simp] theorem o_lst (xs : List D) : opS .lstD xs = if xs.length ≤ line then some (.list xs) else none := by
  cases xs <;> rfl
@[simp] theorem o_tup (xs : List D) : opS .tupD xs = if xs.length ≤ line then some (.tuple xs) else none := by
  cases xs <;> rfl
@[simp] theorem line_ge : ∀ n : Nat, n ≤ 1000 → n ≤ line := fun n h => by unfold line; omega
theorem mulL0 {k n : Int} (h1 : -1000 ≤ k) (h : k ≤ 1000) : opS .mul [.list [.int n], .int k] = some (.list (List.replicate k.toNat (.int n))) := by
  show (if small62 k && decide (1 * k.toNat ≤ line) && lfs [.int n] then some (PyData.list (List.replicate k.toNat [PyData.int n]).flatten) else none) = _
  have : k.toNat ≤ line := by unfold line; omega
  have h3 : small62 k = true := by unfold small62 two62; simp; omega
  simp [h3, this]
/-! ### equal things -/
theorem eqvAll_ints : ∀ a b : List Int, PyData.eqvAll (a.map .int) (b.map .int) = decide (a = b)
  | [], [] => rfl
  | [], _ :: _ => rfl
  | _ :: _, [] => rfl
  | x :: a, y :: b => by
    show (PyData.eqv (.int x) (.int y) && PyData.eqvAll (a.map .int) (b.map .int)) = _
    rw [eqvAll_ints a b, eqv_int]
    by_cases h1 : x = y <;> by_cases h2 : a = b <;> simp [h1, h2]
/-- may be compared, nested at most k deep -/
def Okd (k : Nat) (d : D) : Prop := d.canLay0 = true ∧ d.depth ≤ k
theorem Okd.eq {k : Nat} {d : D} (h : Okd k d) (hk : k ≤ 64) : eqOk d = true := by
  unfold eqOk SeqAt.shaped
  rw [h.1]
  simp
  exact Nat.le_trans h.2 hk
theorem okd_int (i : Int) : Okd 0 (.int i) := ⟨rfl, Nat.le_refl _⟩
theorem okd_bool (i : Bool) : Okd 0 (.bool i) := ⟨rfl, Nat.le_refl _⟩
theorem okd_none : Okd 0 .none := ⟨rfl, Nat.le_refl _⟩
theorem okd_all {k : Nat} : ∀ {xs : List D}, (∀ x ∈ xs, Okd k x) → PyData.canLayAll0 xs = true ∧ PyData.depthAll xs ≤ k
  | [], _ => ⟨rfl, Nat.zero_le _⟩
  | x :: xs, h => by
    obtain ⟨h1, h2⟩ := okd_all (fun y m => h y (List.mem_cons_of_mem _ m))
    obtain ⟨h3, h4⟩ := h x List.mem_cons_self
    refine ⟨?_, ?_⟩
    · show (PyData.canLay0 x && PyData.canLayAll0 xs) = true
      rw [h3, h1]; rfl
    · show max _ _ ≤ k
      exact Nat.max_le.mpr ⟨h4, h2⟩
theorem okd_list {k : Nat} {xs : List D} (h : ∀ x ∈ xs, Okd k x) : Okd (k + 1) (.list xs) := ⟨(okd_all h).1, by
  have := (okd_all h).2
  show PyData.depth (.list xs) ≤ k + 1
  unfold PyData.depth
  omega⟩
theorem okd_tuple {k : Nat} {xs : List D} (h : ∀ x ∈ xs, Okd k x) : Okd (k + 1) (.tuple xs) := ⟨(okd_all h).1, by
  have := (okd_all h).2
  show PyData.depth (.tuple xs) ≤ k + 1
  unfold PyData.depth
  omega⟩
end Iv
set_option Elab.async false
set_option linter.all false
set_option maxRecDepth 100000
/-! IvLoop: loops and comprehensions, by what they keep (own work). -/
namespace Iv
open PySem
/-- it ends, and so -/
def Wp (r : Option (Fl × St)) (Q : Fl → St → Prop) : Prop := ∃ fl s, r = some (fl, s) ∧ Q fl s
theorem wp_some {fl : Fl} {s : St} {Q : Fl → St → Prop} (h : Q fl s) : Wp (some (fl, s)) Q := ⟨fl, s, rfl, h⟩
theorem Wp.imp {r : Option (Fl × St)} {Q R : Fl → St → Prop} (h : Wp r Q) (k : ∀ fl s, Q fl s → R fl s) : Wp r R := by
  obtain ⟨fl, s, e, q⟩ := h
  exact ⟨fl, s, e, k fl s q⟩
theorem wp_eq {r : Option (Fl × St)} {fl : Fl} {s : St} {Q : Fl → St → Prop} (e : r = some (fl, s)) (h : Q fl s) : Wp r Q := ⟨fl, s, e, h⟩
section
variable {F : Fns} {n : Nat}
/-- a statement that goes on -/
theorem wp_nx {x : S} {xs : List S} {s s1 : St} {Q : Fl → St → Prop} (e : ex F n x s = some (.nx, s1)) (h : Wp (exs F n xs s1) Q) : Wp (exs F n (x :: xs) s) Q := by
  rw [exs_cons, e, seqK_nx]; exact h
/-- a statement (a loop) that may end the def -/
theorem wp_seq {x : S} {xs : List S} {s : St} {R Q : Fl → St → Prop} (e : Wp (ex F n x s) R) (h : ∀ s1, R .nx s1 → Wp (exs F n xs s1) Q) (h2 : ∀ fl s1, R fl s1 → fl ≠ .nx → Q fl s1) : Wp (exs F n (x :: xs) s) Q := by
  obtain ⟨fl, s1, e, r⟩ := e
  rw [exs_cons, e]
  cases fl with
  | nx => rw [seqK_nx]; exact h s1 r
  | ret v => exact ⟨_, _, rfl, h2 _ _ r (by intro z; cases z)⟩
  | brk => exact ⟨_, _, rfl, h2 _ _ r (by intro z; cases z)⟩
  | cnt => exact ⟨_, _, rfl, h2 _ _ r (by intro z; cases z)⟩
/-- .. that only goes on -/
theorem wp_on {x : S} {xs : List S} {s : St} {R : St → Prop} {Q : Fl → St → Prop} (e : Wp (ex F n x s) fun fl s => fl = .nx ∧ R s) (h : ∀ s1, R s1 → Wp (exs F n xs s1) Q) : Wp (exs F n (x :: xs) s) Q :=
  wp_seq e (fun s1 r => h s1 r.2) fun fl s1 r z => absurd r.1 z
theorem wp_ret {e : E} {xs : List S} {s s1 : St} {v : D} {Q : Fl → St → Prop} (h : ev F e s = some (v, s1)) (h2 : sealR e v s1 = true) (q : Q (.ret v) s1) : Wp (exs F n (.ret e :: xs) s) Q :=
  ⟨_, _, by rw [exs_cons, ex_retS, h]; simp [h2], q⟩
theorem wp_for {t : Tg} {k : IK} {es : List E} {b : List S} {s s1 : St} {ds vs : List D} {Q : Fl → St → Prop} (h1 : evs F es s = some (ds, s1)) (h2 : itS k ds = some vs)
    (h : Wp (loopL (fun v s => (bindTg t v s).bind fun s1 => exs F n b s1) vs (shareE (shM k es) s1)) Q) : Wp (ex F n (.for t k es b) s) Q := by
  rw [ex_for h1 h2]; exact h
end
theorem while_run {test : St → Option (D × St)} {body : St → Option (Fl × St)} {inv : Nat → St → Prop} {post : Fl → St → Prop}
    (h : ∀ m s, inv m s → ∃ b s1, test s = some (.bool b, s1) ∧ (b = false → post .nx s1) ∧ (b = true → Wp (body s1) fun fl s2 => match fl with
      | .nx => ∃ m' < m, inv m' s2
      | .cnt => ∃ m' < m, inv m' s2
      | .brk => post .nx s2
      | .ret v => post (.ret v) s2)) : ∀ (n m : Nat) (s : St), m < n → inv m s → Wp (whileL test body n s) post
  | 0, m, s, k, _ => absurd k (Nat.not_lt_zero m)
  | n + 1, m, s, k, i => by
    obtain ⟨b, s1, e, h0, h1⟩ := h m s i
    cases b with
    | false =>
      rw [whileL_end e]
      exact ⟨_, _, rfl, h0 rfl⟩
    | true =>
      obtain ⟨fl, s2, e2, q⟩ := h1 rfl
      have goon : (∃ m' < m, inv m' s2) → Wp (whileL test body n s2) post := fun ⟨m', l, i'⟩ => while_run h n m' s2 (by omega) i'
      unfold whileL
      rw [e, Option.bind_some]
      show Wp ((body s1).bind _) post
      rw [e2, Option.bind_some]
      cases fl with
      | nx => exact goon q
      | cnt => exact goon q
      | brk => exact ⟨_, _, rfl, q⟩
      | ret v => exact ⟨_, _, rfl, q⟩
theorem loop_run {turn : D → St → Option (Fl × St)} {inv : List D → St → Prop} {post : Fl → St → Prop}
    (h : ∀ v vs s, inv (v :: vs) s → Wp (turn v s) fun fl s2 => match fl with
      | .nx => inv vs s2
      | .cnt => inv vs s2
      | .brk => post .nx s2
      | .ret v => post (.ret v) s2) (h0 : ∀ s, inv [] s → post .nx s) : ∀ (vs : List D) (s : St), inv vs s → Wp (loopL turn vs s) post
  | [], s, i => ⟨_, _, rfl, h0 s i⟩
  | v :: vs, s, i => by
    obtain ⟨fl, s2, e2, q⟩ := h v vs s i
    have goon : inv vs s2 → Wp (loopL turn vs s2) post := fun i => loop_run h h0 vs s2 i
    unfold loopL
    rw [e2, Option.bind_some]
    cases fl with
    | nx => exact goon q
    | cnt => exact goon q
    | brk => exact ⟨_, _, rfl, q⟩
    | ret v => exact ⟨_, _, rfl, q⟩
/-- a walk over things of a kind, with a state of a shape -/
theorem loop_fold {α β : Type} {turn : D → St → Option (Fl × St)} {enc : β → D} {σ : α → St} {f : α → β → α} (inv : List β → α → Prop)
    (h : ∀ v vs a, inv (v :: vs) a → turn (enc v) (σ a) = some (.nx, σ (f a v)) ∧ inv vs (f a v)) : ∀ (vs : List β) (a : α), inv vs a → loopL turn (vs.map enc) (σ a) = some (.nx, σ (vs.foldl f a)) ∧ inv [] (vs.foldl f a)
  | [], a, i => ⟨rfl, i⟩
  | v :: vs, a, i => by
    obtain ⟨e, i'⟩ := h v vs a i
    rw [List.map_cons, loopL_nx e]
    exact loop_fold inv h vs (f a v) i'
/-! ### comprehensions -/
def compT (F : Fns) (t : Tg) (es : List E) (cond : Option E) (elt : E) (st : St) (v : D) (g : G) : Option (Option D × G) := (bindTg t v ((clr t.slots (shareE (E.mentions.ms es) st)).1, g)).bind fun s1 => match cond with
  | none => (ev F elt s1).map fun q => (some q.1, q.2.2)
  | some c => (ev F c s1).bind fun b => cond1 b.1 ((ev F elt b.2).map fun q => (some q.1, q.2.2)) (some (none, b.2.2))
section
variable {F : Fns} {n : Nat}
theorem ev_compE (t : Tg) (k : IK) (es : List E) (cond : Option E) (elt : E) (s : St) : ev F (.comp t k es cond elt) s = (evs F es s).bind fun r => (itS k r.1).bind fun vs => (compL (compT F t es cond elt r.2) vs r.2.2).bind fun q => if q.1.length ≤ line then some (.list q.1, (r.2.1, q.2)) else none := by
  rw [ev]
  rfl
theorem compT_none (t : Tg) (es : List E) (elt : E) (st : St) (v : D) (g : G) : compT F t es none elt st v g = (bindTg t v ((clr t.slots (shareE (E.mentions.ms es) st)).1, g)).bind fun s1 => (ev F elt s1).map fun q => (some q.1, q.2.2) := rfl
theorem compT_some (t : Tg) (es : List E) (c elt : E) (st : St) (v : D) (g : G) : compT F t es (some c) elt st v g = (bindTg t v ((clr t.slots (shareE (E.mentions.ms es) st)).1, g)).bind fun s1 => (ev F c s1).bind fun b => cond1 b.1 ((ev F elt b.2).map fun q => (some q.1, q.2.2)) (some (none, b.2.2)) := rfl
theorem compL_fm {t : D → G → Option (Option D × G)} {g : G} {f : D → Option D} : ∀ {vs : List D}, (∀ v ∈ vs, t v g = some (f v, g)) → compL t vs g = some (vs.filterMap f, g)
  | [], _ => rfl
  | v :: vs, h => by
    unfold compL
    rw [h v List.mem_cons_self]
    rw [Option.bind_some, compL_fm fun u m => h u (List.mem_cons_of_mem _ m)]
    rw [List.filterMap_cons]
    cases f v <;> rfl
/-- a comprehension over things of a kind -/
theorem ev_compF {β : Type} {t : Tg} {k : IK} {es : List E} {cond : Option E} {elt : E} {s s1 : St} {ds : List D} {vs : List β} {enc : β → D} (f : β → Option D) (h1 : evs F es s = some (ds, s1)) (h2 : itS k ds = some (vs.map enc)) (hl : vs.length ≤ line)
    (h3 : ∀ v ∈ vs, compT F t es cond elt s1 (enc v) s1.2 = some (f v, s1.2)) : ev F (.comp t k es cond elt) s = some (.list (vs.filterMap f), s1) := by
  rw [ev_compE, h1, Option.bind_some, h2, Option.bind_some]
  have : ∀ (vs : List β), (∀ v ∈ vs, compT F t es cond elt s1 (enc v) s1.2 = some (f v, s1.2)) → compL (compT F t es cond elt s1) (vs.map enc) s1.2 = some (vs.filterMap f, s1.2) := fun vs => by
    induction vs with
    | nil => intro _; rfl
    | cons v vs ih =>
      intro h
      rw [List.map_cons]
      unfold compL
      rw [h v List.mem_cons_self, Option.bind_some, ih fun u m => h u (List.mem_cons_of_mem _ m), List.filterMap_cons]
      cases f v <;> rfl
  rw [this vs h3, Option.bind_some]
  rw [if_pos (Nat.le_trans (List.length_filterMap_le f vs) hl)]
theorem ev_compM {β : Type} {t : Tg} {k : IK} {es : List E} {cond : Option E} {elt : E} {s s1 : St} {ds : List D} {vs : List β} {enc : β → D} (f : β → D) (h1 : evs F es s = some (ds, s1)) (h2 : itS k ds = some (vs.map enc)) (hl : vs.length ≤ line)
    (h3 : ∀ v ∈ vs, compT F t es cond elt s1 (enc v) s1.2 = some (some (f v), s1.2)) : ev F (.comp t k es cond elt) s = some (.list (vs.map f), s1) := by
  rw [ev_compF (fun v => some (f v)) h1 h2 hl h3]
  have : ∀ vs : List β, vs.filterMap (fun v => some (f v)) = vs.map f := fun vs => by induction vs with
    | nil => rfl
    | cons v vs ih => simp [ih]
  rw [this]
theorem boolsOf_m {β : Type} {f : β → Bool} : ∀ vs : List β, boolsOf (vs.map fun v => .bool (f v)) = some (vs.map f)
  | [] => rfl
  | v :: vs => by
    rw [List.map_cons]
    unfold boolsOf
    rw [boolsOf_m vs]; rfl
theorem intsOf_m {β : Type} {f : β → Int} : ∀ vs : List β, intsOf (vs.map fun v => .int (f v)) = some (vs.map f)
  | [] => rfl
  | v :: vs => by
    rw [List.map_cons]
    unfold intsOf
    rw [intsOf_m vs]; rfl
@[simp] theorem o_allM {β : Type} (p : β → Bool) (vs : List β) : opS .all [.list (vs.map fun v => .bool (p v))] = some (.bool (vs.all p)) := by
  show (boolsOf _).map _ = _
  rw [boolsOf_m]
  simp
@[simp] theorem o_all0 : opS .all [.list []] = some (.bool true) := (rfl)
@[simp] theorem o_any0 : opS .any [.list []] = some (.bool false) := (rfl)
@[simp] theorem o_anyM {β : Type} (p : β → Bool) (vs : List β) : opS .any [.list (vs.map fun v => .bool (p v))] = some (.bool (vs.any p)) := by
  show (boolsOf _).map _ = _
  rw [boolsOf_m]
  simp
@[simp] theorem o_sumM {β : Type} (p : β → Int) (vs : List β) : opS .sum [.list (vs.map fun v => .int (p v))] = some (.int (vs.map p).sum) := by
  show (intsOf _).map _ = _
  rw [intsOf_m]
  simp
@[simp] theorem fm_length {β γ : Type} (p : β → Bool) (f : β → γ) : ∀ vs : List β, (vs.filterMap fun v => if p v = true then some (f v) else none).length = (vs.filter p).length
  | [] => rfl
  | v :: vs => by
    rw [List.filterMap_cons, List.filter_cons]
    by_cases h : p v = true <;> simp [h, fm_length p f vs]
/-- one whose terms draw from the hand -/
theorem compL_run {t : D → G → Option (Option D × G)} {inv : List D → G → Prop} : ∀ {vs : List D} {g : G}, inv vs g → (∀ v vs g, inv (v :: vs) g → ∃ d g', t v g = some (some d, g') ∧ inv vs g' ∧ d = .bool true) → ∃ g', compL t vs g = some (vs.map fun _ => .bool true, g') ∧ inv [] g'
  | [], g, i, _ => ⟨g, rfl, i⟩
  | v :: vs, g, i, h => by
    obtain ⟨d, g1, e, i1, rfl⟩ := h v vs g i
    obtain ⟨g2, e2, i2⟩ := compL_run i1 h
    refine ⟨g2, ?_, i2⟩
    unfold compL
    rw [e, Option.bind_some, e2]; rfl
end
@[simp] theorem share1_owS (v : D) : share1 (.ow v) = .sh v := (rfl)
@[simp] theorem share1_sh (v : D) : share1 (.sh v) = .sh v := (rfl)
@[simp] theorem share1_no : share1 .no = .no := (rfl)
@[simp] theorem share1_hd : share1 .hd = .hd := (rfl)
@[simp] theorem shareE_mk (m : Nat → Bool) (l : Env) (g : G) : shareE m (l, g) = (l.mapIdx fun i x => if m i = true then share1 x else x, g) := (rfl)
@[simp] theorem clr_nm (i : Nat) (l : Env) (g : G) : clr (Tg.nm i).slots (l, g) = (l.set i .no, g) := (rfl)
theorem clr_tp (is : List Nat) (s : St) : clr (Tg.tp is).slots s = is.foldr (fun i s => put s i .no) s := rfl
@[simp] theorem clr_tp2 (i j : Nat) (l : Env) (g : G) : clr (Tg.tp [i, j]).slots (l, g) = ((l.set j .no).set i .no, g) := (rfl)
@[simp] theorem bind_nm (i : Nat) (v : D) (l : Env) (g : G) : bindTg (.nm i) v (l, g) = some (l.set i (.sh v), g) := (rfl)
@[simp] theorem bind_tp2 (i j : Nat) (u v : D) (l : Env) (g : G) : bindTg (.tp [i, j]) (.tuple [u, v]) (l, g) = some ((l.set i (.sh u)).set j (.sh v), g) := (rfl)
@[simp] theorem shM_rng (es : List E) : shM .rng es = fun _ => false := (rfl)
@[simp] theorem shM_val (es : List E) : shM .val es = E.mentions.ms es := (rfl)
@[simp] theorem shM_enum (es : List E) : shM .enum es = E.mentions.ms es := (rfl)
@[simp] theorem shM_zip (es : List E) : shM .zip es = E.mentions.ms es := (rfl)
@[simp] theorem shM_rev (es : List E) : shM .rev es = E.mentions.ms es := (rfl)
@[simp] theorem ms_nil (j : Nat) : E.mentions.ms [] j = false := (rfl)
@[simp] theorem ms_cons (e : E) (es : List E) (j : Nat) : E.mentions.ms (e :: es) j = (e.mentions j || E.mentions.ms es j) := (rfl)
@[simp] theorem m_cst (v : D) (j : Nat) : E.mentions (.cst v) j = false := (rfl)
@[simp] theorem m_var (i j : Nat) : E.mentions (.var i) j = (i == j) := (rfl)
@[simp] theorem m_op (o : Op) (es : List E) (j : Nat) : E.mentions (.op o es) j = E.mentions.ms es j := (rfl)
@[simp] theorem m_call (f : Nat) (h : Option Nat) (es : List E) (j : Nat) : E.mentions (.call f h es) j = E.mentions.ms es j := (rfl)
@[simp] theorem m_ifx (c a b : E) (j : Nat) : E.mentions (.ifx c a b) j = (c.mentions j || a.mentions j || b.mentions j) := (rfl)
@[simp] theorem m_hix (i : Nat) (e : E) (j : Nat) : E.mentions (.hix i e) j = e.mentions j := (rfl)
@[simp] theorem m_comp (t : Tg) (k : IK) (es : List E) (e : E) (j : Nat) : E.mentions (.comp t k es none e) j = (E.mentions.ms es j || e.mentions j) := by
  show (E.mentions.ms es j || false || e.mentions j) = _
  simp
@[simp] theorem m_compC (t : Tg) (k : IK) (es : List E) (c e : E) (j : Nat) : E.mentions (.comp t k es (some c) e) j = (E.mentions.ms es j || c.mentions j || e.mentions j) := (rfl)
theorem fresh_compF {t : Tg} {k : IK} {es : List E} {c : Option E} {e : E} (h : e.fr = true) (v : D) : E.fresh (.comp t k es c e) v = true := by
  unfold E.fresh
  simp [h]
theorem store_compF {t : Tg} {k : IK} {es : List E} {c : Option E} {e : E} (h : e.fr = true) (i : Nat) (v : D) (s : St) : store i (.comp t k es c e) v s = some (put s i (.ow v)) := by
  rw [store_comp]
  exact store2_fresh (fresh_compF h v)
theorem sealR_compF {t : Tg} {k : IK} {es : List E} {c : Option E} {e : E} (h : e.fr = true) (v : D) (s : St) : sealR (.comp t k es c e) v s = true := by
  unfold sealR
  simp [fresh_compF h v]
/-! ### what is handed back -/
@[simp] theorem sealR_var (l : Env) (g : G) (j : Nat) (v : D) : sealR (.var j) v (l, g) = (lf v || (ownS l[j]?).isSome) := by
  show (E.fresh (.var j) v || lf v || match l[j]? with
    | some (.ow _) => true
    | _ => false) = _
  rw [fresh_var, Bool.false_or]
  congr 1
  cases l[j]? with
  | none => rfl
  | some x => cases x <;> rfl
@[simp] theorem sealR_op (o : Op) (es : List E) (v : D) (s : St) : sealR (.op o es) v s = (E.fresh (.op o es) v || lf v) := by unfold sealR; simp
@[simp] theorem sealR_cst (c v : D) (s : St) : sealR (.cst c) v s = true := by unfold sealR; simp
@[simp] theorem sealR_call (f : Nat) (h : Option Nat) (es : List E) (v : D) (s : St) : sealR (.call f h es) v s = true := by unfold sealR; simp
@[simp] theorem sealR_ifx (c a b : E) (v : D) (s : St) : sealR (.ifx c a b) v s = (E.fresh (.ifx c a b) v || lf v) := by unfold sealR; simp
@[simp] theorem sealR_and (a b : E) (v : D) (s : St) : sealR (.and a b) v s = true := by unfold sealR; simp
@[simp] theorem sealR_or (a b : E) (v : D) (s : St) : sealR (.or a b) v s = true := by unfold sealR; simp
@[simp] theorem sealR_not (a : E) (v : D) (s : St) : sealR (.not a) v s = true := by unfold sealR; simp
/-! ### into a list -/
@[simp] theorem sealV_lf {e : E} {v : D} {s : St} (h : lf v = true) : sealV e v s = some s := by unfold sealV; simp [h]
theorem sealV_fr {e : E} {v : D} {s : St} (h : e.fresh v = true) : sealV e v s = some s := by unfold sealV; simp [h]
theorem lt_line {n : Nat} (h : n ≤ 10000000) : n < line := by unfold line; omega
theorem le_line {n : Nat} (h : n ≤ 10000000) : n ≤ line := by unfold line; omega
abbrev L (l : List Int) : D := .list (l.map .int)
abbrev T (l : List Int) : D := .tuple (l.map .int)
/-! ### places -/
@[simp] theorem atI_last {α : Type} (xs : List α) (v : α) : atI (xs ++ [v]) (-1) = some v := by
  unfold atI ixN
  rw [List.length_append]
  have h1 : ¬ (0 : Int) ≤ -1 := by decide
  have h2 : -((xs.length + [v].length : Nat) : Int) ≤ -1 := by simp; omega
  rw [if_neg h1, if_pos h2, Option.bind_some]
  have : (-1 + ((xs.length + [v].length : Nat) : Int)).toNat = xs.length := by simp; omega
  rw [this]
  simp
theorem atI_nat {α : Type} (xs : List α) (i : Nat) : atI xs (i : Int) = xs[i]? := by
  unfold atI ixN
  rw [if_pos (by omega)]
  by_cases h : i < xs.length
  · rw [if_pos (by omega), Option.bind_some, Int.toNat_natCast]
  · rw [if_neg (by omega), List.getElem?_eq_none (by omega)]; rfl
theorem atI_map {α β : Type} (f : α → β) (xs : List α) (i : Int) : atI (xs.map f) i = (atI xs i).map f := by
  unfold atI
  rw [List.length_map]
  cases ixN xs.length i with
  | none => rfl
  | some j => simp
theorem ixN_nat {n i : Nat} (h : i < n) : ixN n (i : Int) = some i := by
  unfold ixN
  rw [if_pos (by omega), if_pos (by omega), Int.toNat_natCast]
theorem cut_from {α : Type} (xs : List α) (i : Nat) : cut xs (some (i : Int)) none = xs.drop i := by
  have e : sIx xs.length 0 (some (i : Int)) = min i xs.length := by
    show (if (i : Int) < 0 then ((i : Int) + (xs.length : Int)).toNat else min (i : Int).toNat xs.length) = _
    rw [if_neg (by omega), Int.toNat_natCast]
  unfold cut
  rw [e]
  show (xs.drop (min i xs.length)).take (xs.length - min i xs.length) = _
  rw [List.take_of_length_le (by rw [List.length_drop]; omega)]
  by_cases h : i ≤ xs.length
  · rw [Nat.min_eq_left h]
  · rw [Nat.min_eq_right (by omega), List.drop_of_length_le (Nat.le_refl _), List.drop_of_length_le (by omega)]
theorem intsOf_map : ∀ l : List Int, intsOf (l.map PyData.int) = some l
  | [] => rfl
  | x :: l => by
    show (intsOf (l.map PyData.int)).map (x :: ·) = _
    rw [intsOf_map l]; rfl
def mx : List Int → Int
  | [] => 0
  | n :: r => r.foldl max n
@[simp] theorem o_maxI {l : List Int} (h : l ≠ []) : opS .maxL [.list (l.map .int)] = some (.int (mx l)) := by
  show (intsOf _).bind _ = _
  rw [intsOf_map]
  cases l with
  | nil => exact absurd rfl h
  | cons n r => rfl
@[simp] theorem o_maxIT {l : List Int} (h : l ≠ []) : opS .maxL [.tuple (l.map .int)] = some (.int (mx l)) := by
  show (intsOf _).bind _ = _
  rw [intsOf_map]
  cases l with
  | nil => exact absurd rfl h
  | cons n r => rfl
@[simp] theorem o_maxC (x : Int) (l : List Int) : opS .maxL [.list (.int x :: l.map .int)] = some (.int (mx (x :: l))) := o_maxI (l := x :: l) (by simp)
@[simp] theorem o_maxCT (x : Int) (l : List Int) : opS .maxL [.tuple (.int x :: l.map .int)] = some (.int (mx (x :: l))) := o_maxIT (l := x :: l) (by simp)
@[simp] theorem o_sumI (l : List Int) : opS .sum [.list (l.map .int)] = some (.int l.sum) := by
  show (intsOf _).map _ = _
  rw [intsOf_map]; rfl
@[simp] theorem o_ndist (l : List Int) : opS .ndist [.list (l.map .int)] = some (.int ((nubI l).length : Nat)) := by
  show (intsOf (l.map .int)).map _ = _
  rw [intsOf_map]; rfl
@[simp] theorem o_sumIT (l : List Int) : opS .sum [.tuple (l.map .int)] = some (.int l.sum) := by
  show (intsOf _).map _ = _
  rw [intsOf_map]; rfl
/-! ### equal rows of numbers -/
theorem okd_L (l : List Int) : Okd 1 (.list (l.map .int)) := okd_list fun x m => by
  obtain ⟨i, _, rfl⟩ := List.mem_map.mp m
  exact okd_int i
theorem okd_T (l : List Int) : Okd 1 (.tuple (l.map .int)) := okd_tuple fun x m => by
  obtain ⟨i, _, rfl⟩ := List.mem_map.mp m
  exact okd_int i
theorem eq_T (a b : List Int) : opS .eq [.tuple (a.map .int), .tuple (b.map .int)] = some (.bool (decide (a = b))) := by
  show (if eqOk _ && eqOk _ then some (PyData.bool (PyData.eqvAll _ _)) else none) = _
  rw [(okd_T a).eq (by decide), (okd_T b).eq (by decide), eqvAll_ints]; rfl
theorem ne_T (a b : List Int) : opS .ne [.tuple (a.map .int), .tuple (b.map .int)] = some (.bool (!decide (a = b))) := by
  show (if eqOk _ && eqOk _ then some (PyData.bool (!PyData.eqvAll _ _)) else none) = _
  rw [(okd_T a).eq (by decide), (okd_T b).eq (by decide), eqvAll_ints]; rfl
theorem eq_L (a b : List Int) : opS .eq [.list (a.map .int), .list (b.map .int)] = some (.bool (decide (a = b))) := by
  show (if eqOk _ && eqOk _ then some (PyData.bool (PyData.eqvAll _ _)) else none) = _
  rw [(okd_L a).eq (by decide), (okd_L b).eq (by decide), eqvAll_ints]; rfl
theorem ne_L (a b : List Int) : opS .ne [.list (a.map .int), .list (b.map .int)] = some (.bool (!decide (a = b))) := by
  show (if eqOk _ && eqOk _ then some (PyData.bool (!PyData.eqvAll _ _)) else none) = _
  rw [(okd_L a).eq (by decide), (okd_L b).eq (by decide), eqvAll_ints]; rfl
theorem sealV_compF {t : Tg} {k : IK} {es : List E} {c : Option E} {e : E} (h : e.fr = true) (v : D) (s : St) : sealV (.comp t k es c e) v s = some s := sealV_fr (fresh_compF h v)
@[simp] theorem o_isin2 (a b c : Int) : opS .isin [.int a, .tuple [.int b, .int c]] = some (.bool (decide (b = a) || decide (c = a))) := by
  show (if eqOk (.int a) && eqOk (.tuple [.int b, .int c]) then some (PyData.bool ([PyData.int b, PyData.int c].any fun z => PyData.eqv z (.int a))) else none) = _
  rw [(okd_int a).eq (by decide), show eqOk (.tuple [.int b, .int c]) = true from (okd_T [b, c]).eq (by decide)]
  simp [eqv_int]
/-! ### ranges, numbered things -/
@[simp] theorem small62_s {n : Int} (h1 : -1000000 ≤ n) (h2 : n ≤ 1000000) : small62 n = true := by
  unfold small62 two62
  simp
  omega
theorem rangeS_zero (lo : Int) : rangeS lo 0 = [] := rfl
theorem rangeS_succ (lo : Int) (n : Nat) : rangeS lo (n + 1) = .int lo :: rangeS (lo + 1) n := by
  unfold rangeS
  rw [List.range_succ_eq_map, List.map_cons, List.map_map]
  congr 1
  · simp
  · apply List.map_congr_left
    intro i _
    show PyData.int (lo + ((i + 1 : Nat) : Int)) = .int (lo + 1 + (i : Int))
    rw [show lo + ((i + 1 : Nat) : Int) = lo + 1 + (i : Int) by omega]
@[simp] theorem it_rng (n : Int) : itS .rng [.int n] = if small62 n = true then some (rangeS 0 n.toNat) else none := rfl
@[simp] theorem it_rng2 (a b : Int) : itS .rng [.int a, .int b] = if (small62 a && small62 b) = true then some (rangeS a (b - a).toNat) else none := rfl
@[simp] theorem it_valL (xs : List D) : itS .val [.list xs] = some xs := rfl
@[simp] theorem it_valT (xs : List D) : itS .val [.tuple xs] = some xs := rfl
@[simp] theorem it_enumL (xs : List D) : itS .enum [.list xs] = some (enumS xs) := rfl
@[simp] theorem it_enumT (xs : List D) : itS .enum [.tuple xs] = some (enumS xs) := rfl
def enumI (k : Nat) (xs : List D) : List D := (xs.zipIdx k).map fun p => .tuple [.int (p.2 : Nat), p.1]
theorem enumS_eq (xs : List D) : enumS xs = enumI 0 xs := rfl
theorem enumI_nil (k : Nat) : enumI k [] = [] := rfl
theorem enumI_cons (k : Nat) (x : D) (xs : List D) : enumI k (x :: xs) = .tuple [.int k, x] :: enumI (k + 1) xs := by
  unfold enumI
  rw [List.zipIdx_cons, List.map_cons]
theorem cut_next {α : Type} (xs : List α) (a : Nat) : cut xs (some ((a : Int) + 1)) none = xs.drop (a + 1) := by
  have := cut_from xs (a + 1)
  rw [← this]; rfl
theorem rdS_int {y : Sl} {i : Int} (h : rdS (some y) = some (.int i)) : y = .sh (.int i) ∨ y = .ow (.int i) := by
  cases y with
  | no => cases h
  | hd => cases h
  | sh v => exact .inl (by rw [rdS_sh] at h; rw [Option.some.inj h])
  | ow v => exact .inr (by rw [rdS_ow] at h; rw [Option.some.inj h])
theorem mx_ge : ∀ (r : List Int) (m : Int), m ≤ r.foldl max m ∧ ∀ x ∈ r, x ≤ r.foldl max m
  | [], m => ⟨Int.le_refl _, fun x h => by cases h⟩
  | y :: r, m => by
    obtain ⟨h1, h2⟩ := mx_ge r (max m y)
    rw [List.foldl_cons]
    refine ⟨by omega, fun x h => ?_⟩
    rcases List.mem_cons.mp h with rfl | h
    · omega
    · exact h2 x h
theorem mx_mem : ∀ (r : List Int) (m : Int), r.foldl max m = m ∨ r.foldl max m ∈ r
  | [], m => .inl rfl
  | y :: r, m => by
    rw [List.foldl_cons]
    rcases mx_mem r (max m y) with h | h
    · rw [h]
      by_cases c : m ≤ y
      · exact .inr (by rw [show max m y = y by omega]; exact List.mem_cons_self)
      · exact .inl (by omega)
    · exact .inr (List.mem_cons_of_mem _ h)
theorem mx_le {r : List Int} : ∀ x ∈ r, x ≤ mx r := by
  cases r with
  | nil => intro x h; cases h
  | cons y r =>
    intro x h
    show x ≤ r.foldl max y
    obtain ⟨h1, h2⟩ := mx_ge r y
    rcases List.mem_cons.mp h with rfl | h
    · exact h1
    · exact h2 x h
theorem mx_in {r : List Int} (h : r ≠ []) : mx r ∈ r := by
  cases r with
  | nil => exact absurd rfl h
  | cons y r =>
    show r.foldl max y ∈ _
    rcases mx_mem r y with e | e
    · rw [e]; exact List.mem_cons_self
    · exact List.mem_cons_of_mem _ e
/-! ### a thing is itself -/
mutual
theorem eqv_self : ∀ d : D, PyData.canLay0 d = true → PyData.eqv d d = true
  | .none, _ => rfl
  | .bool b, _ => by simp [PyData.eqv]
  | .int i, _ => by simp [PyData.eqv]
  | .str x, _ => by simp [PyData.eqv]
  | .list xs, h => eqvAll_self xs h
  | .tuple xs, h => eqvAll_self xs h
  | .dict _, h => by cases h
theorem eqvAll_self : ∀ xs : List D, PyData.canLayAll0 xs = true → PyData.eqvAll xs xs = true
  | [], _ => rfl
  | x :: xs, h => by
    have h' : (PyData.canLay0 x && PyData.canLayAll0 xs) = true := h
    rw [Bool.and_eq_true] at h'
    show (PyData.eqv x x && PyData.eqvAll xs xs) = true
    rw [eqv_self x h'.1, eqvAll_self xs h'.2]; rfl
end
theorem eq_self_ {k : Nat} {d : D} (h : Okd k d) (hk : k ≤ 64) : opS .eq [d, d] = some (.bool true) := by
  show (if eqOk d && eqOk d then some (PyData.bool (PyData.eqv d d)) else none) = _
  rw [h.eq hk, eqv_self d h.1]; rfl
theorem ne_self_ {k : Nat} {d : D} (h : Okd k d) (hk : k ≤ 64) : opS .ne [d, d] = some (.bool false) := by
  show (if eqOk d && eqOk d then some (PyData.bool (!PyData.eqv d d)) else none) = _
  rw [h.eq hk, eqv_self d h.1]; rfl
theorem Okd.up {k m : Nat} {d : D} (h : Okd k d) (hk : k ≤ m) : Okd m d := ⟨h.1, Nat.le_trans h.2 hk⟩
theorem okd_cons {k : Nat} {x : D} {xs : List D} (h : Okd k x) (h2 : ∀ y ∈ xs, Okd k y) : ∀ y ∈ x :: xs, Okd k y := fun y m => by
  rcases List.mem_cons.mp m with rfl | m
  · exact h
  · exact h2 y m
theorem okd_nil {k : Nat} : ∀ y ∈ ([] : List D), Okd k y := fun y m => by cases m
theorem run_retH {F : Fns} {n slots : Nat} {body : List S} {args : List D} {g g' : G} {s s' : List Sl} {d : D} (hs : [Sl.hd] ++ args.map Sl.sh ++ List.replicate (slots - args.length - 1) Sl.no = s) (h : exs F n body (s, g) = some (.ret d, (s', g'))) : Iv.run F n slots true body args g = some (d, g') := by
  subst hs
  unfold Iv.run
  simp only [if_true]
  rw [h]; rfl
theorem ex_augL {F : Fns} {n i : Nat} {ix e : E} {s : List Sl} {g : G} {xs : List Int} {k : Nat} {x y : Int} (h1 : s[i]? = some (.ow (L xs))) (hk : k < xs.length) (hx : xs[k]? = some x) (h2 : ev F ix (s, g) = some (.int k, (s, g))) (h3 : ev F e (s, g) = some (.int y, (s, g))) : ex F n (.augI i ix .add e) (s, g) = some (.nx, (s.set i (.ow (L (xs.set k (x + y)))), g)) := by
  have o1 : own (s, g) i = some (L xs) := by rw [own_mk, h1]; rfl
  have hh : hasL (s, g) i = true := by rw [hasL_mk, h1]; rfl
  have e1 : (xs.map PyData.int)[k]? = some (.int x) := by rw [List.getElem?_map, hx]; rfl
  unfold ex
  rw [hh, if_pos rfl, h2, Option.bind_some]
  show (match PyData.int (k : Int), own (s, g) i with
    | .int k, some (.list xs) => (ixN xs.length k).bind fun j => match xs[j]? with
      | some (.int x) => (ev F e (s, g)).bind fun r => match r.1 with
        | .int y => (opS .add [.int x, .int y]).map fun v => (Fl.nx, put r.2 i (.ow (.list (xs.set j v))))
        | _ => none
      | _ => none
    | _, _ => none) = _
  rw [o1]
  show (ixN (xs.map PyData.int).length k).bind _ = _
  rw [List.length_map, ixN_nat hk, Option.bind_some, e1]
  show (ev F e (s, g)).bind _ = _
  rw [h3, Option.bind_some]
  show some (Fl.nx, put (s, g) i (.ow (.list ((xs.map PyData.int).set k (.int (x + y)))))) = _
  rw [← List.map_set]; rfl
end Iv
set_option Elab.async false
set_option linter.all false
set_option maxRecDepth 100000
/-! IvSort: rows of numbers in order (own work). -/
namespace Iv
open PySem
def TI_ (l : List Int) : D := .tuple (l.map .int)
theorem alike_ints : ∀ a b : List Int, PySem.W.alikeAll (a.map .int) (b.map .int) = true
  | [], b => by simp [PySem.W.alikeAll]
  | x :: a, [] => by simp [PySem.W.alikeAll]
  | x :: a, y :: b => by
    simp only [List.map_cons, PySem.W.alikeAll, alike_ints a b, PySem.W.alike, Bool.and_self]
theorem dle_int (a b : Int) : PySem.W.dataLe false id (.int a) (.int b) = decide (a ≤ b) := by
  show (!(decide (b < a) || (!decide (a < b) && false))) = decide (a ≤ b)
  rw [Bool.and_false, Bool.or_false]
  by_cases h : a ≤ b
  · simp [h]
  · simp [h]; omega
theorem sortB_ints (ns : List Int) : sortB (ns.map .int) = true := by
  unfold sortB alikeB
  simp only [List.all_map, Bool.and_eq_true, List.all_eq_true, Function.comp, Bool.or_eq_true]
  refine ⟨⟨fun x _ y _ => rfl, .inr fun x _ => rfl⟩, fun x _ => ?_⟩
  simp [PyData.depth]
theorem sortD_ints {ns ms : List Int} (p : ns.Perm ms) (h : ms.Pairwise (· ≤ ·)) : sortD (ns.map .int) = ms.map .int := by
  unfold sortD
  rw [← List.map_mergeSort (r := fun a b => decide (a ≤ b)) (s := PySem.W.dataLe false id) (f := PyData.int) (l := ns) fun a _ b _ => (dle_int a b).symm]
  congr 1
  refine List.Perm.eq_of_pairwise (le := fun a b => a ≤ b) (fun a b _ _ h1 h2 => by omega) ?_ h ((List.mergeSort_perm _ _).trans p)
  refine (List.pairwise_mergeSort (le := fun a b : Int => decide (a ≤ b)) (fun a b c h1 h2 => ?_) (fun a b => ?_) ns).imp (fun h => by simpa using h)
  · simp at *; omega
  · simp; omega
theorem o_sortedTI {ns ms : List Int} (p : ns.Perm ms) (h : ms.Pairwise (· ≤ ·)) : opS .sorted [.tuple (ns.map .int)] = some (.list (ms.map .int)) := by
  show (if lfs (ns.map PyData.int) && sortB (ns.map PyData.int) then some (PyData.list (sortD (ns.map PyData.int))) else none) = _
  rw [lfs_ints, sortB_ints, sortD_ints p h]; rfl
theorem lfs_TI : ∀ rs : List (List Int), lfs (rs.map TI_) = true
  | [] => rfl
  | r :: rs => by
    rw [List.map_cons, lfs_cons, lfs_TI rs]
    unfold TI_
    rw [lf_tuple, lfs_ints]; rfl
theorem intsOf_TI (rs : List (List Int)) (h : rs ≠ []) : intsOf (rs.map TI_) = none := by
  cases rs with
  | nil => exact absurd rfl h
  | cons r rs => rfl
theorem sortB_TI (rs : List (List Int)) (h : ∀ r ∈ rs, r ≠ []) : sortB (rs.map TI_) = true := by
  unfold sortB alikeB
  simp only [List.all_map, Bool.and_eq_true, List.all_eq_true, Function.comp, Bool.or_eq_true]
  refine ⟨⟨fun x _ y _ => ?_, .inl fun x m => ?_⟩, fun x _ => ?_⟩
  · show PySem.W.alikeAll (x.map .int) (y.map .int) = true
    exact alike_ints x y
  · cases x with
    | nil => exact absurd rfl (h _ m)
    | cons y r => rfl
  · have := (okd_T x).2
    unfold TI_
    simp
    exact Nat.le_trans this (by decide)
theorem o_sortedLT {β : Type} (f : β → List Int) (rs : List β) (h : ∀ r ∈ rs, f r ≠ []) (h0 : rs ≠ []) : ∃ rs' : List β, opS .sorted [.list (rs.map fun r => TI_ (f r))] = some (.list (rs'.map fun r => TI_ (f r))) ∧ rs'.Perm rs := by
  refine ⟨rs.mergeSort fun a b => PySem.W.dataLe false id (TI_ (f a)) (TI_ (f b)), ?_, List.mergeSort_perm _ _⟩
  have e : (rs.map fun r => TI_ (f r)) = (rs.map f).map TI_ := by rw [List.map_map]; rfl
  have hne : rs.map f ≠ [] := fun z => h0 (List.map_eq_nil_iff.mp z)
  show (match intsOf (rs.map fun r => TI_ (f r)) with
    | some ns => some (PyData.list ((sortI ns).map .int))
    | none => if lfs (rs.map fun r => TI_ (f r)) && (decide ((rs.map fun r => TI_ (f r)).length ≤ 1) || sortB (rs.map fun r => TI_ (f r))) then some (PyData.list (sortD (rs.map fun r => TI_ (f r)))) else none) = _
  rw [e, intsOf_TI _ hne, lfs_TI, sortB_TI _ (fun r m => by
    obtain ⟨b, hb, rfl⟩ := List.mem_map.mp m
    exact h b hb), ← e]
  simp only [Bool.or_true, Bool.and_self, if_true]
  unfold sortD
  rw [List.map_mergeSort (s := PySem.W.dataLe false id) (f := fun r => TI_ (f r)) fun a _ b _ => rfl]
/-! ### an operator's value, one by one -/
theorem ev_op1 {F : Fns} {o : Op} {e : E} {s s1 : St} {v w : D} (h : ev F e s = some (v, s1)) (h2 : opS o [v] = some w) : ev F (.op o [e]) s = some (w, s1) := by
  rw [ev_op, evs_cs, h, Option.bind_some, evs_nil, Option.map_some, Option.bind_some, h2, Option.map_some]
theorem ev_op2 {F : Fns} {o : Op} {e e2 : E} {s s1 s2 : St} {v v2 w : D} (h : ev F e s = some (v, s1)) (h1 : ev F e2 s1 = some (v2, s2)) (h2 : opS o [v, v2] = some w) : ev F (.op o [e, e2]) s = some (w, s2) := by
  rw [ev_op, evs_cs, h, Option.bind_some, evs_cs, h1, Option.bind_some, evs_nil, Option.map_some, Option.map_some, Option.bind_some, h2, Option.map_some]
theorem ev_vs {F : Fns} {i : Nat} {l : Env} {g : G} {v : D} (h : rdS l[i]? = some v) : ev F (.var i) (l, g) = some (v, (l, g)) := by
  rw [ev_var, rd_mk, h, Option.map_some]
/-! ### a place in a list of its own -/
theorem ex_setIn {F : Fns} {n i k : Nat} {ix e : E} {s : List Sl} {g : G} {xs : List D} {v : D} (h1 : s[i]? = some (.ow (.list xs))) (hk : k < xs.length) (h2 : ev F e (s, g) = some (v, (s, g))) (hv : lf v = true) (h3 : ev F ix (s, g) = some (.int k, (s, g))) :
    ex F n (.setI i ix e) (s, g) = some (.nx, (s.set i (.ow (.list (xs.set k v))), g)) := by
  have o1 : own (s, g) i = some (.list xs) := by rw [own_mk, h1]; rfl
  have hh : hasL (s, g) i = true := by rw [hasL_mk, h1]; rfl
  unfold ex
  rw [h2, Option.bind_some]
  show (sealV e v (s, g)).bind _ = _
  rw [sealV_lf hv, Option.bind_some, hh, if_pos rfl, h3, Option.bind_some]
  show (match PyData.int (k : Int), own (s, g) i with
    | .int k, some (.list xs) => _
    | _, _ => _) = _
  rw [o1]
  show (ixN xs.length k).map _ = _
  rw [ixN_nat hk]
  rfl
theorem ex_setIIn {F : Fns} {n i k l : Nat} {ix jx e : E} {s : List Sl} {g : G} {xs ys : List D} {v : D} (h1 : s[i]? = some (.ow (.list xs))) (hk : k < xs.length) (hy : xs[k]? = some (.list ys)) (hl : l < ys.length) (h2 : ev F e (s, g) = some (v, (s, g))) (hv : lf v = true) (h3 : ev F ix (s, g) = some (.int k, (s, g)))
    (h4 : ev F jx (s, g) = some (.int l, (s, g))) : ex F n (.setII i ix jx e) (s, g) = some (.nx, (s.set i (.ow (.list (xs.set k (.list (ys.set l v))))), g)) := by
  have o1 : own (s, g) i = some (.list xs) := by rw [own_mk, h1]; rfl
  have hh : hasL (s, g) i = true := by rw [hasL_mk, h1]; rfl
  unfold ex
  rw [h2, Option.bind_some]
  simp only [hv, hh, Bool.and_self, if_true]
  rw [h3, Option.bind_some]
  simp only [o1, ixN_nat hk, Option.bind_some, hy, h4, ixN_nat hl, Option.map_some]
  rfl
/-- a loop that may end the def at one of its turns -/
theorem loop_any {β : Type} {turn : D → St → Option (Fl × St)} {P R : St → Prop} {good : D → Prop} {enc : β → D} (t : β → Bool) : ∀ (vs : List β),
    (∀ v ∈ vs, ∀ s, P s → (t v = true → ∃ r s', turn (enc v) s = some (.ret r, s') ∧ good r ∧ R s') ∧ (t v = false → ∃ s', turn (enc v) s = some (.nx, s') ∧ P s')) → ∀ s, P s →
    (vs.any t = true → ∃ r s', loopL turn (vs.map enc) s = some (.ret r, s') ∧ good r ∧ R s') ∧ (vs.any t = false → ∃ s', loopL turn (vs.map enc) s = some (.nx, s') ∧ P s')
  | [], _, s, p => ⟨fun h => by simp at h, fun _ => ⟨s, rfl, p⟩⟩
  | v :: vs, h, s, p => by
    obtain ⟨h1, h2⟩ := h v List.mem_cons_self s p
    rw [List.any_cons, List.map_cons]
    cases e : t v with
    | true =>
      obtain ⟨r, s', e1, e2, e3⟩ := h1 e
      exact ⟨fun _ => ⟨r, s', loopL_ret e1, e2, e3⟩, fun z => by simp at z⟩
    | false =>
      obtain ⟨s', e1, e2⟩ := h2 e
      rw [Bool.false_or, loopL_nx e1]
      exact loop_any t vs (fun u m => h u (List.mem_cons_of_mem _ m)) s' e2
end Iv
set_option Elab.async false
set_option linter.all false
set_option maxRecDepth 100000
/-! IvHand: a law's hand and its draws (the same in every law, but for one number). -/
namespace Iv
open PySem
structure DrwOk (g : G) : Prop where
  ex : ∃ (cells : List Int) (at_ left mix cnt : Int), g = some [L cells, .int at_, .int left, .int mix, .int cnt] ∧ 0 ≤ at_ ∧ 0 ≤ left ∧ 0 ≤ mix ∧ 0 ≤ cnt ∧ ∀ c ∈ cells, 0 ≤ c
def drawA : List S := [.asg 2 (.op .ix [(.hix 0 (.cst (.int 0))), (.hix 0 (.cst (.int 1)))]), .setH 0 (.cst (.int 1)) (.op .add [(.hix 0 (.cst (.int 1))), (.cst (.int 1))])]
def drawB (k : Int) : List S := [.setH 0 (.cst (.int 3)) (.op .mod [(.op .int [(.op .add [(.op .add [(.op .mul [(.hix 0 (.cst (.int 3))), (.cst (.int 69621))]), (.op .mul [(.var 2), (.cst (.int 40692))])]), (.cst (.int k))])]), (.cst (.int 2147483629))]), .ite (.op .ge [(.var 2), (.op .pow [(.cst (.int 10)), (.cst (.int 18))])]) [.setH 0 (.cst (.int 2)) (.var 2)] []]
def drawC : List S := [.asg 3 (.op .mod [(.op .int [(.hix 0 (.cst (.int 2)))]), (.var 1)]), .setH 0 (.cst (.int 2)) (.op .fdiv [(.hix 0 (.cst (.int 2))), (.var 1)]), .ret (.var 3)]
def drawD : List S := [.setH 0 (.cst (.int 4)) (.op .add [(.hix 0 (.cst (.int 4))), (.cst (.int 1))]),
    .asg 4 (.op .mod [(.op .int [(.op .mul [(.op .int [(.op .add [(.hix 0 (.cst (.int 3))), (.op .mul [(.cst (.int 7919)), (.hix 0 (.cst (.int 4)))])])]), (.cst (.int 48271))])]), (.cst (.int 2147483647))]),
    .asg 4 (.op .mod [(.op .int [(.op .mul [(.var 4), (.op .add [(.op .fdiv [(.var 4), (.cst (.int 1009))]), (.cst (.int 69621))])])]), (.cst (.int 2147483647))]),
    .asg 4 (.op .mod [(.op .int [(.op .mul [(.var 4), (.op .add [(.op .fdiv [(.var 4), (.cst (.int 2003))]), (.cst (.int 40014))])])]), (.cst (.int 2147483563))]),
    .ret (.op .mod [(.op .int [(.op .fdiv [(.var 4), (.cst (.int 16))])]), (.var 1)])]
def drawBody (k : Int) : List S := .ite (.and (.op .eq [(.hix 0 (.cst (.int 2))), (.cst (.int 0))]) (.op .lt [(.hix 0 (.cst (.int 1))), (.op .len [(.hix 0 (.cst (.int 0)))])])) (drawA ++ drawB k) [] ::
    .ite (.op .gt [(.hix 0 (.cst (.int 2))), (.cst (.int 0))]) drawC [] :: drawD
section
variable {F : Fns} {n : Nat}
@[simp] theorem at5_0 (a b c d e : D) : atI [a, b, c, d, e] 0 = some a := (rfl)
@[simp] theorem at5_1 (a b c d e : D) : atI [a, b, c, d, e] 1 = some b := (rfl)
@[simp] theorem at5_2 (a b c d e : D) : atI [a, b, c, d, e] 2 = some c := (rfl)
@[simp] theorem at5_3 (a b c d e : D) : atI [a, b, c, d, e] 3 = some d := (rfl)
@[simp] theorem at5_4 (a b c d e : D) : atI [a, b, c, d, e] 4 = some e := (rfl)
@[simp] theorem ix5_1 : ixN 5 1 = some 1 := (rfl)
@[simp] theorem ix5_2 : ixN 5 2 = some 2 := (rfl)
@[simp] theorem ix5_3 : ixN 5 3 = some 3 := (rfl)
@[simp] theorem ix5_4 : ixN 5 4 = some 4 := (rfl)
theorem exs_app (a b : List S) {s s1 : St} (h : exs F n a s = some (.nx, s1)) : exs F n (a ++ b) s = exs F n b s1 := by
  induction a generalizing s with
  | nil =>
    rw [exs_nil'] at h
    cases h; rfl
  | cons x a ih =>
    rw [exs_cons] at h
    rw [List.cons_append, exs_cons]
    cases e : ex F n x s with
    | none => rw [e] at h; cases h
    | some r =>
      obtain ⟨fl, s2⟩ := r
      rw [e] at h
      cases fl with
      | nx => rw [seqK_nx] at h ⊢; exact ih h
      | ret v => cases h
      | brk => cases h
      | cnt => cases h
theorem drawA_run {cells : List Int} {a left mix cnt m c : Int} (hc : atI (cells.map PyData.int) a = some (.int c)) : exs F n drawA ([.hd, .sh (.int m), .no, .no, .no], some [L cells, .int a, .int left, .int mix, .int cnt]) = some (.nx, ([.hd, .sh (.int m), .sh (.int c), .no, .no], some [L cells, .int (a + 1), .int left, .int mix, .int cnt])) := by
  simp [drawA, hc]
theorem drawB_run {k : Int} {cells : List Int} {a left mix cnt m c : Int} : exs F n (drawB k) ([.hd, .sh (.int m), .sh (.int c), .no, .no], some [L cells, .int a, .int left, .int mix, .int cnt]) = some (.nx, ([.hd, .sh (.int m), .sh (.int c), .no, .no], some [L cells, .int a, .int (if 1000000000000000000 ≤ c then c else left), .int ((mix * 69621 + c * 40692 + k) % 2147483629), .int cnt])) := by
  by_cases h : (1000000000000000000 : Int) ≤ c
  · simp [drawB, h, powOk]
  · simp [drawB, h, powOk]
theorem drawC_run {cells : List Int} {a left mix cnt m : Int} {x2 : Sl} (h1 : 0 < m) (h2 : m < 18446744073709551616) : exs F n drawC ([.hd, .sh (.int m), x2, .no, .no], some [L cells, .int a, .int left, .int mix, .int cnt]) = some (.ret (.int (left % m)), ([.hd, .sh (.int m), x2, .ow (.int (left % m)), .no], some [L cells, .int a, .int (left / m), .int mix, .int cnt])) := by
  simp [drawC, h1, h2]
theorem drawD_run {cells : List Int} {a left mix cnt m : Int} {x2 x3 : Sl} (h1 : 0 < m) : ∃ v s, exs F n drawD ([.hd, .sh (.int m), x2, x3, .no], some [L cells, .int a, .int left, .int mix, .int cnt]) = some (.ret (.int v), (s, some [L cells, .int a, .int left, .int mix, .int (cnt + 1)])) ∧ 0 ≤ v ∧ v < m := by
  have b1 := Int.emod_nonneg ((mix + 7919 * (cnt + 1)) * 48271) (show (2147483647 : Int) ≠ 0 by decide)
  have b2 := Int.emod_lt_of_pos ((mix + 7919 * (cnt + 1)) * 48271) (show (0 : Int) < 2147483647 by decide)
  generalize e1 : (mix + 7919 * (cnt + 1)) * 48271 % 2147483647 = x1 at b1 b2
  have c1 := Int.emod_nonneg (x1 * (x1 / 1009 + 69621)) (show (2147483647 : Int) ≠ 0 by decide)
  have c2 := Int.emod_lt_of_pos (x1 * (x1 / 1009 + 69621)) (show (0 : Int) < 2147483647 by decide)
  generalize e2 : x1 * (x1 / 1009 + 69621) % 2147483647 = y1 at c1 c2
  have d1 := Int.emod_nonneg (y1 * (y1 / 2003 + 40014)) (show (2147483563 : Int) ≠ 0 by decide)
  generalize e3 : y1 * (y1 / 2003 + 40014) % 2147483563 = z1 at d1
  have m1 : mulOk x1 (x1 / 1009 + 69621) = true := mulOk_l (by omega) (by omega)
  have m2 : mulOk y1 (y1 / 2003 + 40014) = true := mulOk_l (by omega) (by omega)
  refine ⟨z1 / 16 % m, [.hd, .sh (.int m), x2, x3, .ow (.int z1)], ?_, Int.emod_nonneg _ (by omega), Int.emod_lt_of_pos _ h1⟩
  unfold drawD
  rw [exs_nx (s1 := ([.hd, .sh (.int m), x2, x3, .no], some [L cells, .int a, .int left, .int mix, .int (cnt + 1)])) (by simp)]
  rw [exs_nx (s1 := ([.hd, .sh (.int m), x2, x3, .ow (.int x1)], some [L cells, .int a, .int left, .int mix, .int (cnt + 1)])) (by simp [e1])]
  rw [exs_nx (s1 := ([.hd, .sh (.int m), x2, x3, .ow (.int y1)], some [L cells, .int a, .int left, .int mix, .int (cnt + 1)])) (by simp [m1, e2])]
  rw [exs_nx (s1 := ([.hd, .sh (.int m), x2, x3, .ow (.int z1)], some [L cells, .int a, .int left, .int mix, .int (cnt + 1)])) (by simp [m2, e3])]
  simp [h1]
/-- a draw: a number below many, and the hand stays one -/
theorem draw_run (k : Int) {g : G} (H : DrwOk g) {m : Int} (h1 : 0 < m) (h2 : m < 18446744073709551616) : ∃ v g', Iv.run F n 5 true (drawBody k) [.int m] g = some (.int v, g') ∧ (0 ≤ v ∧ v < m) ∧ DrwOk g' := by
  obtain ⟨cells, a, left, mix, cnt, rfl, p1, p2, p3, p4, p5⟩ := H.ex
  suffices h : ∃ v s g', exs F n (drawBody k) ([.hd, .sh (.int m), .no, .no, .no], some [L cells, .int a, .int left, .int mix, .int cnt]) = some (.ret (.int v), (s, g')) ∧ (0 ≤ v ∧ v < m) ∧ DrwOk g' by
    obtain ⟨v, s, g', e, q⟩ := h
    refine ⟨v, g', ?_, q⟩
    unfold Iv.run
    show (exs F n (drawBody k) ([.hd, .sh (.int m), .no, .no, .no], some [L cells, .int a, .int left, .int mix, .int cnt])).bind _ = _
    rw [e]; rfl
  -- the first part: a cell is taken, or none
  have first : ∃ a' left' mix' x2, ex F n (.ite (.and (.op .eq [(.hix 0 (.cst (.int 2))), (.cst (.int 0))]) (.op .lt [(.hix 0 (.cst (.int 1))), (.op .len [(.hix 0 (.cst (.int 0)))])])) (drawA ++ drawB k) []) ([.hd, .sh (.int m), .no, .no, .no], some [L cells, .int a, .int left, .int mix, .int cnt]) = some (.nx, ([.hd, .sh (.int m), x2, .no, .no], some [L cells, .int a', .int left', .int mix', .int cnt])) ∧ 0 ≤ a' ∧ 0 ≤ left' ∧ 0 ≤ mix' := by
    by_cases c : left = 0 ∧ a < cells.length
    · obtain ⟨c1, c2⟩ := c
      obtain ⟨i, rfl⟩ : ∃ i : Nat, a = i := ⟨a.toNat, by omega⟩
      have c3 : i < cells.length := by omega
      have hc : atI (cells.map PyData.int) (i : Int) = some (.int cells[i]) := by
        rw [atI_nat, List.getElem?_map, List.getElem?_eq_getElem c3]; rfl
      have hp := p5 _ (List.getElem_mem c3)
      refine ⟨(i : Int) + 1, if 1000000000000000000 ≤ cells[i] then cells[i] else left, (mix * 69621 + cells[i] * 40692 + k) % 2147483629, .sh (.int cells[i]), ?_, ?_⟩
      · rw [ex_ite, show ev F (.and (.op .eq [(.hix 0 (.cst (.int 2))), (.cst (.int 0))]) (.op .lt [(.hix 0 (.cst (.int 1))), (.op .len [(.hix 0 (.cst (.int 0)))])])) ([.hd, .sh (.int m), .no, .no, .no], some [L cells, .int i, .int left, .int mix, .int cnt]) = some (.bool true, ([.hd, .sh (.int m), .no, .no, .no], some [L cells, .int i, .int left, .int mix, .int cnt])) by simp [c1, c2, c3], Option.bind_some]
        show cond1 (.bool true) _ _ = _
        rw [cond1_bool, if_pos rfl, exs_app _ _ (drawA_run hc), drawB_run]
      · refine ⟨by omega, by split <;> omega, Int.emod_nonneg _ (by decide)⟩
    · refine ⟨a, left, mix, .no, ?_, p1, p2, p3⟩
      by_cases c1 : left = 0
      · have c2 : ¬ a < cells.length := fun z => c ⟨c1, z⟩
        simp [c1, c2]
      · simp [c1]
  obtain ⟨a', left', mix', x2, e, q1, q2, q3⟩ := first
  unfold drawBody
  rw [exs_nx e]
  by_cases c : 0 < left'
  · refine ⟨left' % m, [.hd, .sh (.int m), x2, .ow (.int (left' % m)), .no], some [L cells, .int a', .int (left' / m), .int mix', .int cnt], exs_ret ?_, ⟨Int.emod_nonneg _ (by omega), Int.emod_lt_of_pos _ h1⟩, ⟨cells, a', left' / m, mix', cnt, rfl, q1, Int.ediv_nonneg q2 (by omega), q3, p4, p5⟩⟩
    · rw [ex_ite, show ev F (.op .gt [(.hix 0 (.cst (.int 2))), (.cst (.int 0))]) ([.hd, .sh (.int m), x2, .no, .no], some [L cells, .int a', .int left', .int mix', .int cnt]) = some (.bool true, ([.hd, .sh (.int m), x2, .no, .no], some [L cells, .int a', .int left', .int mix', .int cnt])) by simp [c], Option.bind_some]
      show cond1 (.bool true) _ _ = _
      rw [cond1_bool, if_pos rfl, drawC_run h1 h2]
  · obtain ⟨v, s, e2, q⟩ := drawD_run (F := F) (n := n) (cells := cells) (a := a') (left := left') (mix := mix') (cnt := cnt) (m := m) (x2 := x2) (x3 := .no) h1
    refine ⟨v, s, _, (exs_nx (s1 := ([.hd, .sh (.int m), x2, .no, .no], some [L cells, .int a', .int left', .int mix', .int cnt])) (by simp [c])).trans e2, q, ⟨cells, a', left', mix', cnt + 1, rfl, q1, q2, q3, by omega, p5⟩⟩
end
end Iv
set_option Elab.async false
set_option linter.all false
set_option maxRecDepth 100000
/-! IvNum: choices, counts, powers; the runs of the defs that many laws share (own work). -/
namespace Iv
open PySem
/-- choices, step by step -/
def Cf (n : Nat) : Nat → Nat
  | 0 => 1
  | k + 1 => Cf n k * (n - k) / (k + 1)
def C : Nat → Nat → Nat
  | _, 0 => 1
  | 0, _ + 1 => 0
  | n + 1, k + 1 => C n k + C n (k + 1)
theorem C_zero (n : Nat) : C n 0 = 1 := by cases n <;> rfl
theorem C_succ (n k : Nat) : C (n + 1) (k + 1) = C n k + C n (k + 1) := rfl
theorem C_over : ∀ (n k : Nat), n < k → C n k = 0
  | 0, 0, h => absurd h (Nat.lt_irrefl _)
  | 0, k + 1, _ => rfl
  | n + 1, 0, h => absurd h (Nat.not_lt_zero _)
  | n + 1, k + 1, h => by rw [C_succ, C_over n k (by omega), C_over n (k + 1) (by omega)]
theorem C_mul : ∀ (n k : Nat), C n (k + 1) * (k + 1) = C n k * (n - k)
  | 0, 0 => rfl
  | 0, k + 1 => by simp [C]
  | n + 1, 0 => by
    have h : C n 1 * 1 = C n 0 * n := C_mul n 0
    show (C n 0 + C n 1) * 1 = C (n + 1) 0 * (n + 1)
    rw [C_zero] at h
    rw [C_zero, C_zero]
    omega
  | n + 1, k + 1 => by
    have h1 := C_mul n k
    have h2 := C_mul n (k + 1)
    by_cases c : k + 1 ≤ n
    · obtain ⟨m, rfl⟩ : ∃ m, n = k + 1 + m := ⟨n - (k + 1), by omega⟩
      rw [C_succ, C_succ]
      rw [show k + 1 + m - k = m + 1 by omega] at h1
      rw [show k + 1 + m - (k + 1) = m by omega] at h2
      rw [show k + 1 + m + 1 - (k + 1) = m + 1 by omega]
      generalize C (k + 1 + m) k = a at *
      generalize C (k + 1 + m) (k + 1) = b at *
      generalize C (k + 1 + m) (k + 1 + 1) = d at *
      rw [Nat.add_mul, Nat.add_mul]
      have e1 : b * (k + 1 + 1) = b * (k + 1) + b := by rw [Nat.mul_add (b) (k + 1) 1, Nat.mul_one]
      have e2 : b * (m + 1) = b * m + b := by rw [Nat.mul_add, Nat.mul_one]
      omega
    · rw [C_over (n + 1) (k + 1 + 1) (by omega)]
      by_cases c2 : k = n
      · subst c2; simp
      · rw [C_over (n + 1) (k + 1) (by omega)]; simp
theorem Cf_eq (n : Nat) : ∀ k, Cf n k = C n k
  | 0 => (C_zero n).symm
  | k + 1 => by
    show Cf n k * (n - k) / (k + 1) = _
    rw [Cf_eq n k, ← C_mul, Nat.mul_div_cancel _ (Nat.succ_pos k)]
def fac : Nat → Nat
  | 0 => 1
  | k + 1 => fac k * (k + 1)
def dsc (n : Nat) : Nat → Nat
  | 0 => 1
  | k + 1 => dsc n k * (n - k)
theorem fac_pos : ∀ k, 0 < fac k
  | 0 => Nat.one_pos
  | k + 1 => Nat.mul_pos (fac_pos k) (Nat.succ_pos k)
theorem dsc_eq (n : Nat) : ∀ k, dsc n k = C n k * fac k
  | 0 => by rw [C_zero]; rfl
  | k + 1 => by
    show dsc n k * (n - k) = C n (k + 1) * (fac k * (k + 1))
    rw [dsc_eq n k]
    have := C_mul n k
    calc C n k * fac k * (n - k) = (C n k * (n - k)) * fac k := by ac_rfl
      _ = (C n (k + 1) * (k + 1)) * fac k := by rw [← this]
      _ = _ := by ac_rfl
theorem dsc_div (n k : Nat) : dsc n k / fac k = Cf n k := by
  rw [dsc_eq, Cf_eq, Nat.mul_div_cancel _ (fac_pos k)]
theorem C_le : ∀ (n k : Nat), C n k ≤ 2 ^ n
  | n, 0 => by rw [C_zero]; exact Nat.one_le_two_pow
  | 0, k + 1 => by show 0 ≤ _; exact Nat.zero_le _
  | n + 1, k + 1 => by
    have h1 := C_le n k
    have h2 := C_le n (k + 1)
    rw [C_succ, Nat.pow_succ]
    omega
theorem Cf_le (n k : Nat) : Cf n k ≤ 2 ^ n := by rw [Cf_eq]; exact C_le n k
theorem Cf_over {n k : Nat} (h : n < k) : Cf n k = 0 := by rw [Cf_eq]; exact C_over n k h
theorem fac_le : ∀ k, k ≤ 1000 → fac k ≤ 2 ^ (10 * k)
  | 0, _ => by decide
  | k + 1, h => by
    have := fac_le k (by omega)
    show fac k * (k + 1) ≤ _
    rw [show 10 * (k + 1) = 10 * k + 10 by omega, Nat.pow_add]
    exact Nat.mul_le_mul this (by omega)
theorem log_le {a n : Nat} (h : a ≤ 2 ^ n) : a.log2 ≤ n := by
  by_cases z : a = 0
  · subst z; simp
  · exact Nat.le_of_lt_succ ((Nat.log2_lt z).mpr (Nat.lt_of_le_of_lt h (by rw [Nat.pow_succ]; have := Nat.two_pow_pos n; omega)))
theorem divOk_fac {k : Nat} (h : k ≤ 800) : divOk (fac k : Nat) = true := by
  unfold divOk
  have h1 := fac_pos k
  have h2 := log_le (fac_le k (by omega))
  simp
  omega
/-- a product of numbers that are not too great -/
theorem mulOk_b {a b : Int} {m n : Nat} (ha : a.natAbs ≤ 2 ^ m) (hb : b.natAbs ≤ 2 ^ n) (h : m + n < 1000000) : mulOk a b = true := by
  unfold mulOk
  have h1 := log_le ha
  have h2 := log_le hb
  simp
  right
  omega
/-! ### shared bodies -/
def isIntB : List S := [.ret (.and (.op .isint [(.var 0)]) (.not (.op .isbool [(.var 0)])))]
theorem isInt_run (F : Fns) (n : Nat) (i : Int) (g : G) : Iv.run F n 1 false isIntB [.int i] g = some (.bool true, g) := by
  simp [Iv.run, isIntB]
def withinB (j : Nat) : List S := [.ret (.and (.call j none [(.var 0)]) (.chain .le .le (.var 1) (.var 0) (.var 2)))]
theorem within_run {F : Fns} {n j : Nat} {i a b : Int} {g : G} (h : F j [.int i] g = some (.bool true, g)) : Iv.run F n 3 false (withinB j) [.int i, .int a, .int b] g = some (.bool (decide (a ≤ i ∧ i ≤ b)), g) := by
  simp [Iv.run, withinB, h]
def checkB (j : Nat) : List S := [.ite (.not (.call j none [(.var 0), (.cst (.int 0)), (.var 1)])) [.bad] []]
theorem check_run {F : Fns} {n j : Nat} {i b : Int} {g : G} (h : F j [.int i, .int 0, .int b] g = some (.bool true, g)) : Iv.run F n 2 false (checkB j) [.int i, .int b] g = some (.none, g) := by
  simp [Iv.run, checkB, h]
def chooseW : List S := [.par [2, 3] [(.op .mul [(.var 2), (.op .sub [(.var 0), (.var 4)])]), (.op .mul [(.var 3), (.op .add [(.var 4), (.cst (.int 1))])])]]
def chooseB : List S := [.ite (.or (.op .lt [(.var 1), (.cst (.int 0))]) (.op .gt [(.var 1), (.var 0)])) [.ret (.cst (.int 0))] [],
    .par [2, 3] [(.cst (.int 1)), (.cst (.int 1))],
    .for (.nm 4) .rng [(.var 1)] chooseW,
    .ret (.op .fdiv [(.var 2), (.var 3)])]
theorem choose_turn {F : Fns} {n : Nat} {g : G} {a b i : Int} {u v u2 v2 : Int} {y2 y3 y4 : Sl} (h2 : rdS (some y2) = some (.int u)) (h3 : rdS (some y3) = some (.int v)) (e1 : u * (a - i) = u2) (e2 : v * (i + 1) = v2) (m1 : mulOk u (a - i) = true) (m2 : mulOk v (i + 1) = true) :
    (bindTg (.nm 4) (.int i) ([.sh (.int a), .sh (.int b), y2, y3, y4], g)).bind (fun s1 => exs F n chooseW s1) = some (.nx, ([.sh (.int a), .sh (.int b), .sh (.int u2), .sh (.int v2), .sh (.int i)], g)) := by
  simp [chooseW, h2, h3, m1, m2, e1, e2]
theorem choose_loop (F : Fns) (n : Nat) (g : G) (a b : Nat) (hab : b ≤ a) (ha : a ≤ 100000) : ∀ (m i : Nat) (y2 y3 y4 : Sl), i + m = b → rdS (some y2) = some (.int (dsc a i : Nat)) → rdS (some y3) = some (.int (fac i : Nat)) →
    ∃ y2' y3' y4', loopL (fun v s => (bindTg (.nm 4) v s).bind fun s1 => exs F n chooseW s1) (rangeS (i : Int) m) ([.sh (.int a), .sh (.int b), y2, y3, y4], g) = some (.nx, ([.sh (.int a), .sh (.int b), y2', y3', y4'], g)) ∧ rdS (some y2') = some (.int (dsc a b : Nat)) ∧ rdS (some y3') = some (.int (fac b : Nat))
  | 0, i, y2, y3, y4, e, h2, h3 => by
    have : i = b := by omega
    subst this
    exact ⟨y2, y3, y4, rfl, h2, h3⟩
  | m + 1, i, y2, y3, y4, e, h2, h3 => by
    have e1 : ((dsc a i : Nat) : Int) * ((a : Int) - i) = (dsc a (i + 1) : Nat) := by
      show _ = ((dsc a i * (a - i) : Nat) : Int)
      rw [Int.natCast_mul, Int.natCast_sub (by omega)]
    have e2 : ((fac i : Nat) : Int) * ((i : Int) + 1) = (fac (i + 1) : Nat) := by
      show _ = ((fac i * (i + 1) : Nat) : Int)
      rw [Int.natCast_mul]; rfl
    have m1 : mulOk (dsc a i : Nat) ((a : Int) - i) = true := mulOk_r (by omega) (by omega)
    have m2 : mulOk (fac i : Nat) ((i : Int) + 1) = true := mulOk_r (by omega) (by omega)
    obtain ⟨y2', y3', y4', e3, e4⟩ := choose_loop F n g a b hab ha m (i + 1) (.sh (.int (dsc a (i + 1) : Nat))) (.sh (.int (fac (i + 1) : Nat))) (.sh (.int i)) (by omega) rfl rfl
    refine ⟨y2', y3', y4', ?_, e4⟩
    rw [rangeS_succ, loopL_nx (s1 := ([.sh (.int a), .sh (.int b), .sh (.int (dsc a (i + 1) : Nat)), .sh (.int (fac (i + 1) : Nat)), .sh (.int i)], g)) (choose_turn h2 h3 e1 e2 m1 m2)]
    exact e3
theorem choose_end {F : Fns} {n : Nat} {g : G} {a b u v w : Int} {y2 y3 y4 : Sl} (h2 : rdS (some y2) = some (.int u)) (h3 : rdS (some y3) = some (.int v)) (c1 : ¬ b < 0) (c2 : ¬ a < b) (d : divOk v = true) (e3 : u / v = w)
    (el : ex F n (.for (.nm 4) .rng [(.var 1)] chooseW) ([.sh (.int a), .sh (.int b), .ow (.int 1), .ow (.int 1), .no], g) = some (.nx, ([.sh (.int a), .sh (.int b), y2, y3, y4], g))) : Iv.run F n 5 false chooseB [.int a, .int b] g = some (.int w, g) := by
  simp [Iv.run, chooseB, el, h2, h3, d, e3, c1, c2]
theorem choose_none {F : Fns} {n : Nat} {g : G} {a b : Int} (c2 : a < b) : Iv.run F n 5 false chooseB [.int a, .int b] g = some (.int 0, g) := by
  simp [Iv.run, chooseB, c2]
theorem choose_run (F : Fns) (n : Nat) (a b : Nat) (g : G) (ha : a ≤ 100000) (hb : b ≤ 800) : Iv.run F n 5 false chooseB [.int a, .int b] g = some (.int (Cf a b : Nat), g) := by
  by_cases hab : b ≤ a
  · obtain ⟨y2, y3, y4, e, h2, h3⟩ := choose_loop F n g a b hab ha b 0 (.ow (.int 1)) (.ow (.int 1)) .no (by omega) rfl rfl
    have el : ex F n (.for (.nm 4) .rng [(.var 1)] chooseW) ([.sh (.int a), .sh (.int b), .ow (.int 1), .ow (.int 1), .no], g) = some (.nx, ([.sh (.int a), .sh (.int b), y2, y3, y4], g)) := by
      rw [ex_for (ds := [.int b]) (vs := rangeS 0 b) (s1 := ([.sh (.int a), .sh (.int b), .ow (.int 1), .ow (.int 1), .no], g)) (by simp) (by
        rw [it_rng, if_pos (small62_s (by omega) (by omega))]; rfl)]
      exact e
    have d := divOk_fac hb
    have c1 : ¬ (b : Int) < 0 := by omega
    have c2 : ¬ (a : Int) < b := by omega
    have e3 : ((dsc a b : Nat) : Int) / ((fac b : Nat) : Int) = ((Cf a b : Nat) : Int) := by rw [← dsc_div]; rfl
    exact choose_end h2 h3 c1 c2 d e3 el
  · have c2 : (a : Int) < b := by omega
    rw [Cf_over (by omega)]
    exact choose_none c2
def lawChooseW : List S := [.asg 2 (.op .fdiv [(.op .mul [(.var 2), (.op .sub [(.var 0), (.var 3)])]), (.op .add [(.var 3), (.cst (.int 1))])])]
def lawChooseB : List S := [.ite (.or (.op .lt [(.var 1), (.cst (.int 0))]) (.op .gt [(.var 1), (.var 0)])) [.ret (.cst (.int 0))] [],
    .asg 2 (.cst (.int 1)),
    .for (.nm 3) .rng [(.var 1)] lawChooseW,
    .ret (.var 2)]
theorem lawChoose_turn {F : Fns} {n : Nat} {g : G} {a b i u u2 : Int} {y2 y3 : Sl} (h2 : rdS (some y2) = some (.int u)) (e1 : u * (a - i) / (i + 1) = u2) (m1 : mulOk u (a - i) = true) (d1 : divOk (i + 1) = true) :
    (bindTg (.nm 3) (.int i) ([.sh (.int a), .sh (.int b), y2, y3], g)).bind (fun s1 => exs F n lawChooseW s1) = some (.nx, ([.sh (.int a), .sh (.int b), .ow (.int u2), .sh (.int i)], g)) := by
  simp [lawChooseW, h2, m1, d1, e1]
theorem lawChoose_end {F : Fns} {n : Nat} {g : G} {a b u : Int} {y2 y3 : Sl} (h2 : rdS (some y2) = some (.int u)) (c1 : ¬ b < 0) (c2 : ¬ a < b)
    (el : ex F n (.for (.nm 3) .rng [(.var 1)] lawChooseW) ([.sh (.int a), .sh (.int b), .ow (.int 1), .no], g) = some (.nx, ([.sh (.int a), .sh (.int b), y2, y3], g))) : Iv.run F n 4 false lawChooseB [.int a, .int b] g = some (.int u, g) := by
  simp [Iv.run, lawChooseB, el, h2, c1, c2]
theorem lawChoose_none {F : Fns} {n : Nat} {g : G} {a b : Int} (c2 : a < b) : Iv.run F n 4 false lawChooseB [.int a, .int b] g = some (.int 0, g) := by
  simp [Iv.run, lawChooseB, c2]
theorem lawChoose_loop (F : Fns) (n : Nat) (g : G) (a b : Nat) (hab : b ≤ a) (ha : a ≤ 100000) : ∀ (m i : Nat) (y2 y3 : Sl), i + m = b → rdS (some y2) = some (.int (Cf a i : Nat)) →
    ∃ y2' y3', loopL (fun v s => (bindTg (.nm 3) v s).bind fun s1 => exs F n lawChooseW s1) (rangeS (i : Int) m) ([.sh (.int a), .sh (.int b), y2, y3], g) = some (.nx, ([.sh (.int a), .sh (.int b), y2', y3'], g)) ∧ rdS (some y2') = some (.int (Cf a b : Nat))
  | 0, i, y2, y3, e, h2 => by
    have : i = b := by omega
    subst this
    exact ⟨y2, y3, rfl, h2⟩
  | m + 1, i, y2, y3, e, h2 => by
    have e1 : ((Cf a i : Nat) : Int) * ((a : Int) - i) / ((i : Int) + 1) = (Cf a (i + 1) : Nat) := by
      show _ = ((Cf a i * (a - i) / (i + 1) : Nat) : Int)
      rw [Int.natCast_ediv, Int.natCast_mul, Int.natCast_sub (by omega)]; rfl
    have m1 : mulOk (Cf a i : Nat) ((a : Int) - i) = true := mulOk_r (by omega) (by omega)
    have d1 : divOk ((i : Int) + 1) = true := divOk_s (by omega) (by omega)
    obtain ⟨y2', y3', e3, e4⟩ := lawChoose_loop F n g a b hab ha m (i + 1) (.ow (.int (Cf a (i + 1) : Nat))) (.sh (.int i)) (by omega) rfl
    refine ⟨y2', y3', ?_, e4⟩
    rw [rangeS_succ, loopL_nx (s1 := ([.sh (.int a), .sh (.int b), .ow (.int (Cf a (i + 1) : Nat)), .sh (.int i)], g)) (lawChoose_turn h2 e1 m1 d1)]
    exact e3
theorem lawChoose_run (F : Fns) (n : Nat) (a b : Nat) (g : G) (ha : a ≤ 100000) (hb : b ≤ 100000) : Iv.run F n 4 false lawChooseB [.int a, .int b] g = some (.int (Cf a b : Nat), g) := by
  by_cases hab : b ≤ a
  · obtain ⟨y2, y3, e, h2⟩ := lawChoose_loop F n g a b hab ha b 0 (.ow (.int 1)) .no (by omega) rfl
    have el : ex F n (.for (.nm 3) .rng [(.var 1)] lawChooseW) ([.sh (.int a), .sh (.int b), .ow (.int 1), .no], g) = some (.nx, ([.sh (.int a), .sh (.int b), y2, y3], g)) := by
      rw [ex_for (ds := [.int b]) (vs := rangeS 0 b) (s1 := ([.sh (.int a), .sh (.int b), .ow (.int 1), .no], g)) (by simp) (by
        rw [it_rng, if_pos (small62_s (by omega) (by omega))]; rfl)]
      exact e
    have c1 : ¬ (b : Int) < 0 := by omega
    have c2 : ¬ (a : Int) < b := by omega
    exact lawChoose_end h2 c1 c2 el
  · have c2 : (a : Int) < b := by omega
    rw [Cf_over (by omega)]
    exact lawChoose_none c2
def powerW : List S := [.asg 2 (.op .mul [(.var 2), (.var 0)])]
def powerB : List S := [.asg 2 (.cst (.int 1)), .for (.nm 3) .rng [(.var 1)] powerW, .ret (.var 2)]
theorem power_turn {F : Fns} {n : Nat} {g : G} {a b i u u2 : Int} {y2 y3 : Sl} (h2 : rdS (some y2) = some (.int u)) (e1 : u * a = u2) (m1 : mulOk u a = true) :
    (bindTg (.nm 3) (.int i) ([.sh (.int a), .sh (.int b), y2, y3], g)).bind (fun s1 => exs F n powerW s1) = some (.nx, ([.sh (.int a), .sh (.int b), .sh (.int u2), .sh (.int i)], g)) := by
  simp [powerW, h2, m1, e1]
theorem power_end {F : Fns} {n : Nat} {g : G} {a b u : Int} {y2 y3 : Sl} (h2 : rdS (some y2) = some (.int u))
    (el : ex F n (.for (.nm 3) .rng [(.var 1)] powerW) ([.sh (.int a), .sh (.int b), .ow (.int 1), .no], g) = some (.nx, ([.sh (.int a), .sh (.int b), y2, y3], g))) : Iv.run F n 4 false powerB [.int a, .int b] g = some (.int u, g) := by
  simp [Iv.run, powerB, el, h2]
theorem power_loop (F : Fns) (n : Nat) (g : G) (c : Int) (hc : -100000 ≤ c ∧ c ≤ 100000) (b : Nat) : ∀ (m i : Nat) (y2 y3 : Sl), i + m = b → rdS (some y2) = some (.int (c ^ i)) →
    ∃ y2' y3', loopL (fun v s => (bindTg (.nm 3) v s).bind fun s1 => exs F n powerW s1) (rangeS (i : Int) m) ([.sh (.int c), .sh (.int b), y2, y3], g) = some (.nx, ([.sh (.int c), .sh (.int b), y2', y3'], g)) ∧ rdS (some y2') = some (.int (c ^ b))
  | 0, i, y2, y3, e, h2 => by
    have : i = b := by omega
    subst this
    exact ⟨y2, y3, rfl, h2⟩
  | m + 1, i, y2, y3, e, h2 => by
    have m1 : mulOk (c ^ i) c = true := mulOk_r (by omega) (by omega)
    obtain ⟨y2', y3', e3, e4⟩ := power_loop F n g c hc b m (i + 1) (.sh (.int (c ^ (i + 1)))) (.sh (.int i)) (by omega) rfl
    refine ⟨y2', y3', ?_, e4⟩
    rw [rangeS_succ, loopL_nx (s1 := ([.sh (.int c), .sh (.int b), .sh (.int (c ^ (i + 1))), .sh (.int i)], g)) (power_turn h2 (Int.pow_succ c i).symm m1)]
    exact e3
theorem power_run (F : Fns) (n : Nat) (c : Int) (b : Nat) (g : G) (hc : -100000 ≤ c ∧ c ≤ 100000) (hb : b ≤ 100000) : Iv.run F n 4 false powerB [.int c, .int b] g = some (.int (c ^ b), g) := by
  obtain ⟨y2, y3, e, h2⟩ := power_loop F n g c hc b b 0 (.ow (.int 1)) .no (by omega) (by simp)
  have el : ex F n (.for (.nm 3) .rng [(.var 1)] powerW) ([.sh (.int c), .sh (.int b), .ow (.int 1), .no], g) = some (.nx, ([.sh (.int c), .sh (.int b), y2, y3], g)) := by
    rw [ex_for (ds := [.int b]) (vs := rangeS 0 b) (s1 := ([.sh (.int c), .sh (.int b), .ow (.int 1), .no], g)) (by simp) (by
      rw [it_rng, if_pos (small62_s (by omega) (by omega))]; rfl)]
    exact e
  exact power_end h2 el
theorem mulOk_n {a b m n : Nat} (ha : a ≤ 2 ^ m) (hb : b ≤ 2 ^ n) (h : m + n < 1000000) : mulOk (a : Int) (b : Int) = true := mulOk_b (m := m) (n := n) (by rw [Int.natAbs_natCast]; exact ha) (by rw [Int.natAbs_natCast]; exact hb) h
/-- counts -/
def ct (n : Nat) : Nat := Cf (2 * n) n / (n + 1)
theorem ct_le (n : Nat) : ct n ≤ 2 ^ (2 * n) := Nat.le_trans (Nat.div_le_self _ _) (Cf_le _ _)
theorem sum_cast : ∀ l : List Nat, (l.map fun (i : Nat) => (i : Int)).sum = ((l.sum : Nat) : Int)
  | [] => rfl
  | x :: l => by rw [List.map_cons, List.sum_cons, List.sum_cons, sum_cast l, Int.natCast_add]
/-- the sum of the first k -/
def sm (f : Nat → Nat) : Nat → Nat
  | 0 => 0
  | k + 1 => sm f k + f k
theorem sm_cast (f : Nat → Nat) : ∀ k : Nat, ((List.range k).map fun i => ((f i : Nat) : Int)).sum = ((sm f k : Nat) : Int)
  | 0 => rfl
  | k + 1 => by
    rw [List.range_succ, List.map_append, List.sum_append, sm_cast f k]
    show _ + (((f k : Nat) : Int) + 0) = ((sm f k + f k : Nat) : Int)
    rw [Int.natCast_add]; omega
/-- a comprehension over numbers from lo on: each turn told of whole numbers -/
theorem ev_rngS {F : Fns} {t : Tg} {es : List E} {elt : E} {s s1 : St} {ds : List D} {lo : Int} {k : Nat} (f : Nat → Int) (h1 : evs F es s = some (ds, s1)) (h2 : itS .rng ds = some (rangeS lo k)) (hk : k ≤ 1000000)
    (h3 : ∀ i, i < k → compT F t es none elt s1 (.int (lo + i)) s1.2 = some (some (.int (f i)), s1.2)) : ev F (.comp t .rng es none elt) s = some (.list ((List.range k).map fun i => .int (f i)), s1) :=
  ev_compM (vs := List.range k) (enc := fun (i : Nat) => .int (lo + i)) (fun i => .int (f i)) h1 h2 (by rw [List.length_range]; exact le_line (by omega)) fun i m => h3 i (List.mem_range.mp m)
end Iv
set_option Elab.async false
set_option linter.all false
set_option maxRecDepth 100000
set_option maxHeartbeats 2000000
/-! IvProg: a whole program's defs: each keeps the promise of its own run, whatever it is (no mirror is asked). -/
namespace Iv
open PySem PySem.Spec PyProof.Rows
open L2 (V Hp HO RelV FnOk Room Binds CX0 Sp XK FnScope VK)
structure Df where
  name : Str
  st : Stmt
  N : List Str
  ps : List Str
  h : Bool
def gamOf (tab : List Df) (cst : List (Str × D)) (e : Df) : Gam := ⟨e.N, (L2.defScope e.st).names, tab.map fun e => (e.name, e.h), cst⟩
/-- the defs, calls down to the depth d -/
def Fk (tab : List Df) (cst : List (Str × D)) : Nat → Fns
  | 0 => fun _ _ _ => none
  | d + 1 => fun i ds g => match tab[i]? with
    | some e => if ds.length + (if e.h then 1 else 0) = e.ps.length then Iv.run (Fk tab cst d) 1000000 e.N.length e.h (cB 40 40 (gamOf tab cst e) e.st) ds g else none
    | none => none
variable {P : Program} {w : World} {K : PySem.W.Frag} {mg : Str → Option Value} {base : PySem.Heap}
/-- what the top has written of one def -/
def Wrote (K : PySem.W.Frag) (mg : Str → Option Value) (e : Df) : Prop := ∃ (f : Addr) (fd : FuncData), mg e.name = some (.ref f) ∧ PySem.W.keepIn K (.ref f) = true ∧ L2.Fun K e.name e.name e.st f fd ∧ Binds K fd e.ps []
theorem fk_ok {tab : List Df} {cst : List (Str × D)} (W : ∀ e ∈ tab, Wrote K mg e) (S : ∀ e ∈ tab, FnScope e.N e.ps (L2.defScope e.st)) (blt : ∀ x ∈ bltNames, mg x = none)
    (hc : ∀ x d, cst.lookup x = some d → ∃ (u : Value) (v : V), mg x = some u ∧ RelV v u ∧ ∀ H, Rep K H v d []) :
    ∀ d i e, tab[i]? = some e → ∃ (f : Addr) (fd : FuncData), mg e.name = some (.ref f) ∧ PySem.W.keepIn K (.ref f) = true ∧ FnOk P w K mg base CX0 d f fd e.ps (spOf K (Fk tab cst d i) e.h) ∧ Binds K fd e.ps []
  | 0, i, e, he => by
    obtain ⟨f, fd, h1, h2, h3, h4⟩ := W e (List.mem_of_getElem? he)
    refine ⟨f, fd, h1, h2, ⟨fun vs H Q E q => ?_, fun A outer s H args us vs Q E _ _ _ _ q => ?_⟩, h4⟩
    · obtain ⟨ah, g, Fg, ds, ws, Fs, d, g', e, _⟩ := q
      cases e
    · obtain ⟨ah, g, Fg, ds, ws, Fs, d, g', e, _⟩ := q
      cases e
  | d + 1, i, e, he => by
    obtain ⟨f, fd, h1, h2, h3, h4⟩ := W e (List.mem_of_getElem? he)
    refine ⟨f, fd, h1, h2, fn_ok (γ := gamOf tab cst e) (F := Fk tab cst d) 40 40 h3 (S e (List.mem_of_getElem? he)) rfl rfl (fun j x h q => ?_) blt hc (fun ds g r q => ?_) (fun ds g r q => ⟨1000000, ?_⟩), h4⟩
    · have q' : (tab.map fun e => (e.name, e.h))[j]? = some (x, h) := q
      rw [List.getElem?_map, Option.map_eq_some_iff] at q'
      obtain ⟨e', he', z⟩ := q'
      cases z
      obtain ⟨f', fd', g1, g2, g3, g4⟩ := fk_ok W S blt hc d j e' he'
      exact ⟨f', fd', e'.ps, g1, g2, g3, g4⟩
    · unfold Fk at q
      rw [he] at q
      dsimp only at q
      by_cases z : ds.length + (if e.h then 1 else 0) = e.ps.length
      · exact z
      · rw [if_neg z] at q; cases q
    · unfold Fk at q
      rw [he] at q
      dsimp only at q
      by_cases z : ds.length + (if e.h then 1 else 0) = e.ps.length
      · rw [if_pos z] at q; exact q
      · rw [if_neg z] at q; cases q
/-- the same, told of the frozen heap alone -/
def Laid (K : PySem.W.Frag) (e : Df) : Prop := ∃ (f : Addr) (fd : FuncData), PySem.W.nsIn K mainGlobals e.name = some (some (.ref f)) ∧ PySem.W.keepIn K (.ref f) = true ∧ L2.Fun K e.name e.name e.st f fd
theorem laid_mk {e : Df} {f : Addr} {oc : Value} {od an : Option Addr} {osl : Array (Option Value)} {kV doc pm cdv ct : Value} (a : PySem.W.nsIn K mainGlobals e.name = some (some (.ref f)))
    (l : K.lookup f = some ⟨oc, od, .func (PySem.W.fnOf e.name e.name (L2.defArgs e.st) (L2.defBody e.st) (L2.defScope e.st) .none kV doc pm an cdv ct), osl⟩) (c : PySem.W.codeIn K cdv e.name = true) (k : PySem.W.keepIn K (.ref f) = true) : Laid K e :=
  ⟨f, _, a, k, L2.fun_mk l c k⟩
theorem wrote_of {e : Df} {h : PySem.Heap} (X : K.In h) (G : h.Ns mainGlobals mg) (L : Laid K e) (b : ∀ {f : Addr} {fd : FuncData}, L2.Fun K e.name e.name e.st f fd → Binds K fd e.ps []) : Wrote K mg e := by
  obtain ⟨f, fd, a, k, F⟩ := L
  exact ⟨f, fd, PySem.W.mg_of X G a, k, F, b F⟩
end Iv
set_option Elab.async false
set_option linter.all false
set_option maxRecDepth 100000
/-! K19: the defs as they were read. -/
namespace K19
open PySem Iv
def topS (i : Nat) : Stmt := PySem.Challenge.pw_eachaseach_k19_whole_rows_of_two_by_squa.main.body.getD i (.Pass ⟨0, 0, 0, 0⟩)
def cst : List (Str × D) := [("MOST_SIZE", .int 20)]
def e1 : Df := ⟨"is_integer", topS 1, ["thing"], ["thing"], false⟩
def e2 : Df := ⟨"is_within", topS 2, ["thing", "least", "most"], ["thing", "least", "most"], false⟩
def e3 : Df := ⟨"is_tuple", topS 3, ["thing", "least", "most"], ["thing", "least", "most"], false⟩
def e11 : Df := ⟨"check_size", topS 11, ["size", "most"], ["size", "most"], false⟩
def e12 : Df := ⟨"choose", topS 12, ["many", "some", "top", "bottom", "at"], ["many", "some"], false⟩
def e13 : Df := ⟨"many_of", topS 13, ["size"], ["size"], false⟩
def e14 : Df := ⟨"many", topS 14, ["size"], ["size"], false⟩
def e16 : Df := ⟨"by_hooks", topS 16, ["size", "top", "bottom", "number", "at"], ["size"], false⟩
def e17 : Df := ⟨"bent", topS 17, ["first", "second"], ["first", "second"], false⟩
def e18 : Df := ⟨"longest_rise", topS 18, ["row", "tops", "one", "spots", "at", "top"], ["row"], false⟩
def e19 : Df := ⟨"rise", topS 19, ["row", "one"], ["row"], false⟩
def e21 : Df := ⟨"is_row", topS 21, ["thing", "one"], ["thing"], false⟩
def e22 : Df := ⟨"check_row", topS 22, ["thing"], ["thing"], false⟩
def e23 : Df := ⟨"is_three", topS 23, ["thing", "one"], ["thing"], false⟩
def e24 : Df := ⟨"place_of_three", topS 24, ["row", "three", "a", "b", "c"], ["row", "three"], false⟩
def e25 : Df := ⟨"all_avoiding", topS 25, ["size", "three", "found", "turn", "longer", "row", "one", "fresh", "other"], ["size", "three"], false⟩
def e26 : Df := ⟨"exchanged", topS 26, ["row", "found", "at", "one"], ["row"], false⟩
def e27 : Df := ⟨"both_avoid", topS 27, ["size", "one", "other", "row"], ["size", "one", "other"], false⟩
def e29 : Df := ⟨"check_pair", topS 29, ["one", "other", "most"], ["one", "other", "most"], false⟩
def e30 : Df := ⟨"ahead", topS 30, ["ups", "downs"], ["ups", "downs"], false⟩
def e31 : Df := ⟨"determinant", topS 31, ["rows", "sign", "ahead_told", "column", "at", "some", "far", "told", "row"], ["rows"], false⟩
def e32 : Df := ⟨"count_table", topS 32, ["begin", "size", "at", "far"], ["begin", "size"], false⟩
def e34 : Df := ⟨"_law_hand", topS 34, ["script", "cells", "cell"], ["script"], false⟩
def e35 : Df := ⟨"_law_draw", topS 35, ["hand", "many_v", "cell", "digit", "number"], ["hand", "many_v"], true⟩
def e39 : Df := ⟨"_law_choose", topS 39, ["many_v", "few", "found", "at"], ["many_v", "few"], false⟩
def e42 : Df := ⟨"_law_bent", topS 42, ["first", "second"], ["first", "second"], false⟩
def e43 : Df := ⟨"_law_are_squares_right", topS 43, ["hand", "size", "low", "own", "few", "one"], ["hand"], true⟩
def e44 : Df := ⟨"_law_are_rows_right", topS 44, ["size", "rises", "kept", "rows", "row", "far", "tables", "few"], ["size"], false⟩
def e45 : Df := ⟨"law", topS 45, ["script", "hand", "begin", "size", "top", "bottom", "one", "other"], ["script"], false⟩
def tab : List Df := [e1, e2, e3, e11, e12, e13, e14, e16, e17, e18, e19, e21, e22, e23, e24, e25, e26, e27, e29, e30, e31, e32, e34, e35, e1, e1, e1, e39, e1, e1, e42, e43, e44, e45]
theorem sc1 : L2.FnScope e1.N e1.ps (L2.defScope e1.st) := ⟨rfl, rfl, rfl, by decide +kernel, rfl, by decide +kernel, by decide +kernel⟩
theorem bn1 {K : PySem.W.Frag} {f : Addr} {fd : FuncData} (F : L2.Fun K e1.name e1.name e1.st f fd) : L2.Binds K fd e1.ps [] := F.binds fun _ _ _ _ _ _ us hl => match us, hl with | [_], _ => rfl
def b0 : List S := [.ret (.and (.op .isint [(.var 0)]) (.not (.op .isbool [(.var 0)])))]
theorem r0 : cB 40 40 (gamOf tab cst e1) e1.st = b0 := by kernel_rfl
theorem f0 (d : Nat) (ds : List D) (g : G) (h : ds.length + 0 = 1) : Fk tab cst (d + 1) 0 ds g = Iv.run (Fk tab cst d) 1000000 1 false b0 ds g := by
  rw [← r0]
  exact if_pos h
theorem sc2 : L2.FnScope e2.N e2.ps (L2.defScope e2.st) := ⟨rfl, rfl, rfl, by decide +kernel, rfl, by decide +kernel, by decide +kernel⟩
theorem bn2 {K : PySem.W.Frag} {f : Addr} {fd : FuncData} (F : L2.Fun K e2.name e2.name e2.st f fd) : L2.Binds K fd e2.ps [] := F.binds fun _ _ _ _ _ _ us hl => match us, hl with | [_, _, _], _ => rfl
def b1 : List S := [.ret (.and (.call 0 none [(.var 0)]) (.chain .le .le (.var 1) (.var 0) (.var 2)))]
theorem r1 : cB 40 40 (gamOf tab cst e2) e2.st = b1 := by kernel_rfl
theorem f1 (d : Nat) (ds : List D) (g : G) (h : ds.length + 0 = 3) : Fk tab cst (d + 1) 1 ds g = Iv.run (Fk tab cst d) 1000000 3 false b1 ds g := by
  rw [← r1]
  exact if_pos h
theorem sc3 : L2.FnScope e3.N e3.ps (L2.defScope e3.st) := ⟨rfl, rfl, rfl, by decide +kernel, rfl, by decide +kernel, by decide +kernel⟩
theorem bn3 {K : PySem.W.Frag} {f : Addr} {fd : FuncData} (F : L2.Fun K e3.name e3.name e3.st f fd) : L2.Binds K fd e3.ps [] := F.binds fun _ _ _ _ _ _ us hl => match us, hl with | [_, _, _], _ => rfl
def b2 : List S := [.ret (.and (.op .istup [(.var 0)]) (.chain .le .le (.var 1) (.op .len [(.var 0)]) (.var 2)))]
theorem r2 : cB 40 40 (gamOf tab cst e3) e3.st = b2 := by kernel_rfl
theorem f2 (d : Nat) (ds : List D) (g : G) (h : ds.length + 0 = 3) : Fk tab cst (d + 1) 2 ds g = Iv.run (Fk tab cst d) 1000000 3 false b2 ds g := by
  rw [← r2]
  exact if_pos h
theorem sc11 : L2.FnScope e11.N e11.ps (L2.defScope e11.st) := ⟨rfl, rfl, rfl, by decide +kernel, rfl, by decide +kernel, by decide +kernel⟩
theorem bn11 {K : PySem.W.Frag} {f : Addr} {fd : FuncData} (F : L2.Fun K e11.name e11.name e11.st f fd) : L2.Binds K fd e11.ps [] := F.binds fun _ _ _ _ _ _ us hl => match us, hl with | [_, _], _ => rfl
def b3 : List S := [.ite (.not (.call 1 none [(.var 0), (.cst (.int 0)), (.var 1)])) [.bad] []]
theorem r3 : cB 40 40 (gamOf tab cst e11) e11.st = b3 := by kernel_rfl
theorem f3 (d : Nat) (ds : List D) (g : G) (h : ds.length + 0 = 2) : Fk tab cst (d + 1) 3 ds g = Iv.run (Fk tab cst d) 1000000 2 false b3 ds g := by
  rw [← r3]
  exact if_pos h
theorem sc12 : L2.FnScope e12.N e12.ps (L2.defScope e12.st) := ⟨rfl, rfl, rfl, by decide +kernel, rfl, by decide +kernel, by decide +kernel⟩
theorem bn12 {K : PySem.W.Frag} {f : Addr} {fd : FuncData} (F : L2.Fun K e12.name e12.name e12.st f fd) : L2.Binds K fd e12.ps [] := F.binds fun _ _ _ _ _ _ us hl => match us, hl with | [_, _], _ => rfl
def w4_0 : List S := [.par [2, 3] [(.op .mul [(.var 2), (.op .sub [(.var 0), (.var 4)])]), (.op .mul [(.var 3), (.op .add [(.var 4), (.cst (.int 1))])])]]
def l4_0 : S := .for (.nm 4) .rng [(.var 1)] w4_0
def b4 : List S := [.ite (.or (.op .lt [(.var 1), (.cst (.int 0))]) (.op .gt [(.var 1), (.var 0)])) [.ret (.cst (.int 0))] [],
    .par [2, 3] [(.cst (.int 1)), (.cst (.int 1))],
    l4_0,
    .ret (.op .fdiv [(.var 2), (.var 3)])]
theorem r4 : cB 40 40 (gamOf tab cst e12) e12.st = b4 := by kernel_rfl
theorem f4 (d : Nat) (ds : List D) (g : G) (h : ds.length + 0 = 2) : Fk tab cst (d + 1) 4 ds g = Iv.run (Fk tab cst d) 1000000 5 false b4 ds g := by
  rw [← r4]
  exact if_pos h
theorem sc13 : L2.FnScope e13.N e13.ps (L2.defScope e13.st) := ⟨rfl, rfl, rfl, by decide +kernel, rfl, by decide +kernel, by decide +kernel⟩
theorem bn13 {K : PySem.W.Frag} {f : Addr} {fd : FuncData} (F : L2.Fun K e13.name e13.name e13.st f fd) : L2.Binds K fd e13.ps [] := F.binds fun _ _ _ _ _ _ us hl => match us, hl with | [_], _ => rfl
def b5 : List S := [.ret (.op .fdiv [(.call 4 none [(.op .mul [(.cst (.int 2)), (.var 0)]), (.var 0)]), (.op .add [(.var 0), (.cst (.int 1))])])]
theorem r5 : cB 40 40 (gamOf tab cst e13) e13.st = b5 := by kernel_rfl
theorem f5 (d : Nat) (ds : List D) (g : G) (h : ds.length + 0 = 1) : Fk tab cst (d + 1) 5 ds g = Iv.run (Fk tab cst d) 1000000 1 false b5 ds g := by
  rw [← r5]
  exact if_pos h
theorem sc14 : L2.FnScope e14.N e14.ps (L2.defScope e14.st) := ⟨rfl, rfl, rfl, by decide +kernel, rfl, by decide +kernel, by decide +kernel⟩
theorem bn14 {K : PySem.W.Frag} {f : Addr} {fd : FuncData} (F : L2.Fun K e14.name e14.name e14.st f fd) : L2.Binds K fd e14.ps [] := F.binds fun _ _ _ _ _ _ us hl => match us, hl with | [_], _ => rfl
def b6 : List S := [.drop (.call 3 none [(.var 0), (.cst (.int 300))]),
    .ret (.call 5 none [(.var 0)])]
theorem r6 : cB 40 40 (gamOf tab cst e14) e14.st = b6 := by kernel_rfl
theorem f6 (d : Nat) (ds : List D) (g : G) (h : ds.length + 0 = 1) : Fk tab cst (d + 1) 6 ds g = Iv.run (Fk tab cst d) 1000000 1 false b6 ds g := by
  rw [← r6]
  exact if_pos h
theorem sc16 : L2.FnScope e16.N e16.ps (L2.defScope e16.st) := ⟨rfl, rfl, rfl, by decide +kernel, rfl, by decide +kernel, by decide +kernel⟩
theorem bn16 {K : PySem.W.Frag} {f : Addr} {fd : FuncData} (F : L2.Fun K e16.name e16.name e16.st f fd) : L2.Binds K fd e16.ps [] := F.binds fun _ _ _ _ _ _ us hl => match us, hl with | [_], _ => rfl
def w7_0 : List S := [.asg 1 (.op .mul [(.var 1), (.var 3)])]
def l7_0 : S := .for (.nm 3) .rng [(.cst (.int 2)), (.op .add [(.op .mul [(.cst (.int 2)), (.var 0)]), (.cst (.int 1))])] w7_0
def w7_1 : List S := [.asg 2 (.op .mul [(.op .mul [(.var 2), (.op .sub [(.var 0), (.var 4)])]), (.op .add [(.op .sub [(.var 0), (.var 4)]), (.cst (.int 1))])])]
def l7_1 : S := .for (.nm 4) .rng [(.var 0)] w7_1
def b7 : List S := [.drop (.call 3 none [(.var 0), (.cst (.int 100))]),
    .par [1, 2] [(.cst (.int 1)), (.cst (.int 1))],
    l7_0,
    l7_1,
    .ret (.op .fdiv [(.var 1), (.var 2)])]
theorem r7 : cB 40 40 (gamOf tab cst e16) e16.st = b7 := by kernel_rfl
theorem f7 (d : Nat) (ds : List D) (g : G) (h : ds.length + 0 = 1) : Fk tab cst (d + 1) 7 ds g = Iv.run (Fk tab cst d) 1000000 5 false b7 ds g := by
  rw [← r7]
  exact if_pos h
theorem sc17 : L2.FnScope e17.N e17.ps (L2.defScope e17.st) := ⟨rfl, rfl, rfl, by decide +kernel, rfl, by decide +kernel, by decide +kernel⟩
theorem bn17 {K : PySem.W.Frag} {f : Addr} {fd : FuncData} (F : L2.Fun K e17.name e17.name e17.st f fd) : L2.Binds K fd e17.ps [] := F.binds fun _ _ _ _ _ _ us hl => match us, hl with | [_, _], _ => rfl
def b8 : List S := [.ite (.or (.not (.call 1 none [(.var 0), (.cst (.int 0)), (.cst (.int 200))])) (.or (.not (.call 1 none [(.var 1), (.cst (.int 0)), (.cst (.int 200))])) (.op .gt [(.var 1), (.var 0)]))) [.bad] [],
    .ret (.op .fdiv [(.op .mul [(.call 4 none [(.op .add [(.var 0), (.var 1)]), (.var 1)]), (.op .add [(.op .sub [(.var 0), (.var 1)]), (.cst (.int 1))])]), (.op .add [(.var 0), (.cst (.int 1))])])]
theorem r8 : cB 40 40 (gamOf tab cst e17) e17.st = b8 := by kernel_rfl
theorem f8 (d : Nat) (ds : List D) (g : G) (h : ds.length + 0 = 2) : Fk tab cst (d + 1) 8 ds g = Iv.run (Fk tab cst d) 1000000 2 false b8 ds g := by
  rw [← r8]
  exact if_pos h
theorem sc18 : L2.FnScope e18.N e18.ps (L2.defScope e18.st) := ⟨rfl, rfl, rfl, by decide +kernel, rfl, by decide +kernel, by decide +kernel⟩
theorem bn18 {K : PySem.W.Frag} {f : Addr} {fd : FuncData} (F : L2.Fun K e18.name e18.name e18.st f fd) : L2.Binds K fd e18.ps [] := F.binds fun _ _ _ _ _ _ us hl => match us, hl with | [_], _ => rfl
def c9_0 : E := .comp (.tp [4, 5]) .enum [(.var 1)] (some (.op .ge [(.var 5), (.var 2)])) (.var 4)
def w9_0 : List S := [.asg 3 c9_0, .ite (.op .eq [(.op .len [(.var 3)]), (.cst (.int 0))]) [.append 1 (.var 2)] [.setI 1 (.op .ix [(.var 3), (.cst (.int 0))]) (.var 2)]]
def l9_0 : S := .for (.nm 2) .val [(.var 0)] w9_0
def b9 : List S := [.asg 1 (.op .lstD []),
    l9_0,
    .ret (.op .len [(.var 1)])]
theorem r9 : cB 40 40 (gamOf tab cst e18) e18.st = b9 := by kernel_rfl
theorem f9 (d : Nat) (ds : List D) (g : G) (h : ds.length + 0 = 1) : Fk tab cst (d + 1) 9 ds g = Iv.run (Fk tab cst d) 1000000 6 false b9 ds g := by
  rw [← r9]
  exact if_pos h
theorem sc19 : L2.FnScope e19.N e19.ps (L2.defScope e19.st) := ⟨rfl, rfl, rfl, by decide +kernel, rfl, by decide +kernel, by decide +kernel⟩
theorem bn19 {K : PySem.W.Frag} {f : Addr} {fd : FuncData} (F : L2.Fun K e19.name e19.name e19.st f fd) : L2.Binds K fd e19.ps [] := F.binds fun _ _ _ _ _ _ us hl => match us, hl with | [_], _ => rfl
def c10_0 : E := .comp (.nm 1) .val [(.var 0)] none (.call 1 none [(.var 1), (.op .neg [(.op .pow [(.cst (.int 10)), (.cst (.int 6))])]), (.op .pow [(.cst (.int 10)), (.cst (.int 6))])])
@[simp] theorem fr_c10_0 : E.fr c10_0 = true := (rfl)
@[simp] theorem fresh_c10_0 (v : D) : E.fresh c10_0 v = true := fresh_compF (rfl) v
@[simp] theorem store_c10_0 (i : Nat) (v : D) (s : St) : store i c10_0 v s = some (put s i (.ow v)) := store_compF (rfl) i v s
@[simp] theorem sealR_c10_0 (v : D) (s : St) : sealR c10_0 v s = true := sealR_compF (rfl) v s
@[simp] theorem sealV_c10_0 (v : D) (s : St) : sealV c10_0 v s = some s := sealV_compF (rfl) v s
def c10_1 : E := .comp (.nm 1) .val [(.var 0)] none (.var 1)
def b10 : List S := [.ite (.or (.not (.call 2 none [(.var 0), (.cst (.int 0)), (.cst (.int 200))])) (.not (.op .all [c10_0]))) [.bad] [],
    .ite (.op .lt [(.op .ndist [c10_1]), (.op .len [(.var 0)])]) [.bad] [],
    .ret (.call 9 none [(.var 0)])]
theorem r10 : cB 40 40 (gamOf tab cst e19) e19.st = b10 := by kernel_rfl
theorem f10 (d : Nat) (ds : List D) (g : G) (h : ds.length + 0 = 1) : Fk tab cst (d + 1) 10 ds g = Iv.run (Fk tab cst d) 1000000 2 false b10 ds g := by
  rw [← r10]
  exact if_pos h
theorem sc21 : L2.FnScope e21.N e21.ps (L2.defScope e21.st) := ⟨rfl, rfl, rfl, by decide +kernel, rfl, by decide +kernel, by decide +kernel⟩
theorem bn21 {K : PySem.W.Frag} {f : Addr} {fd : FuncData} (F : L2.Fun K e21.name e21.name e21.st f fd) : L2.Binds K fd e21.ps [] := F.binds fun _ _ _ _ _ _ us hl => match us, hl with | [_], _ => rfl
def c11_0 : E := .comp (.nm 1) .val [(.var 0)] none (.call 1 none [(.var 1), (.cst (.int 0)), (.cst (.int 20))])
@[simp] theorem fr_c11_0 : E.fr c11_0 = true := (rfl)
@[simp] theorem fresh_c11_0 (v : D) : E.fresh c11_0 v = true := fresh_compF (rfl) v
@[simp] theorem store_c11_0 (i : Nat) (v : D) (s : St) : store i c11_0 v s = some (put s i (.ow v)) := store_compF (rfl) i v s
@[simp] theorem sealR_c11_0 (v : D) (s : St) : sealR c11_0 v s = true := sealR_compF (rfl) v s
@[simp] theorem sealV_c11_0 (v : D) (s : St) : sealV c11_0 v s = some s := sealV_compF (rfl) v s
def b11 : List S := [.ite (.or (.not (.call 2 none [(.var 0), (.cst (.int 0)), (.cst (.int 20))])) (.not (.op .all [c11_0]))) [.ret (.cst (.bool false))] [],
    .ret (.op .eq [(.op .sorted [(.var 0)]), (.op .lrng [(.op .len [(.var 0)])])])]
theorem r11 : cB 40 40 (gamOf tab cst e21) e21.st = b11 := by kernel_rfl
theorem f11 (d : Nat) (ds : List D) (g : G) (h : ds.length + 0 = 1) : Fk tab cst (d + 1) 11 ds g = Iv.run (Fk tab cst d) 1000000 2 false b11 ds g := by
  rw [← r11]
  exact if_pos h
theorem sc22 : L2.FnScope e22.N e22.ps (L2.defScope e22.st) := ⟨rfl, rfl, rfl, by decide +kernel, rfl, by decide +kernel, by decide +kernel⟩
theorem bn22 {K : PySem.W.Frag} {f : Addr} {fd : FuncData} (F : L2.Fun K e22.name e22.name e22.st f fd) : L2.Binds K fd e22.ps [] := F.binds fun _ _ _ _ _ _ us hl => match us, hl with | [_], _ => rfl
def b12 : List S := [.ite (.not (.call 11 none [(.var 0)])) [.bad] []]
theorem r12 : cB 40 40 (gamOf tab cst e22) e22.st = b12 := by kernel_rfl
theorem f12 (d : Nat) (ds : List D) (g : G) (h : ds.length + 0 = 1) : Fk tab cst (d + 1) 12 ds g = Iv.run (Fk tab cst d) 1000000 1 false b12 ds g := by
  rw [← r12]
  exact if_pos h
theorem sc23 : L2.FnScope e23.N e23.ps (L2.defScope e23.st) := ⟨rfl, rfl, rfl, by decide +kernel, rfl, by decide +kernel, by decide +kernel⟩
theorem bn23 {K : PySem.W.Frag} {f : Addr} {fd : FuncData} (F : L2.Fun K e23.name e23.name e23.st f fd) : L2.Binds K fd e23.ps [] := F.binds fun _ _ _ _ _ _ us hl => match us, hl with | [_], _ => rfl
def c13_0 : E := .comp (.nm 1) .val [(.var 0)] none (.call 1 none [(.var 1), (.cst (.int 0)), (.cst (.int 2))])
@[simp] theorem fr_c13_0 : E.fr c13_0 = true := (rfl)
@[simp] theorem fresh_c13_0 (v : D) : E.fresh c13_0 v = true := fresh_compF (rfl) v
@[simp] theorem store_c13_0 (i : Nat) (v : D) (s : St) : store i c13_0 v s = some (put s i (.ow v)) := store_compF (rfl) i v s
@[simp] theorem sealR_c13_0 (v : D) (s : St) : sealR c13_0 v s = true := sealR_compF (rfl) v s
@[simp] theorem sealV_c13_0 (v : D) (s : St) : sealV c13_0 v s = some s := sealV_compF (rfl) v s
def b13 : List S := [.ret (.and (.call 2 none [(.var 0), (.cst (.int 3)), (.cst (.int 3))]) (.and (.op .all [c13_0]) (.op .eq [(.op .sorted [(.var 0)]), (.op .lstD [(.cst (.int 0)), (.cst (.int 1)), (.cst (.int 2))])])))]
theorem r13 : cB 40 40 (gamOf tab cst e23) e23.st = b13 := by kernel_rfl
theorem f13 (d : Nat) (ds : List D) (g : G) (h : ds.length + 0 = 1) : Fk tab cst (d + 1) 13 ds g = Iv.run (Fk tab cst d) 1000000 2 false b13 ds g := by
  rw [← r13]
  exact if_pos h
theorem sc24 : L2.FnScope e24.N e24.ps (L2.defScope e24.st) := ⟨rfl, rfl, rfl, by decide +kernel, rfl, by decide +kernel, by decide +kernel⟩
theorem bn24 {K : PySem.W.Frag} {f : Addr} {fd : FuncData} (F : L2.Fun K e24.name e24.name e24.st f fd) : L2.Binds K fd e24.ps [] := F.binds fun _ _ _ _ _ _ us hl => match us, hl with | [_, _], _ => rfl
def w14_0 : List S := [.ite (.op .eq [(.op .lt [(.op .ix [(.var 0), (.var 2)]), (.op .ix [(.var 0), (.var 4)])]), (.op .lt [(.op .ix [(.var 1), (.cst (.int 0))]), (.op .ix [(.var 1), (.cst (.int 2))])])]) [.ite (.op .eq [(.op .lt [(.op .ix [(.var 0), (.var 3)]), (.op .ix [(.var 0), (.var 4)])]), (.op .lt [(.op .ix [(.var 1), (.cst (.int 1))]), (.op .ix [(.var 1), (.cst (.int 2))])])]) [.ret (.op .tupD [(.var 2), (.var 3), (.var 4)])] []] []]
def l14_0 : S := .for (.nm 4) .rng [(.op .add [(.var 3), (.cst (.int 1))]), (.op .len [(.var 0)])] w14_0
def w14_1 : List S := [.ite (.op .eq [(.op .lt [(.op .ix [(.var 0), (.var 2)]), (.op .ix [(.var 0), (.var 3)])]), (.op .lt [(.op .ix [(.var 1), (.cst (.int 0))]), (.op .ix [(.var 1), (.cst (.int 1))])])]) [l14_0] []]
def l14_1 : S := .for (.nm 3) .rng [(.op .add [(.var 2), (.cst (.int 1))]), (.op .len [(.var 0)])] w14_1
def w14_2 : List S := [l14_1]
def l14_2 : S := .for (.nm 2) .rng [(.op .len [(.var 0)])] w14_2
def b14 : List S := [l14_2,
    .ret (.cst .none)]
theorem r14 : cB 40 40 (gamOf tab cst e24) e24.st = b14 := by kernel_rfl
theorem f14 (d : Nat) (ds : List D) (g : G) (h : ds.length + 0 = 2) : Fk tab cst (d + 1) 14 ds g = Iv.run (Fk tab cst d) 1000000 5 false b14 ds g := by
  rw [← r14]
  exact if_pos h
theorem sc25 : L2.FnScope e25.N e25.ps (L2.defScope e25.st) := ⟨rfl, rfl, rfl, by decide +kernel, rfl, by decide +kernel, by decide +kernel⟩
theorem bn25 {K : PySem.W.Frag} {f : Addr} {fd : FuncData} (F : L2.Fun K e25.name e25.name e25.st f fd) : L2.Binds K fd e25.ps [] := F.binds fun _ _ _ _ _ _ us hl => match us, hl with | [_, _], _ => rfl
def c15_0 : E := .comp (.nm 8) .val [(.var 5)] none (.op .add [(.var 8), (.op .int [(.op .ge [(.var 8), (.var 6)])])])
def w15_0 : List S := [.asg 7 (.op .add [(.op .tuple [c15_0]), (.op .tupD [(.var 6)])]), .ite (.op .is_ [(.call 14 none [(.var 7), (.var 1)]), (.cst .none)]) [.append 4 (.var 7)] []]
def l15_0 : S := .for (.nm 6) .rng [(.op .add [(.op .len [(.var 5)]), (.cst (.int 1))])] w15_0
def w15_1 : List S := [l15_0]
def l15_1 : S := .for (.nm 5) .val [(.var 2)] w15_1
def w15_2 : List S := [.asg 4 (.op .lstD []), l15_1, .asg 2 (.var 4)]
def l15_2 : S := .for (.nm 3) .rng [(.var 0)] w15_2
def b15 : List S := [.drop (.call 3 none [(.var 0), (.cst (.int 8))]),
    .ite (.not (.call 13 none [(.var 1)])) [.bad] [],
    .asg 2 (.op .lstD [(.op .tupD [])]),
    l15_2,
    .ret (.op .sorted [(.var 2)])]
theorem r15 : cB 40 40 (gamOf tab cst e25) e25.st = b15 := by kernel_rfl
theorem f15 (d : Nat) (ds : List D) (g : G) (h : ds.length + 0 = 2) : Fk tab cst (d + 1) 15 ds g = Iv.run (Fk tab cst d) 1000000 9 false b15 ds g := by
  rw [← r15]
  exact if_pos h
theorem sc26 : L2.FnScope e26.N e26.ps (L2.defScope e26.st) := ⟨rfl, rfl, rfl, by decide +kernel, rfl, by decide +kernel, by decide +kernel⟩
theorem bn26 {K : PySem.W.Frag} {f : Addr} {fd : FuncData} (F : L2.Fun K e26.name e26.name e26.st f fd) : L2.Binds K fd e26.ps [] := F.binds fun _ _ _ _ _ _ us hl => match us, hl with | [_], _ => rfl
def w16_0 : List S := [.setI 1 (.var 3) (.var 2)]
def l16_0 : S := .for (.tp [2, 3]) .enum [(.var 0)] w16_0
def b16 : List S := [.drop (.call 12 none [(.var 0)]),
    .asg 1 (.op .mul [(.op .lstD [(.cst (.int 0))]), (.op .len [(.var 0)])]),
    l16_0,
    .ret (.op .tuple [(.var 1)])]
theorem r16 : cB 40 40 (gamOf tab cst e26) e26.st = b16 := by kernel_rfl
theorem f16 (d : Nat) (ds : List D) (g : G) (h : ds.length + 0 = 1) : Fk tab cst (d + 1) 16 ds g = Iv.run (Fk tab cst d) 1000000 4 false b16 ds g := by
  rw [← r16]
  exact if_pos h
theorem sc27 : L2.FnScope e27.N e27.ps (L2.defScope e27.st) := ⟨rfl, rfl, rfl, by decide +kernel, rfl, by decide +kernel, by decide +kernel⟩
theorem bn27 {K : PySem.W.Frag} {f : Addr} {fd : FuncData} (F : L2.Fun K e27.name e27.name e27.st f fd) : L2.Binds K fd e27.ps [] := F.binds fun _ _ _ _ _ _ us hl => match us, hl with | [_, _, _], _ => rfl
def c17_0 : E := .comp (.nm 3) .val [(.call 15 none [(.var 0), (.var 1)])] (some (.op .is_ [(.call 14 none [(.var 3), (.var 2)]), (.cst .none)])) (.var 3)
def b17 : List S := [.ite (.or (.not (.call 13 none [(.var 1)])) (.not (.call 13 none [(.var 2)]))) [.bad] [],
    .ret (.op .len [c17_0])]
theorem r17 : cB 40 40 (gamOf tab cst e27) e27.st = b17 := by kernel_rfl
theorem f17 (d : Nat) (ds : List D) (g : G) (h : ds.length + 0 = 3) : Fk tab cst (d + 1) 17 ds g = Iv.run (Fk tab cst d) 1000000 4 false b17 ds g := by
  rw [← r17]
  exact if_pos h
theorem sc29 : L2.FnScope e29.N e29.ps (L2.defScope e29.st) := ⟨rfl, rfl, rfl, by decide +kernel, rfl, by decide +kernel, by decide +kernel⟩
theorem bn29 {K : PySem.W.Frag} {f : Addr} {fd : FuncData} (F : L2.Fun K e29.name e29.name e29.st f fd) : L2.Binds K fd e29.ps [] := F.binds fun _ _ _ _ _ _ us hl => match us, hl with | [_, _, _], _ => rfl
def b18 : List S := [.ite (.or (.not (.call 1 none [(.var 0), (.cst (.int 0)), (.var 2)])) (.not (.call 1 none [(.var 1), (.cst (.int 0)), (.var 2)]))) [.bad] []]
theorem r18 : cB 40 40 (gamOf tab cst e29) e29.st = b18 := by kernel_rfl
theorem f18 (d : Nat) (ds : List D) (g : G) (h : ds.length + 0 = 3) : Fk tab cst (d + 1) 18 ds g = Iv.run (Fk tab cst d) 1000000 3 false b18 ds g := by
  rw [← r18]
  exact if_pos h
theorem sc30 : L2.FnScope e30.N e30.ps (L2.defScope e30.st) := ⟨rfl, rfl, rfl, by decide +kernel, rfl, by decide +kernel, by decide +kernel⟩
theorem bn30 {K : PySem.W.Frag} {f : Addr} {fd : FuncData} (F : L2.Fun K e30.name e30.name e30.st f fd) : L2.Binds K fd e30.ps [] := F.binds fun _ _ _ _ _ _ us hl => match us, hl with | [_, _], _ => rfl
def b19 : List S := [.drop (.call 18 none [(.var 0), (.var 1), (.cst (.int 200))]),
    .ite (.op .gt [(.var 1), (.var 0)]) [.ret (.cst (.int 0))] [],
    .ret (.op .sub [(.call 4 none [(.op .add [(.var 0), (.var 1)]), (.var 1)]), (.call 4 none [(.op .add [(.var 0), (.var 1)]), (.op .sub [(.var 1), (.cst (.int 1))])])])]
theorem r19 : cB 40 40 (gamOf tab cst e30) e30.st = b19 := by kernel_rfl
theorem f19 (d : Nat) (ds : List D) (g : G) (h : ds.length + 0 = 2) : Fk tab cst (d + 1) 19 ds g = Iv.run (Fk tab cst d) 1000000 2 false b19 ds g := by
  rw [← r19]
  exact if_pos h
theorem sc31 : L2.FnScope e31.N e31.ps (L2.defScope e31.st) := ⟨rfl, rfl, rfl, by decide +kernel, rfl, by decide +kernel, by decide +kernel⟩
theorem bn31 {K : PySem.W.Frag} {f : Addr} {fd : FuncData} (F : L2.Fun K e31.name e31.name e31.st f fd) : L2.Binds K fd e31.ps [] := F.binds fun _ _ _ _ _ _ us hl => match us, hl with | [_], _ => rfl
def c20_0 : E := .comp (.nm 8) .val [(.var 0)] none (.op .list [(.var 8)])
def c20_1 : E := .comp (.nm 4) .rng [(.var 3), (.op .len [(.var 0)])] (some (.op .ne [(.op .ix [(.op .ix [(.var 0), (.var 4)]), (.var 3)]), (.cst (.int 0))])) (.var 4)
def w20_0 : List S := [.asg 7 (.op .sub [(.op .mul [(.op .ix [(.op .ix [(.var 0), (.var 4)]), (.var 6)]), (.op .ix [(.op .ix [(.var 0), (.var 3)]), (.var 3)])]), (.op .mul [(.op .ix [(.op .ix [(.var 0), (.var 4)]), (.var 3)]), (.op .ix [(.op .ix [(.var 0), (.var 3)]), (.var 6)])])]), .setII 0 (.var 4) (.var 6) (.op .fdiv [(.var 7), (.var 2)])]
def l20_0 : S := .for (.nm 6) .rng [(.op .add [(.var 3), (.cst (.int 1))]), (.op .len [(.var 0)])] w20_0
def w20_1 : List S := [l20_0]
def l20_1 : S := .for (.nm 4) .rng [(.op .add [(.var 3), (.cst (.int 1))]), (.op .len [(.var 0)])] w20_1
def w20_2 : List S := [.asg 5 c20_1, .ite (.op .eq [(.op .len [(.var 5)]), (.cst (.int 0))]) [.ret (.cst (.int 0))] [], .ite (.op .ne [(.op .ix [(.var 5), (.cst (.int 0))]), (.var 3)]) [.bad, .asg 1 (.op .neg [(.var 1)])] [], l20_1, .asg 2 (.op .ix [(.op .ix [(.var 0), (.var 3)]), (.var 3)])]
def l20_2 : S := .for (.nm 3) .rng [(.op .sub [(.op .len [(.var 0)]), (.cst (.int 1))])] w20_2
def b20 : List S := [.par [0, 1, 2] [c20_0, (.cst (.int 1)), (.cst (.int 1))],
    l20_2,
    .ret (.ifx (.op .gt [(.op .len [(.var 0)]), (.cst (.int 0))]) (.op .mul [(.var 1), (.op .ix [(.op .ix [(.var 0), (.op .neg [(.cst (.int 1))])]), (.op .neg [(.cst (.int 1))])])]) (.cst (.int 1)))]
theorem r20 : cB 40 40 (gamOf tab cst e31) e31.st = b20 := by kernel_rfl
theorem f20 (d : Nat) (ds : List D) (g : G) (h : ds.length + 0 = 1) : Fk tab cst (d + 1) 20 ds g = Iv.run (Fk tab cst d) 1000000 9 false b20 ds g := by
  rw [← r20]
  exact if_pos h
theorem sc32 : L2.FnScope e32.N e32.ps (L2.defScope e32.st) := ⟨rfl, rfl, rfl, by decide +kernel, rfl, by decide +kernel, by decide +kernel⟩
theorem bn32 {K : PySem.W.Frag} {f : Addr} {fd : FuncData} (F : L2.Fun K e32.name e32.name e32.st f fd) : L2.Binds K fd e32.ps [] := F.binds fun _ _ _ _ _ _ us hl => match us, hl with | [_, _], _ => rfl
def c21_0 : E := .comp (.nm 3) .rng [(.var 1)] none (.call 5 none [(.op .add [(.op .add [(.var 0), (.var 2)]), (.var 3)])])
@[simp] theorem fr_c21_0 : E.fr c21_0 = true := (rfl)
@[simp] theorem fresh_c21_0 (v : D) : E.fresh c21_0 v = true := fresh_compF (rfl) v
@[simp] theorem store_c21_0 (i : Nat) (v : D) (s : St) : store i c21_0 v s = some (put s i (.ow v)) := store_compF (rfl) i v s
@[simp] theorem sealR_c21_0 (v : D) (s : St) : sealR c21_0 v s = true := sealR_compF (rfl) v s
@[simp] theorem sealV_c21_0 (v : D) (s : St) : sealV c21_0 v s = some s := sealV_compF (rfl) v s
def c21_1 : E := .comp (.nm 2) .rng [(.var 1)] none c21_0
@[simp] theorem fr_c21_1 : E.fr c21_1 = true := (rfl)
@[simp] theorem fresh_c21_1 (v : D) : E.fresh c21_1 v = true := fresh_compF (rfl) v
@[simp] theorem store_c21_1 (i : Nat) (v : D) (s : St) : store i c21_1 v s = some (put s i (.ow v)) := store_compF (rfl) i v s
@[simp] theorem sealR_c21_1 (v : D) (s : St) : sealR c21_1 v s = true := sealR_compF (rfl) v s
@[simp] theorem sealV_c21_1 (v : D) (s : St) : sealV c21_1 v s = some s := sealV_compF (rfl) v s
def b21 : List S := [.ite (.or (.not (.call 1 none [(.var 0), (.cst (.int 0)), (.cst (.int 6))])) (.not (.call 1 none [(.var 1), (.cst (.int 0)), (.cst (.int 12))]))) [.bad] [],
    .ret (.call 20 none [c21_1])]
theorem r21 : cB 40 40 (gamOf tab cst e32) e32.st = b21 := by kernel_rfl
theorem f21 (d : Nat) (ds : List D) (g : G) (h : ds.length + 0 = 2) : Fk tab cst (d + 1) 21 ds g = Iv.run (Fk tab cst d) 1000000 4 false b21 ds g := by
  rw [← r21]
  exact if_pos h
theorem sc34 : L2.FnScope e34.N e34.ps (L2.defScope e34.st) := ⟨rfl, rfl, rfl, by decide +kernel, rfl, by decide +kernel, by decide +kernel⟩
theorem bn34 {K : PySem.W.Frag} {f : Addr} {fd : FuncData} (F : L2.Fun K e34.name e34.name e34.st f fd) : L2.Binds K fd e34.ps [] := F.binds fun _ _ _ _ _ _ us hl => match us, hl with | [_], _ => rfl
def c22_0 : E := .comp (.nm 2) .val [(.op .slice [(.var 0), (.cst .none), (.op .idx [(.cst (.int 63))])])] none (.op .mod [(.op .int [(.op .abs [(.op .int [(.var 2)])])]), (.op .pow [(.cst (.int 10)), (.cst (.int 60))])])
@[simp] theorem fr_c22_0 : E.fr c22_0 = true := (rfl)
@[simp] theorem fresh_c22_0 (v : D) : E.fresh c22_0 v = true := fresh_compF (rfl) v
@[simp] theorem store_c22_0 (i : Nat) (v : D) (s : St) : store i c22_0 v s = some (put s i (.ow v)) := store_compF (rfl) i v s
@[simp] theorem sealR_c22_0 (v : D) (s : St) : sealR c22_0 v s = true := sealR_compF (rfl) v s
@[simp] theorem sealV_c22_0 (v : D) (s : St) : sealV c22_0 v s = some s := sealV_compF (rfl) v s
def b22 : List S := [.asg 1 c22_0,
    .ret (.op .lstD [(.var 1), (.cst (.int 0)), (.cst (.int 0)), (.op .add [(.cst (.int 188719)), (.op .mul [(.cst (.int 7)), (.op .len [(.var 1)])])]), (.cst (.int 0))])]
theorem r22 : cB 40 40 (gamOf tab cst e34) e34.st = b22 := by kernel_rfl
theorem f22 (d : Nat) (ds : List D) (g : G) (h : ds.length + 0 = 1) : Fk tab cst (d + 1) 22 ds g = Iv.run (Fk tab cst d) 1000000 3 false b22 ds g := by
  rw [← r22]
  exact if_pos h
theorem sc35 : L2.FnScope e35.N e35.ps (L2.defScope e35.st) := ⟨rfl, rfl, rfl, by decide +kernel, rfl, by decide +kernel, by decide +kernel⟩
theorem bn35 {K : PySem.W.Frag} {f : Addr} {fd : FuncData} (F : L2.Fun K e35.name e35.name e35.st f fd) : L2.Binds K fd e35.ps [] := F.binds fun _ _ _ _ _ _ us hl => match us, hl with | [_, _], _ => rfl
def b23 : List S := [.ite (.and (.op .eq [(.hix 0 (.cst (.int 2))), (.cst (.int 0))]) (.op .lt [(.hix 0 (.cst (.int 1))), (.op .len [(.hix 0 (.cst (.int 0)))])])) [.asg 2 (.op .ix [(.hix 0 (.cst (.int 0))), (.hix 0 (.cst (.int 1)))]), .setH 0 (.cst (.int 1)) (.op .add [(.hix 0 (.cst (.int 1))), (.cst (.int 1))]), .setH 0 (.cst (.int 3)) (.op .mod [(.op .int [(.op .add [(.op .add [(.op .mul [(.hix 0 (.cst (.int 3))), (.cst (.int 69621))]), (.op .mul [(.var 2), (.cst (.int 40692))])]), (.cst (.int 1307))])]), (.cst (.int 2147483629))]), .ite (.op .ge [(.var 2), (.op .pow [(.cst (.int 10)), (.cst (.int 18))])]) [.setH 0 (.cst (.int 2)) (.var 2)] []] [],
    .ite (.op .gt [(.hix 0 (.cst (.int 2))), (.cst (.int 0))]) [.asg 3 (.op .mod [(.op .int [(.hix 0 (.cst (.int 2)))]), (.var 1)]), .setH 0 (.cst (.int 2)) (.op .fdiv [(.hix 0 (.cst (.int 2))), (.var 1)]), .ret (.var 3)] [],
    .setH 0 (.cst (.int 4)) (.op .add [(.hix 0 (.cst (.int 4))), (.cst (.int 1))]),
    .asg 4 (.op .mod [(.op .int [(.op .mul [(.op .int [(.op .add [(.hix 0 (.cst (.int 3))), (.op .mul [(.cst (.int 7919)), (.hix 0 (.cst (.int 4)))])])]), (.cst (.int 48271))])]), (.cst (.int 2147483647))]),
    .asg 4 (.op .mod [(.op .int [(.op .mul [(.var 4), (.op .add [(.op .fdiv [(.var 4), (.cst (.int 1009))]), (.cst (.int 69621))])])]), (.cst (.int 2147483647))]),
    .asg 4 (.op .mod [(.op .int [(.op .mul [(.var 4), (.op .add [(.op .fdiv [(.var 4), (.cst (.int 2003))]), (.cst (.int 40014))])])]), (.cst (.int 2147483563))]),
    .ret (.op .mod [(.op .int [(.op .fdiv [(.var 4), (.cst (.int 16))])]), (.var 1)])]
theorem r23 : cB 40 40 (gamOf tab cst e35) e35.st = b23 := by kernel_rfl
theorem f23 (d : Nat) (ds : List D) (g : G) (h : ds.length + 1 = 2) : Fk tab cst (d + 1) 23 ds g = Iv.run (Fk tab cst d) 1000000 5 true b23 ds g := by
  rw [← r23]
  exact if_pos h
theorem sc39 : L2.FnScope e39.N e39.ps (L2.defScope e39.st) := ⟨rfl, rfl, rfl, by decide +kernel, rfl, by decide +kernel, by decide +kernel⟩
theorem bn39 {K : PySem.W.Frag} {f : Addr} {fd : FuncData} (F : L2.Fun K e39.name e39.name e39.st f fd) : L2.Binds K fd e39.ps [] := F.binds fun _ _ _ _ _ _ us hl => match us, hl with | [_, _], _ => rfl
def w27_0 : List S := [.asg 2 (.op .fdiv [(.op .mul [(.var 2), (.op .sub [(.var 0), (.var 3)])]), (.op .add [(.var 3), (.cst (.int 1))])])]
def l27_0 : S := .for (.nm 3) .rng [(.var 1)] w27_0
def b27 : List S := [.ite (.or (.op .lt [(.var 1), (.cst (.int 0))]) (.op .gt [(.var 1), (.var 0)])) [.ret (.cst (.int 0))] [],
    .asg 2 (.cst (.int 1)),
    l27_0,
    .ret (.var 2)]
theorem r27 : cB 40 40 (gamOf tab cst e39) e39.st = b27 := by kernel_rfl
theorem f27 (d : Nat) (ds : List D) (g : G) (h : ds.length + 0 = 2) : Fk tab cst (d + 1) 27 ds g = Iv.run (Fk tab cst d) 1000000 4 false b27 ds g := by
  rw [← r27]
  exact if_pos h
theorem sc42 : L2.FnScope e42.N e42.ps (L2.defScope e42.st) := ⟨rfl, rfl, rfl, by decide +kernel, rfl, by decide +kernel, by decide +kernel⟩
theorem bn42 {K : PySem.W.Frag} {f : Addr} {fd : FuncData} (F : L2.Fun K e42.name e42.name e42.st f fd) : L2.Binds K fd e42.ps [] := F.binds fun _ _ _ _ _ _ us hl => match us, hl with | [_, _], _ => rfl
def b30 : List S := [.ret (.op .sub [(.call 27 none [(.op .add [(.var 0), (.var 1)]), (.var 1)]), (.call 27 none [(.op .add [(.var 0), (.var 1)]), (.op .sub [(.var 1), (.cst (.int 1))])])])]
theorem r30 : cB 40 40 (gamOf tab cst e42) e42.st = b30 := by kernel_rfl
theorem f30 (d : Nat) (ds : List D) (g : G) (h : ds.length + 0 = 2) : Fk tab cst (d + 1) 30 ds g = Iv.run (Fk tab cst d) 1000000 2 false b30 ds g := by
  rw [← r30]
  exact if_pos h
theorem sc43 : L2.FnScope e43.N e43.ps (L2.defScope e43.st) := ⟨rfl, rfl, rfl, by decide +kernel, rfl, by decide +kernel, by decide +kernel⟩
theorem bn43 {K : PySem.W.Frag} {f : Addr} {fd : FuncData} (F : L2.Fun K e43.name e43.name e43.st f fd) : L2.Binds K fd e43.ps [] := F.binds fun _ _ _ _ _ _ us hl => match us, hl with | [_], _ => rfl
def c31_0 : E := .comp (.nm 2) .rng [(.op .add [(.op .fdiv [(.var 1), (.cst (.int 2))]), (.cst (.int 1))])] none (.call 30 none [(.op .sub [(.var 1), (.var 2)]), (.var 2)])
@[simp] theorem fr_c31_0 : E.fr c31_0 = true := (rfl)
@[simp] theorem fresh_c31_0 (v : D) : E.fresh c31_0 v = true := fresh_compF (rfl) v
@[simp] theorem store_c31_0 (i : Nat) (v : D) (s : St) : store i c31_0 v s = some (put s i (.ow v)) := store_compF (rfl) i v s
@[simp] theorem sealR_c31_0 (v : D) (s : St) : sealR c31_0 v s = true := sealR_compF (rfl) v s
@[simp] theorem sealV_c31_0 (v : D) (s : St) : sealV c31_0 v s = some s := sealV_compF (rfl) v s
def c31_1 : E := .comp (.nm 2) .rng [(.op .add [(.op .fdiv [(.var 1), (.cst (.int 2))]), (.cst (.int 1))])] none (.call 8 none [(.op .sub [(.var 1), (.var 2)]), (.var 2)])
@[simp] theorem fr_c31_1 : E.fr c31_1 = true := (rfl)
@[simp] theorem fresh_c31_1 (v : D) : E.fresh c31_1 v = true := fresh_compF (rfl) v
@[simp] theorem store_c31_1 (i : Nat) (v : D) (s : St) : store i c31_1 v s = some (put s i (.ow v)) := store_compF (rfl) i v s
@[simp] theorem sealR_c31_1 (v : D) (s : St) : sealR c31_1 v s = true := sealR_compF (rfl) v s
@[simp] theorem sealV_c31_1 (v : D) (s : St) : sealV c31_1 v s = some s := sealV_compF (rfl) v s
def c31_2 : E := .comp (.nm 5) .val [(.var 3)] none (.op .mul [(.var 5), (.var 5)])
def b31 : List S := [.asg 1 (.call 23 (some 0) [(.cst (.int 201))]),
    .asg 3 c31_0,
    .ite (.op .ne [c31_1, (.var 3)]) [.ret (.cst (.bool false))] [],
    .ite (.or (.op .ne [(.op .sum [c31_2]), (.call 6 none [(.var 1)])]) (.op .ne [(.op .sum [(.var 3)]), (.call 27 none [(.var 1), (.op .fdiv [(.var 1), (.cst (.int 2))])])])) [.ret (.cst (.bool false))] [],
    .asg 2 (.call 23 (some 0) [(.op .add [(.op .fdiv [(.var 1), (.cst (.int 2))]), (.cst (.int 1))])]),
    .ite (.op .ne [(.call 19 none [(.op .sub [(.var 1), (.var 2)]), (.var 2)]), (.op .ix [(.var 3), (.var 2)])]) [.ret (.cst (.bool false))] [],
    .asg 4 (.call 23 (some 0) [(.cst (.int 101))]),
    .ret (.and (.op .eq [(.call 8 none [(.var 4), (.var 4)]), (.call 7 none [(.var 4)])]) (.op .eq [(.call 7 none [(.var 4)]), (.call 6 none [(.var 4)])]))]
theorem r31 : cB 40 40 (gamOf tab cst e43) e43.st = b31 := by kernel_rfl
theorem f31 (d : Nat) (ds : List D) (g : G) (h : ds.length + 1 = 1) : Fk tab cst (d + 1) 31 ds g = Iv.run (Fk tab cst d) 1000000 6 true b31 ds g := by
  rw [← r31]
  exact if_pos h
theorem sc44 : L2.FnScope e44.N e44.ps (L2.defScope e44.st) := ⟨rfl, rfl, rfl, by decide +kernel, rfl, by decide +kernel, by decide +kernel⟩
theorem bn44 {K : PySem.W.Frag} {f : Addr} {fd : FuncData} (F : L2.Fun K e44.name e44.name e44.st f fd) : L2.Binds K fd e44.ps [] := F.binds fun _ _ _ _ _ _ us hl => match us, hl with | [_], _ => rfl
def w32_0 : List S := [.asg 5 (.call 10 none [(.var 4)]), .setI 1 (.var 5) (.op .add [(.op .ix [(.var 1), (.var 5)]), (.cst (.int 1))]), .setI 2 (.var 5) (.op .add [(.op .ix [(.var 2), (.var 5)]), (.op .int [(.op .eq [(.op .tuple [(.call 16 none [(.var 4)])]), (.op .tuple [(.var 4)])])])])]
def l32_0 : S := .for (.nm 4) .val [(.var 3)] w32_0
def w32_1 : List S := [.asg 6 (.ifx (.op .ge [(.op .mul [(.cst (.int 2)), (.var 5)]), (.var 0)]) (.call 30 none [(.var 5), (.op .sub [(.var 0), (.var 5)])]) (.cst (.int 0))), .ite (.or (.op .ne [(.op .ix [(.var 1), (.var 5)]), (.op .mul [(.var 6), (.var 6)])]) (.op .ne [(.op .ix [(.var 2), (.var 5)]), (.var 6)])) [.ret (.cst (.bool false))] []]
def l32_1 : S := .for (.nm 5) .rng [(.op .add [(.var 0), (.cst (.int 1))])] w32_1
def c32_0 : E := .comp (.nm 4) .val [(.var 3)] (some (.op .lt [(.call 10 none [(.var 4)]), (.cst (.int 3))])) (.cst (.int 1))
@[simp] theorem fr_c32_0 : E.fr c32_0 = true := (rfl)
@[simp] theorem fresh_c32_0 (v : D) : E.fresh c32_0 v = true := fresh_compF (rfl) v
@[simp] theorem store_c32_0 (i : Nat) (v : D) (s : St) : store i c32_0 v s = some (put s i (.ow v)) := store_compF (rfl) i v s
@[simp] theorem sealR_c32_0 (v : D) (s : St) : sealR c32_0 v s = true := sealR_compF (rfl) v s
@[simp] theorem sealV_c32_0 (v : D) (s : St) : sealV c32_0 v s = some s := sealV_compF (rfl) v s
def b32 : List S := [.par [1, 2] [(.op .mul [(.op .lstD [(.cst (.int 0))]), (.op .add [(.var 0), (.cst (.int 1))])]), (.op .mul [(.op .lstD [(.cst (.int 0))]), (.op .add [(.var 0), (.cst (.int 1))])])],
    .asg 3 (.call 15 none [(.var 0), (.op .tupD [(.cst (.int 2)), (.cst (.int 1)), (.cst (.int 0))])]),
    l32_0,
    l32_1,
    .asg 7 (.op .len [c32_0]),
    .ret (.and (.op .eq [(.op .len [(.var 3)]), (.call 6 none [(.var 0)])]) (.op .eq [(.var 7), (.call 17 none [(.var 0), (.op .tupD [(.cst (.int 0)), (.cst (.int 1)), (.cst (.int 2))]), (.op .tupD [(.cst (.int 2)), (.cst (.int 1)), (.cst (.int 0))])])]))]
theorem r32 : cB 40 40 (gamOf tab cst e44) e44.st = b32 := by kernel_rfl
theorem f32 (d : Nat) (ds : List D) (g : G) (h : ds.length + 0 = 1) : Fk tab cst (d + 1) 32 ds g = Iv.run (Fk tab cst d) 1000000 8 false b32 ds g := by
  rw [← r32]
  exact if_pos h
theorem sc45 : L2.FnScope e45.N e45.ps (L2.defScope e45.st) := ⟨rfl, rfl, rfl, by decide +kernel, rfl, by decide +kernel, by decide +kernel⟩
theorem bn45 {K : PySem.W.Frag} {f : Addr} {fd : FuncData} (F : L2.Fun K e45.name e45.name e45.st f fd) : L2.Binds K fd e45.ps [] := F.binds fun _ _ _ _ _ _ us hl => match us, hl with | [_], _ => rfl
def w33_0 : List S := [.par [4, 5] [(.op .mul [(.var 4), (.op .add [(.op .add [(.var 6), (.var 7)]), (.op .mul [(.cst (.int 2)), (.var 3)])])]), (.op .mul [(.var 5), (.op .add [(.var 6), (.var 7)])])]]
def l33_0 : S := .for (.nm 7) .rng [(.var 6), (.var 2)] w33_0
def w33_1 : List S := [l33_0]
def l33_1 : S := .for (.nm 6) .rng [(.cst (.int 1)), (.var 2)] w33_1
def bLaw : List S := [.ite (.or (.not (.call 31 (some 1) [])) (.not (.call 32 none [(.op .add [(.cst (.int 1)), (.call 23 (some 1) [(.cst (.int 7))])])]))) [.ret (.cst (.bool false))] [],
    .par [2, 3] [(.call 23 (some 1) [(.cst (.int 7))]), (.op .add [(.cst (.int 1)), (.call 23 (some 1) [(.cst (.int 12))])])],
    .par [4, 5] [(.cst (.int 1)), (.cst (.int 1))],
    l33_1,
    .ret (.op .eq [(.op .mul [(.call 21 none [(.var 2), (.var 3)]), (.var 5)]), (.var 4)])]
theorem rLaw : ((L2.defBody e45.st).tail.map (cS 40 40 (gamOf tab cst e45))) = bLaw := by kernel_rfl
theorem scs : ∀ e ∈ tab, L2.FnScope e.N e.ps (L2.defScope e.st) := by
  simp only [tab, List.mem_cons, List.not_mem_nil, or_false]
  rintro e (rfl | rfl | rfl | rfl | rfl | rfl | rfl | rfl | rfl | rfl | rfl | rfl | rfl | rfl | rfl | rfl | rfl | rfl | rfl | rfl | rfl | rfl | rfl | rfl | rfl | rfl | rfl | rfl | rfl | rfl | rfl | rfl | rfl | rfl)
  · exact sc1
  · exact sc2
  · exact sc3
  · exact sc11
  · exact sc12
  · exact sc13
  · exact sc14
  · exact sc16
  · exact sc17
  · exact sc18
  · exact sc19
  · exact sc21
  · exact sc22
  · exact sc23
  · exact sc24
  · exact sc25
  · exact sc26
  · exact sc27
  · exact sc29
  · exact sc30
  · exact sc31
  · exact sc32
  · exact sc34
  · exact sc35
  · exact sc1
  · exact sc1
  · exact sc1
  · exact sc39
  · exact sc1
  · exact sc1
  · exact sc42
  · exact sc43
  · exact sc44
  · exact sc45
end K19
set_option Elab.async false
set_option linter.all false
/-! K19Num: the numbers of k19's squares (own work). -/
namespace K19
open Iv
def Cp (n : Nat) : Nat → Nat
  | 0 => 0
  | k + 1 => Cf n k
def ow (n l : Nat) : Nat := Cf n l - Cp n l
theorem Cp_le {n l : Nat} (h : 2 * l ≤ n) : Cp n l ≤ Cf n l := by
  cases l with
  | zero => exact Nat.zero_le _
  | succ k =>
    show Cf n k ≤ Cf n (k + 1)
    have e := C_mul n k
    rw [← Cf_eq, ← Cf_eq] at e
    have : Cf n k * (k + 1) ≤ Cf n (k + 1) * (k + 1) := by
      rw [e]; exact Nat.mul_le_mul_left _ (by omega)
    exact Nat.le_of_mul_le_mul_right this (Nat.succ_pos k)
theorem bent_eq {n l : Nat} (h : 2 * l ≤ n) : Cf n l * (n - 2 * l + 1) / (n - l + 1) = ow n l := by
  unfold ow
  cases l with
  | zero => show Cf n 0 * (n - 0 + 1) / (n + 1) = 1 - 0; show 1 * (n + 1) / (n + 1) = 1; rw [Nat.one_mul, Nat.div_self (Nat.succ_pos n)]
  | succ k =>
    have hle := Cp_le h
    have e := C_mul n k
    rw [← Cf_eq, ← Cf_eq] at e
    show Cf n (k + 1) * (n - 2 * (k + 1) + 1) / (n - (k + 1) + 1) = Cf n (k + 1) - Cf n k
    replace hle : Cf n k ≤ Cf n (k + 1) := hle
    obtain ⟨m, rfl⟩ : ∃ m, n = 2 * (k + 1) + m := ⟨n - 2 * (k + 1), by omega⟩
    generalize Cf (2 * (k + 1) + m) (k + 1) = a at *
    generalize Cf (2 * (k + 1) + m) k = b at *
    obtain ⟨c, rfl⟩ : ∃ c, a = b + c := ⟨a - b, by omega⟩
    rw [show 2 * (k + 1) + m - k = k + 2 + m by omega] at e
    rw [show 2 * (k + 1) + m - 2 * (k + 1) + 1 = m + 1 by omega, show 2 * (k + 1) + m - (k + 1) + 1 = k + 2 + m by omega, Nat.add_sub_cancel_left]
    have e2 : (b + c) * (m + 1) = c * (k + 2 + m) := by
      rw [Nat.add_mul] at e
      have h1 : b * (k + 2 + m) = b * (k + 1) + b * (m + 1) := by rw [← Nat.mul_add]; congr 1; omega
      have h2 : c * (k + 2 + m) = c * (k + 1) + c * (m + 1) := by rw [← Nat.mul_add]; congr 1; omega
      rw [Nat.add_mul, h2]
      omega
    rw [e2, Nat.mul_div_cancel _ (by omega)]
theorem sum_ow (n : Nat) : ∀ m, 2 * m ≤ n → sm (ow n) (m + 1) = Cf n m
  | 0, _ => by show 0 + (Cf n 0 - 0) = Cf n 0; omega
  | m + 1, h => by
    show sm (ow n) (m + 1) + ow n (m + 1) = _
    rw [sum_ow n m (by omega)]
    have := Cp_le h
    unfold ow
    show Cf n m + (Cf n (m + 1) - Cf n m) = _
    replace this : Cf n m ≤ Cf n (m + 1) := this
    omega
def hk (n : Nat) : Nat → Nat
  | 0 => 1
  | i + 1 => hk n i * (n - i) * (n - i + 1)
theorem hk_le {n : Nat} (h : n ≤ 100) : ∀ i, hk n i ≤ 2 ^ (14 * i)
  | 0 => Nat.le_refl 1
  | i + 1 => by
    show hk n i * (n - i) * (n - i + 1) ≤ _
    rw [show 14 * (i + 1) = 14 * i + 7 + 7 by omega, Nat.pow_add, Nat.pow_add]
    exact Nat.mul_le_mul (Nat.mul_le_mul (hk_le h i) (by omega)) (by omega)
set_option maxHeartbeats 0
theorem nHk : ∀ n, n < 101 → fac (2 * n) / hk n n = ct n ∧ 0 < hk n n := by decide +kernel
theorem nSq : ∀ n, n < 201 → sm (fun l => ow n l * ow n l) (n / 2 + 1) = ct n := by decide +kernel
end K19
set_option Elab.async false
set_option linter.all false
set_option maxRecDepth 100000
/-! K19R1: runs of k19's defs: the squares. -/
namespace K19
open PySem Iv
theorem F0 (d : Nat) (i : Int) (g : G) : Fk tab cst (d + 1) 0 [.int i] g = some (.bool true, g) := by
  rw [f0 d _ g rfl]; exact isInt_run _ _ i g
theorem F1 (d : Nat) (i a b : Int) (g : G) : Fk tab cst (d + 2) 1 [.int i, .int a, .int b] g = some (.bool (decide (a ≤ i ∧ i ≤ b)), g) := by
  rw [f1 (d + 1) _ g rfl]; exact within_run (F0 d i g)
theorem F1t (d : Nat) {i a b : Int} (g : G) (h : a ≤ i ∧ i ≤ b) : Fk tab cst (d + 2) 1 [.int i, .int a, .int b] g = some (.bool true, g) := by
  rw [F1]; simp [h]
theorem b2_run {F : Fns} {n : Nat} {g : G} {xs : List D} {a b : Int} (h : a ≤ (xs.length : Int) ∧ (xs.length : Int) ≤ b) : Iv.run F n 3 false b2 [.tuple xs, .int a, .int b] g = some (.bool true, g) := by
  simp [Iv.run, b2, h]
theorem F2 (d : Nat) {xs : List D} {a b : Int} (g : G) (h : a ≤ (xs.length : Int) ∧ (xs.length : Int) ≤ b) : Fk tab cst (d + 1) 2 [.tuple xs, .int a, .int b] g = some (.bool true, g) := by
  rw [f2 d _ g rfl]; exact b2_run h
theorem F3 (d : Nat) {i b : Int} (g : G) (h : 0 ≤ i ∧ i ≤ b) : Fk tab cst (d + 3) 3 [.int i, .int b] g = some (.none, g) := by
  rw [f3 (d + 2) _ g rfl]; exact check_run (F1t d g h)
theorem F4 (d a b : Nat) (g : G) (ha : a ≤ 100000) (hb : b ≤ 800) : Fk tab cst (d + 1) 4 [.int a, .int b] g = some (.int (Cf a b : Nat), g) := by
  rw [f4 d _ g rfl]; exact choose_run _ _ a b g ha hb
theorem choose_neg {F : Fns} {n : Nat} {g : G} {a b : Int} (c2 : b < 0) : Iv.run F n 5 false chooseB [.int a, .int b] g = some (.int 0, g) := by
  simp [Iv.run, chooseB, c2]
theorem lawChoose_neg {F : Fns} {n : Nat} {g : G} {a b : Int} (c2 : b < 0) : Iv.run F n 4 false lawChooseB [.int a, .int b] g = some (.int 0, g) := by
  simp [Iv.run, lawChooseB, c2]
theorem F4n (d : Nat) (a : Int) (g : G) : Fk tab cst (d + 1) 4 [.int a, .int (-1)] g = some (.int 0, g) := by
  rw [f4 d _ g rfl]; exact choose_neg (by decide)
theorem two_cast (n : Nat) : (2 * (n : Int)) = ((2 * n : Nat) : Int) := by omega
theorem b5_run {F : Fns} {n : Nat} {g : G} {a u w : Int} (h : F 4 [.int (2 * a), .int a] g = some (.int u, g)) (e : u / (a + 1) = w) (dv : divOk (a + 1) = true) : Iv.run F n 1 false b5 [.int a] g = some (.int w, g) := by
  simp [Iv.run, b5, h, dv, e]
theorem ct_cast (n : Nat) : ((Cf (2 * n) n : Nat) : Int) / ((n : Int) + 1) = ((ct n : Nat) : Int) := by
  unfold ct; rw [Int.natCast_ediv]; rfl
theorem F5 (d n : Nat) (g : G) (h : n ≤ 700) : Fk tab cst (d + 2) 5 [.int n] g = some (.int (ct n : Nat), g) := by
  rw [f5 (d + 1) _ g rfl]
  exact b5_run (u := (Cf (2 * n) n : Nat)) (by rw [two_cast]; exact F4 d (2 * n) n g (by omega) (by omega)) (ct_cast n) (divOk_s (by omega) (by omega))
theorem b6_run {F : Fns} {n : Nat} {g : G} {a u : Int} (h : F 3 [.int a, .int 300] g = some (.none, g)) (h2 : F 5 [.int a] g = some (.int u, g)) : Iv.run F n 1 false b6 [.int a] g = some (.int u, g) := by
  simp [Iv.run, b6, h, h2]
theorem F6 (d n : Nat) (g : G) (h : n ≤ 300) : Fk tab cst (d + 4) 6 [.int n] g = some (.int (ct n : Nat), g) := by
  rw [f6 (d + 3) _ g rfl]; exact b6_run (F3 d g (by omega)) (F5 (d + 1) n g (by omega))
/-! ### by hooks -/
theorem w7a_turn {F : Fns} {n : Nat} {g : G} {i u u2 : Int} {s0 y1 y2 y3 y4 : Sl} (h1 : rdS (some y1) = some (.int u)) (e1 : u * i = u2) (m1 : mulOk u i = true) :
    (bindTg (.nm 3) (.int i) ([s0, y1, y2, y3, y4], g)).bind (fun s1 => exs F n w7_0 s1) = some (.nx, ([s0, .sh (.int u2), y2, .sh (.int i), y4], g)) := by
  simp [w7_0, h1, m1, e1]
theorem w7a_loop (F : Fns) (n : Nat) (g : G) {s0 y2 y4 : Sl} : ∀ (m i : Nat) (y1 y3 : Sl), i + m ≤ 100000 → rdS (some y1) = some (.int (fac (i + 1) : Nat)) →
    ∃ y1' y3', loopL (fun v s => (bindTg (.nm 3) v s).bind fun s1 => exs F n w7_0 s1) (rangeS ((i + 2 : Nat) : Int) m) ([s0, y1, y2, y3, y4], g) = some (.nx, ([s0, y1', y2, y3', y4], g)) ∧ rdS (some y1') = some (.int (fac (i + 1 + m) : Nat))
  | 0, i, y1, y3, e, h1 => ⟨y1, y3, rfl, h1⟩
  | m + 1, i, y1, y3, e, h1 => by
    have e1 : ((fac (i + 1) : Nat) : Int) * ((i + 2 : Nat) : Int) = (fac (i + 2) : Nat) := by
      show _ = ((fac (i + 1) * (i + 2) : Nat) : Int)
      rw [Int.natCast_mul]
    obtain ⟨y1', y3', e3, e4⟩ := w7a_loop F n g (s0 := s0) (y2 := y2) (y4 := y4) m (i + 1) (.sh (.int (fac (i + 2) : Nat))) (.sh (.int ((i + 2 : Nat) : Int))) (by omega) rfl
    refine ⟨y1', y3', ?_, by rw [e4, show i + 1 + (m + 1) = i + 1 + 1 + m by omega]⟩
    rw [rangeS_succ, loopL_nx (w7a_turn h1 e1 (mulOk_r (by omega) (by omega)))]
    exact e3
theorem w7b_turn {F : Fns} {n : Nat} {g : G} {a i u u1 u2 : Int} {y1 y2 y3 y4 : Sl} (h2 : rdS (some y2) = some (.int u)) (e1 : u * (a - i) = u1) (e2 : u1 * (a - i + 1) = u2) (m1 : mulOk u (a - i) = true) (m2 : mulOk u1 (a - i + 1) = true) :
    (bindTg (.nm 4) (.int i) ([.sh (.int a), y1, y2, y3, y4], g)).bind (fun s1 => exs F n w7_1 s1) = some (.nx, ([.sh (.int a), y1, .sh (.int u2), y3, .sh (.int i)], g)) := by
  simp [w7_1, h2, m1, m2, e1, e2]
theorem w7b_loop (F : Fns) (n : Nat) (g : G) (a : Nat) (ha : a ≤ 100000) {y1 y3 : Sl} : ∀ (m i : Nat) (y2 y4 : Sl), i + m = a → rdS (some y2) = some (.int (hk a i : Nat)) →
    ∃ y2' y4', loopL (fun v s => (bindTg (.nm 4) v s).bind fun s1 => exs F n w7_1 s1) (rangeS (i : Int) m) ([.sh (.int a), y1, y2, y3, y4], g) = some (.nx, ([.sh (.int a), y1, y2', y3, y4'], g)) ∧ rdS (some y2') = some (.int (hk a a : Nat))
  | 0, i, y2, y4, e, h2 => by
    have : i = a := by omega
    subst this
    exact ⟨y2, y4, rfl, h2⟩
  | m + 1, i, y2, y4, e, h2 => by
    have e1 : ((hk a i : Nat) : Int) * ((a : Int) - i) = ((hk a i * (a - i) : Nat) : Int) := by rw [Int.natCast_mul, Int.natCast_sub (by omega)]
    have e2 : ((hk a i * (a - i) : Nat) : Int) * ((a : Int) - i + 1) = (hk a (i + 1) : Nat) := by
      show _ = ((hk a i * (a - i) * (a - i + 1) : Nat) : Int)
      rw [Int.natCast_mul _ (a - i + 1), show ((a - i + 1 : Nat) : Int) = (a : Int) - i + 1 by omega]
    obtain ⟨y2', y4', e3, e4⟩ := w7b_loop F n g a ha (y1 := y1) (y3 := y3) m (i + 1) (.sh (.int (hk a (i + 1) : Nat))) (.sh (.int (i : Int))) (by omega) rfl
    refine ⟨y2', y4', ?_, e4⟩
    rw [rangeS_succ, loopL_nx (w7b_turn h2 e1 e2 (mulOk_r (by omega) (by omega)) (mulOk_r (by omega) (by omega)))]
    exact e3
theorem b7_run {F : Fns} {n : Nat} {g : G} {a u v w : Int} {y1 y2 y3 y4 : Sl} (h : F 3 [.int a, .int 100] g = some (.none, g)) (h1 : rdS (some y1) = some (.int u)) (h2 : rdS (some y2) = some (.int v)) (dv : divOk v = true) (e : u / v = w)
    (e1 : ex F n l7_0 ([.sh (.int a), .ow (.int 1), .ow (.int 1), .no, .no], g) = some (.nx, ([.sh (.int a), y1, .ow (.int 1), y3, .no], g)))
    (e2 : ex F n l7_1 ([.sh (.int a), y1, .ow (.int 1), y3, .no], g) = some (.nx, ([.sh (.int a), y1, y2, y3, y4], g))) : Iv.run F n 5 false b7 [.int a] g = some (.int w, g) := by
  simp [Iv.run, b7, h, e1, e2, h1, h2, dv, e]
theorem F7 (d n : Nat) (g : G) (h : n ≤ 100) : Fk tab cst (d + 4) 7 [.int n] g = some (.int (ct n : Nat), g) := by
  obtain ⟨q1, q2⟩ := nHk n (by omega)
  rw [f7 (d + 3) _ g rfl]
  obtain ⟨y1, y3, e1, e2⟩ := w7a_loop (Fk tab cst (d + 3)) 1000000 g (s0 := .sh (.int n)) (y2 := .ow (.int 1)) (y4 := .no) (2 * n - 1) 0 (.ow (.int 1)) .no (by omega) rfl
  obtain ⟨y2, y4, e3, e4⟩ := w7b_loop (Fk tab cst (d + 3)) 1000000 g n (by omega) (y1 := y1) (y3 := y3) n 0 (.ow (.int 1)) .no (by omega) rfl
  refine b7_run (u := (fac (2 * n) : Nat)) (v := (hk n n : Nat)) (F3 d g (by omega)) ?_ e4 ?_ (by rw [← q1, Int.natCast_ediv]) ?_ ?_ (y1 := y1) (y3 := y3) (y4 := y4)
  · rw [e2]
    by_cases z : n = 0
    · subst z; rfl
    · congr 3; congr 1; omega
  · have := log_le (hk_le h n)
    unfold divOk
    simp
    omega
  · unfold l7_0
    rw [ex_for (ds := [.int 2, .int (2 * (n : Int) + 1)]) (vs := rangeS 2 (2 * n - 1)) (s1 := ([.sh (.int n), .ow (.int 1), .ow (.int 1), .no, .no], g)) (by simp) (by
      rw [it_rng2, small62_s (by omega) (by omega), small62_s (by omega) (by omega)]
      show some (rangeS 2 (2 * (n : Int) + 1 - 2).toNat) = _
      rw [show (2 * (n : Int) + 1 - 2).toNat = 2 * n - 1 by omega])]
    exact e1
  · unfold l7_1
    rw [ex_for (ds := [.int n]) (vs := rangeS 0 n) (s1 := ([.sh (.int n), y1, .ow (.int 1), y3, .no], g)) (by simp) (by rw [it_rng, small62_s (by omega) (by omega)]; rfl)]
    exact e3
/-! ### bent, ahead -/
theorem b8_run {F : Fns} {n : Nat} {g : G} {a b u w : Int} (h1 : F 1 [.int a, .int 0, .int 200] g = some (.bool true, g)) (h2 : F 1 [.int b, .int 0, .int 200] g = some (.bool true, g)) (c : ¬ a < b) (h3 : F 4 [.int (a + b), .int b] g = some (.int u, g)) (m : mulOk u (a - b + 1) = true) (dv : divOk (a + 1) = true) (e : u * (a - b + 1) / (a + 1) = w) :
    Iv.run F n 2 false b8 [.int a, .int b] g = some (.int w, g) := by
  simp [Iv.run, b8, h1, h2, h3, c, m, dv, e]
theorem F8 (d n l : Nat) (g : G) (hn : n ≤ 200) (hl : 2 * l ≤ n) : Fk tab cst (d + 3) 8 [.int ((n : Int) - l), .int l] g = some (.int (ow n l : Nat), g) := by
  rw [f8 (d + 2) _ g rfl]
  refine b8_run (u := (Cf n l : Nat)) (F1t d g (by omega)) (F1t d g (by omega)) (by omega) ?_ (mulOk_r (by omega) (by omega)) (divOk_s (by omega) (by omega)) ?_
  · rw [show (n : Int) - l + l = n by omega]; exact F4 (d + 1) n l g (by omega) (by omega)
  · rw [← bent_eq hl, Int.natCast_ediv, Int.natCast_mul, show (n : Int) - l - l + 1 = ((n - 2 * l + 1 : Nat) : Int) by omega, show (n : Int) - l + 1 = ((n - l + 1 : Nat) : Int) by omega]
theorem F27 (d a b : Nat) (g : G) (ha : a ≤ 100000) (hb : b ≤ 100000) : Fk tab cst (d + 1) 27 [.int a, .int b] g = some (.int (Cf a b : Nat), g) := by
  rw [f27 d _ g rfl]; exact lawChoose_run _ _ a b g ha hb
theorem F27n (d : Nat) (a : Int) (g : G) : Fk tab cst (d + 1) 27 [.int a, .int (-1)] g = some (.int 0, g) := by
  rw [f27 d _ g rfl]; exact lawChoose_neg (by decide)
theorem b30_run {F : Fns} {n : Nat} {g : G} {a b u v w : Int} (h1 : F 27 [.int (a + b), .int b] g = some (.int u, g)) (h2 : F 27 [.int (a + b), .int (b - 1)] g = some (.int v, g)) (e : u - v = w) : Iv.run F n 2 false b30 [.int a, .int b] g = some (.int w, g) := by
  simp [Iv.run, b30, h1, h2, e]
theorem ow_cast {n l : Nat} (h : 2 * l ≤ n) : ((Cf n l : Nat) : Int) - ((Cp n l : Nat) : Int) = ((ow n l : Nat) : Int) := by
  unfold ow; rw [Int.natCast_sub (Cp_le h)]
theorem F30 (d n l : Nat) (g : G) (hn : n ≤ 200) (hl : 2 * l ≤ n) : Fk tab cst (d + 2) 30 [.int ((n : Int) - l), .int l] g = some (.int (ow n l : Nat), g) := by
  rw [f30 (d + 1) _ g rfl]
  refine b30_run (u := (Cf n l : Nat)) (v := (Cp n l : Nat)) ?_ ?_ (ow_cast hl)
  · rw [show (n : Int) - l + l = n by omega]; exact F27 d n l g (by omega) (by omega)
  · rw [show (n : Int) - l + l = n by omega]
    cases l with
    | zero => exact F27n d n g
    | succ k => rw [show ((k + 1 : Nat) : Int) - 1 = (k : Nat) by omega]; exact F27 d n k g (by omega) (by omega)
theorem b18_run {F : Fns} {n : Nat} {g : G} {a b c : Int} (h : F 1 [.int a, .int 0, .int c] g = some (.bool true, g)) (h2 : F 1 [.int b, .int 0, .int c] g = some (.bool true, g)) : Iv.run F n 3 false b18 [.int a, .int b, .int c] g = some (.none, g) := by
  simp [Iv.run, b18, h, h2]
theorem b19_run {F : Fns} {n : Nat} {g : G} {a b u v w : Int} (h : F 18 [.int a, .int b, .int 200] g = some (.none, g)) (c : ¬ a < b) (h1 : F 4 [.int (a + b), .int b] g = some (.int u, g)) (h2 : F 4 [.int (a + b), .int (b - 1)] g = some (.int v, g)) (e : u - v = w) : Iv.run F n 2 false b19 [.int a, .int b] g = some (.int w, g) := by
  simp [Iv.run, b19, h, c, h1, h2, e]
theorem F18 (d : Nat) {a b c : Int} (g : G) (h1 : 0 ≤ a ∧ a ≤ c) (h2 : 0 ≤ b ∧ b ≤ c) : Fk tab cst (d + 3) 18 [.int a, .int b, .int c] g = some (.none, g) := by
  rw [f18 (d + 2) _ g rfl]; exact b18_run (F1t d g h1) (F1t d g h2)
theorem F19 (d n l : Nat) (g : G) (hn : n ≤ 200) (hl : 2 * l ≤ n) : Fk tab cst (d + 4) 19 [.int ((n : Int) - l), .int l] g = some (.int (ow n l : Nat), g) := by
  rw [f19 (d + 3) _ g rfl]
  refine b19_run (u := (Cf n l : Nat)) (v := (Cp n l : Nat)) (F18 d g (by omega) (by omega)) (by omega) ?_ ?_ (ow_cast hl)
  · rw [show (n : Int) - l + l = n by omega]; exact F4 (d + 2) n l g (by omega) (by omega)
  · rw [show (n : Int) - l + l = n by omega]
    cases l with
    | zero => exact F4n (d + 2) n g
    | succ k => rw [show ((k + 1 : Nat) : Int) - 1 = (k : Nat) by omega]; exact F4 (d + 2) n k g (by omega) (by omega)
theorem F23 (d : Nat) {g : G} (H : DrwOk g) {m : Int} (h1 : 0 < m) (h2 : m < 18446744073709551616) : ∃ v g', Fk tab cst (d + 1) 23 [.int m] g = some (.int v, g') ∧ (0 ≤ v ∧ v < m) ∧ DrwOk g' := by
  obtain ⟨v, g', e, q⟩ := draw_run (F := Fk tab cst d) (n := 1000000) 1307 H h1 h2
  exact ⟨v, g', by rw [f23 d _ g rfl]; exact e, q⟩
end K19
set_option Elab.async false
set_option linter.all false
set_option maxRecDepth 100000
/-! K19R2: the squares' half of the law. -/
namespace K19
open PySem Iv
section
variable {F : Fns} {g : G} {s1 s2 s3 s4 s5 : Sl} {a i u : Int}
theorem t31_0 (h : F 30 [.int (a - i), .int i] g = some (.int u, g)) :
    compT F (.nm 2) [(.op .add [(.op .fdiv [(.var 1), (.cst (.int 2))]), (.cst (.int 1))])] none (.call 30 none [(.op .sub [(.var 1), (.var 2)]), (.var 2)]) ([.hd, .ow (.int a), s2, s3, s4, s5], g) (.int i) g = some (some (.int u), g) := by
  simp [compT_none, h]
theorem t31_1 (h : F 8 [.int (a - i), .int i] g = some (.int u, g)) :
    compT F (.nm 2) [(.op .add [(.op .fdiv [(.var 1), (.cst (.int 2))]), (.cst (.int 1))])] none (.call 8 none [(.op .sub [(.var 1), (.var 2)]), (.var 2)]) ([.hd, .ow (.int a), s2, s3, s4, s5], g) (.int i) g = some (some (.int u), g) := by
  simp [compT_none, h]
theorem t31_2 (m : mulOk u u = true) : compT F (.nm 5) [(.var 3)] none (.op .mul [(.var 5), (.var 5)]) ([.hd, s1, s2, s3, s4, s5], g) (.int u) g = some (some (.int (u * u)), g) := by
  simp [compT_none, m]
theorem zv31 (h : divOk 2 = true) : evs F [(.op .add [(.op .fdiv [(.var 1), (.cst (.int 2))]), (.cst (.int 1))])] ([.hd, .ow (.int a), s2, s3, s4, s5], g) = some ([.int (a / 2 + 1)], ([.hd, .ow (.int a), s2, s3, s4, s5], g)) := by
  simp [h]
end
theorem b31_run {F : Fns} {n : Nat} {g g1 g2 g3 : G} {s lo few w c m x : Int} {ls sq : List Int} (e1 : F 23 [.int 201] g = some (.int s, g1))
    (c0 : ev F c31_0 ([.hd, .ow (.int s), .no, .no, .no, .no], g1) = some (.list (ls.map .int), ([.hd, .ow (.int s), .no, .no, .no, .no], g1)))
    (c1 : ev F c31_1 ([.hd, .ow (.int s), .no, .ow (.list (ls.map .int)), .no, .no], g1) = some (.list (ls.map .int), ([.hd, .ow (.int s), .no, .ow (.list (ls.map .int)), .no, .no], g1)))
    (c2 : ev F c31_2 ([.hd, .ow (.int s), .no, .ow (.list (ls.map .int)), .no, .no], g1) = some (.list (sq.map .int), ([.hd, .ow (.int s), .no, .ow (.list (ls.map .int)), .no, .no], g1)))
    (h2 : sq.sum = w) (h6 : F 6 [.int s] g1 = some (.int w, g1)) (h3 : ls.sum = m) (h27 : F 27 [.int s, .int (s / 2)] g1 = some (.int m, g1))
    (e2 : F 23 [.int (s / 2 + 1)] g1 = some (.int lo, g2)) (h19 : F 19 [.int (s - lo), .int lo] g2 = some (.int x, g2)) (hx : atI (ls.map PyData.int) lo = some (.int x))
    (e3 : F 23 [.int 101] g2 = some (.int few, g3)) (h8 : F 8 [.int few, .int few] g3 = some (.int c, g3)) (h7 : F 7 [.int few] g3 = some (.int c, g3)) (h6' : F 6 [.int few] g3 = some (.int c, g3)) : Iv.run F n 6 true b31 [] g = some (.bool true, g3) := by
  have q := ne_L ls ls
  have dv : divOk 2 = true := by decide
  refine run_retH (s := [.hd, .no, .no, .no, .no, .no]) (s' := [.hd, .ow (.int s), .ow (.int lo), .ow (.list (ls.map .int)), .ow (.int few), .no]) rfl ?_
  unfold b31
  rw [exs_nx (s1 := ([.hd, .ow (.int s), .no, .no, .no, .no], g1)) (by simp [e1])]
  rw [exs_nx (s1 := ([.hd, .ow (.int s), .no, .ow (.list (ls.map .int)), .no, .no], g1)) (by simp [c0])]
  rw [exs_nx (s1 := ([.hd, .ow (.int s), .no, .ow (.list (ls.map .int)), .no, .no], g1)) (by simp [c1, q])]
  rw [exs_nx (s1 := ([.hd, .ow (.int s), .no, .ow (.list (ls.map .int)), .no, .no], g1)) (by simp [c2, h2, h6, h3, h27, dv])]
  rw [exs_nx (s1 := ([.hd, .ow (.int s), .ow (.int lo), .ow (.list (ls.map .int)), .no, .no], g2)) (by simp [e2, dv])]
  rw [exs_nx (s1 := ([.hd, .ow (.int s), .ow (.int lo), .ow (.list (ls.map .int)), .no, .no], g2)) (by simp [h19, hx])]
  rw [exs_nx (s1 := ([.hd, .ow (.int s), .ow (.int lo), .ow (.list (ls.map .int)), .ow (.int few), .no], g3)) (by simp [e3])]
  refine exs_ret ?_
  simp [h8, h7, h6']
def lo_ (n : Nat) : List Int := (List.range (n / 2 + 1)).map fun l => ((ow n l : Nat) : Int)
theorem mapInt {α : Type} (f : α → Int) (l : List α) : (l.map fun i => PyData.int (f i)) = (l.map f).map .int := by rw [List.map_map]; rfl
theorem ow_le (n l : Nat) : ow n l ≤ 2 ^ n := Nat.le_trans (Nat.sub_le _ _) (Cf_le _ _)
theorem F31 (d : Nat) {g : G} (H : DrwOk g) : ∃ g3, Fk tab cst (d + 5) 31 [] g = some (.bool true, g3) ∧ DrwOk g3 := by
  obtain ⟨v1, g1, e1, q1, H1⟩ := F23 (d + 3) H (m := 201) (by decide) (by decide)
  obtain ⟨s, rfl⟩ : ∃ s : Nat, v1 = s := ⟨v1.toNat, by omega⟩
  have hs : s ≤ 200 := by omega
  obtain ⟨v2, g2, e2, q2, H2⟩ := F23 (d + 3) H1 (m := (s : Int) / 2 + 1) (by omega) (by omega)
  obtain ⟨l, rfl⟩ : ∃ l : Nat, v2 = l := ⟨v2.toNat, by omega⟩
  obtain ⟨v3, g3, e3, q3, H3⟩ := F23 (d + 3) H2 (m := 101) (by decide) (by decide)
  obtain ⟨f, rfl⟩ : ∃ f : Nat, v3 = f := ⟨v3.toNat, by omega⟩
  have hr : itS .rng [.int ((s : Int) / 2 + 1)] = some (rangeS 0 (s / 2 + 1)) := by
    rw [it_rng, small62_s (by omega) (by omega)]
    show some (rangeS 0 ((s : Int) / 2 + 1).toNat) = _
    rw [show ((s : Int) / 2 + 1).toNat = s / 2 + 1 by omega]
  refine ⟨g3, ?_, H3⟩
  rw [f31 (d + 4) _ g rfl]
  refine b31_run (s := s) (lo := l) (few := f) (w := (ct s : Nat)) (c := (ct f : Nat)) (m := (Cf s (s / 2) : Nat)) (x := (ow s l : Nat)) (ls := lo_ s) (sq := (List.range (s / 2 + 1)).map fun l => ((ow s l * ow s l : Nat) : Int))
    e1 ?_ ?_ ?_ ?_ (F6 d s g1 (by omega)) ?_ ?_ e2 (F19 d s l g2 hs (by omega)) ?_ e3 ?_ (F7 d f g3 (by omega)) (F6 d f g3 (by omega))
  · unfold lo_
    rw [← mapInt]
    exact ev_rngS (k := s / 2 + 1) (fun i => ((ow s i : Nat) : Int)) (lo := 0) (ds := [.int ((s : Int) / 2 + 1)]) (zv31 (by decide)) hr (by omega) fun i hi => by
      rw [Int.zero_add]
      exact t31_0 (F30 (d + 2) s i g1 hs (by omega))
  · unfold lo_
    rw [← mapInt]
    exact ev_rngS (k := s / 2 + 1) (fun i => ((ow s i : Nat) : Int)) (lo := 0) (ds := [.int ((s : Int) / 2 + 1)]) (zv31 (by decide)) hr (by omega) fun i hi => by
      rw [Int.zero_add]
      exact t31_1 (F8 (d + 1) s i g1 hs (by omega))
  · unfold lo_
    rw [← mapInt, ← mapInt]
    exact ev_compM (vs := List.range (s / 2 + 1)) (enc := fun i => .int ((ow s i : Nat) : Int)) (ds := [.list ((List.range (s / 2 + 1)).map fun i => .int ((ow s i : Nat) : Int))]) (fun i => .int ((ow s i * ow s i : Nat) : Int)) (by simp) (it_valL _) (by rw [List.length_range]; exact le_line (by omega)) fun i m => by
      rw [Int.natCast_mul]
      exact t31_2 (mulOk_n (ow_le s i) (ow_le s i) (by omega))
  · rw [sm_cast (fun l => ow s l * ow s l), nSq s (by omega)]
  · unfold lo_
    rw [sm_cast, sum_ow s (s / 2) (by omega)]
  · rw [show (s : Int) / 2 = ((s / 2 : Nat) : Int) by omega]; exact F27 (d + 3) s (s / 2) g1 (by omega) (by omega)
  · unfold lo_
    rw [atI_nat]
    have : l < s / 2 + 1 := by omega
    simp [this]
  · have h := F8 (d + 1) (2 * f) f g3 (by omega) (by omega)
    rw [show ((2 * f : Nat) : Int) - f = f by omega] at h
    rw [h, ← bent_eq (by omega), show 2 * f - 2 * f + 1 = 1 by omega, Nat.mul_one, show 2 * f - f + 1 = f + 1 by omega]
    rfl
end K19
set_option Elab.async false
set_option linter.all false
/-! K19Rows: rows without three in an order; their rises (own work). -/
namespace K19
open Iv
def zi (r : List Nat) : List Int := r.map fun n : Nat => (n : Int)
theorem zi_len (r : List Nat) : (zi r).length = r.length := List.length_map _
theorem zi_get {r : List Nat} {i : Nat} (h : i < r.length) : (zi r)[i]? = some (r[i] : Int) := by simp [zi, h]
def insT : List Nat → Nat → List Nat
  | [], x => [x]
  | t :: ts, x => if x ≤ t then x :: ts else t :: insT ts x
def spots (k : Nat) : List Nat → Nat → List Nat
  | [], _ => []
  | t :: ts, x => if x ≤ t then k :: spots (k + 1) ts x else spots (k + 1) ts x
theorem spots_nil : ∀ {t : List Nat} {k x : Nat}, spots k t x = [] → insT t x = t ++ [x]
  | [], k, x, _ => rfl
  | t :: ts, k, x, h => by
    unfold spots at h
    unfold insT
    by_cases c : x ≤ t
    · rw [if_pos c] at h; cases h
    · rw [if_neg c] at h; rw [if_neg c, spots_nil h]; rfl
theorem spots_cons : ∀ {t : List Nat} {k x j : Nat} {r : List Nat}, spots k t x = j :: r → k ≤ j ∧ j < k + t.length ∧ t.set (j - k) x = insT t x
  | [], k, x, j, r, h => by cases h
  | t :: ts, k, x, j, r, h => by
    unfold spots at h
    unfold insT
    by_cases c : x ≤ t
    · rw [if_pos c] at h
      cases h
      rw [if_pos c]
      exact ⟨Nat.le_refl _, by simp, by simp⟩
    · rw [if_neg c] at h
      rw [if_neg c]
      obtain ⟨h1, h2, h3⟩ := spots_cons h
      refine ⟨by omega, by simp; omega, ?_⟩
      rw [show j - k = (j - (k + 1)) + 1 by omega, List.set_cons_succ, h3]
theorem insT_len (x : Nat) : ∀ t : List Nat, (insT t x).length ≤ t.length + 1
  | [] => Nat.le_refl _
  | t :: ts => by
    unfold insT
    split
    · simp
    · have := insT_len x ts
      simp; omega
def lr (r : List Nat) : List Nat := r.foldl insT []
def rise (r : List Nat) : Nat := (lr r).length
/-- at the places a < b < c the row stands as p q s stand -/
def hasT (p q s : Nat) (r : List Nat) : Bool := (List.range r.length).any fun a => (List.range (r.length - (a + 1))).any fun j => let b := a + 1 + j
  (decide (r.getD a 0 < r.getD b 0) == decide (p < q)) && (List.range (r.length - (b + 1))).any fun l => let c := b + 1 + l
    (decide (r.getD a 0 < r.getD c 0) == decide (p < s)) && (decide (r.getD b 0 < r.getD c 0) == decide (q < s))
def newR (r : List Nat) (x : Nat) : List Nat := (r.map fun o => o + if x ≤ o then 1 else 0) ++ [x]
def stepR (p q s : Nat) (r : List Nat) : List (List Nat) := ((List.range (r.length + 1)).map (newR r)).filter fun f => !hasT p q s f
def avR (p q s : Nat) : Nat → List (List Nat)
  | 0 => [[]]
  | n + 1 => (avR p q s n).flatMap (stepR p q s)
def exchK (found : List Nat) : Nat → List Nat → List Nat
  | _, [] => found
  | k, x :: r => exchK (found.set x k) (k + 1) r
def exch (r : List Nat) : List Nat := exchK (List.replicate r.length 0) 0 r
theorem stepR_mem {p q s : Nat} {r f : List Nat} (h : f ∈ stepR p q s r) : ∃ x, x ≤ r.length ∧ f = newR r x := by
  obtain ⟨h1, _⟩ := List.mem_filter.mp h
  obtain ⟨x, h2, rfl⟩ := List.mem_map.mp h1
  exact ⟨x, by have := List.mem_range.mp h2; omega, rfl⟩
theorem newR_len (r : List Nat) (x : Nat) : (newR r x).length = r.length + 1 := by simp [newR]
theorem avR_len (p q s : Nat) : ∀ n, ∀ r ∈ avR p q s n, r.length = n
  | 0, r, h => by
    have : r = [] := by simpa [avR] using h
    subst this; rfl
  | n + 1, r, h => by
    obtain ⟨u, h1, h2⟩ := List.mem_flatMap.mp h
    obtain ⟨x, _, rfl⟩ := stepR_mem h2
    rw [newR_len, avR_len p q s n u h1]
/-- what the law asks of a row -/
def okR (n : Nat) (r : List Nat) : Bool := r.isPerm (List.range n)
def cntR (n far : Nat) : Nat := ((avR 2 1 0 n).filter fun r => rise r == far).length
def fixR (n far : Nat) : Nat := ((avR 2 1 0 n).filter fun r => rise r == far && exch r == r).length
set_option maxHeartbeats 0
theorem nOk : ∀ n, n < 8 → (avR 2 1 0 n).all (okR n) = true ∧ (avR 0 1 2 n).all (okR n) = true := by decide +kernel
end K19
set_option Elab.async false
set_option linter.all false
/-! K19N2: the numbers of k19's rows. -/
namespace K19
open Iv
def tabR (n far : Nat) : Nat := if n ≤ 2 * far then ow n (n - far) else 0
def fewR (n : Nat) : Nat := ((avR 2 1 0 n).filter fun r => decide (rise r < 3)).length
def bothR (n : Nat) : Nat := ((avR 0 1 2 n).filter fun r => !hasT 2 1 0 r).length
set_option maxHeartbeats 0
theorem nRows : ∀ n, n < 8 → (avR 2 1 0 n).length = ct n ∧ fewR n = bothR n ∧ ∀ far, far < n + 1 → cntR n far = tabR n far * tabR n far ∧ fixR n far = tabR n far := by decide +kernel
theorem nLen : ∀ n, n < 8 → (avR 2 1 0 n).length ≤ 1000 ∧ (avR 0 1 2 n).length ≤ 1000 ∧ avR 2 1 0 n ≠ [] ∧ avR 0 1 2 n ≠ [] := by decide +kernel
end K19
set_option Elab.async false
set_option linter.all false
set_option maxRecDepth 100000
/-! K19R3: runs of k19's defs: rows. -/
namespace K19
open PySem Iv
@[simp] theorem o_eqB (a b : Bool) : opS .eq [.bool a, .bool b] = some (.bool (a == b)) := by cases a <;> cases b <;> rfl
@[simp] theorem o_isNN : opS .is_ [.none, .none] = some (.bool true) := (rfl)
@[simp] theorem o_isTN (xs : List D) : opS .is_ [.tuple xs, .none] = some (.bool false) := (rfl)
theorem fresh_compL {t : Tg} {k : IK} {es : List E} {c : Option E} {e : E} (xs : List D) (h : lfs xs = true) : E.fresh (.comp t k es c e) (.list xs) = true := by
  unfold E.fresh
  have : ∀ xs : List D, lfs xs = true → (xs.all fun x => lf x || e.fresh x) = true := fun xs => by
    induction xs with
    | nil => intro _; rfl
    | cons x xs ih =>
      intro h
      rw [lfs_cons, Bool.and_eq_true] at h
      rw [List.all_cons, h.1, ih h.2]; rfl
  show (e.fr || xs.all fun x => lf x || e.fresh x) = true
  rw [this xs h, Bool.or_true]
/-! ### the longest rise -/
def zn (r : List Nat) : List D := (zi r).map .int
theorem zn_len (r : List Nat) : (zn r).length = r.length := by simp [zn, zi]
theorem zn_get {r : List Nat} {i : Nat} (h : i < r.length) : (zn r)[i]? = some (.int (r[i] : Int)) := by simp [zn, zi, h]
theorem zn_lfs (r : List Nat) : lfs (zn r) = true := lfs_ints _
theorem zn_snoc (r : List Nat) (x : Nat) : zn (r ++ [x]) = zn r ++ [.int x] := by simp [zn, zi]
theorem zn_set (r : List Nat) (i x : Nat) : zn (r.set i x) = (zn r).set i (.int x) := by simp [zn, zi, List.map_set]
theorem zn_cons (x : Nat) (r : List Nat) : zn (x :: r) = .int x :: zn r := rfl
section
variable {F : Fns} {n : Nat} {g : G}
theorem t9 {s0 s1 y3 y4 y5 : Sl} {x j t : Int} : compT F (.tp [4, 5]) [(.var 1)] (some (.op .ge [(.var 5), (.var 2)])) (.var 4) ([s0, s1, .sh (.int x), y3, y4, y5], g) (.tuple [.int j, .int t]) g = some (if x ≤ t then some (.int j) else none, g) := by
  by_cases c : x ≤ t <;> simp [compT_some, c]
theorem spots_fm : ∀ (t : List Nat) (k x : Nat), ((t.zipIdx k).filterMap fun p => if (x : Int) ≤ (p.1 : Int) then some (PyData.int (p.2 : Int)) else none) = zn (spots k t x)
  | [], k, x => rfl
  | u :: t, k, x => by
    rw [List.zipIdx_cons, List.filterMap_cons]
    unfold spots
    by_cases c : x ≤ u
    · rw [if_pos (by omega), if_pos c, spots_fm t (k + 1) x]; rfl
    · rw [if_neg (by omega), if_neg c, spots_fm t (k + 1) x]
theorem c9_ev {s0 y3 y4 y5 : Sl} {x : Nat} {t : List Nat} (hl : t.length ≤ 1000) : ev F c9_0 ([s0, .ow (.list (zn t)), .sh (.int x), y3, y4, y5], g) = some (.list (zn (spots 0 t x)), ([s0, .ow (.list (zn t)), .sh (.int x), y3, y4, y5], g)) := by
  rw [← spots_fm]
  exact ev_compF (vs := t.zipIdx) (enc := fun p => .tuple [.int (p.2 : Nat), .int (p.1 : Nat)]) (ds := [.list (zn t)]) (fun p => if (x : Int) ≤ (p.1 : Int) then some (.int (p.2 : Int)) else none) (by simp) (by
    rw [it_enumL]; unfold enumS zn zi; rw [List.map_map, List.zipIdx_map, List.map_map]; rfl) (by rw [List.length_zipIdx]; exact le_line (by omega)) fun p m => t9
theorem w9_nil {s0 y2 y3 y4 y5 : Sl} {x : Int} {ts : List D} (h : ev F c9_0 ([s0, .ow (.list ts), .sh (.int x), y3, y4, y5], g) = some (.list [], ([s0, .ow (.list ts), .sh (.int x), y3, y4, y5], g))) (hl : ts.length < line) :
    (bindTg (.nm 2) (.int x) ([s0, .ow (.list ts), y2, y3, y4, y5], g)).bind (fun s1 => exs F n w9_0 s1) = some (.nx, ([s0, .ow (.list (ts ++ [.int x])), .sh (.int x), .ow (.list []), y4, y5], g)) := by
  have f : E.fresh c9_0 (.list []) = true := fresh_compL [] rfl
  have st : ∀ s : St, store 3 c9_0 (.list []) s = some (put s 3 (.ow (.list []))) := fun s => store2_fresh f
  simp [w9_0, h, st, hl]
theorem w9_cons {s0 y2 y3 y4 y5 : Sl} {x : Int} {ts rs : List D} {j : Nat} (h : ev F c9_0 ([s0, .ow (.list ts), .sh (.int x), y3, y4, y5], g) = some (.list (.int j :: rs), ([s0, .ow (.list ts), .sh (.int x), y3, y4, y5], g))) (hr : lfs rs = true) (hj : j < ts.length) :
    (bindTg (.nm 2) (.int x) ([s0, .ow (.list ts), y2, y3, y4, y5], g)).bind (fun s1 => exs F n w9_0 s1) = some (.nx, ([s0, .ow (.list (ts.set j (.int x))), .sh (.int x), .ow (.list (.int j :: rs)), y4, y5], g)) := by
  have f : E.fresh c9_0 (.list (.int j :: rs)) = true := fresh_compL _ (by simp [hr])
  have st : ∀ s : St, store 3 c9_0 (.list (.int j :: rs)) s = some (put s 3 (.ow (.list (.int j :: rs)))) := fun s => store2_fresh f
  have e := ex_setIn (F := F) (n := n) (i := 1) (k := j) (ix := .op .ix [(.var 3), (.cst (.int 0))]) (e := .var 2) (s := [s0, .ow (.list ts), .sh (.int x), .ow (.list (.int j :: rs)), y4, y5]) (g := g) (xs := ts) (v := .int x) rfl hj (by simp) rfl (by
    have : atI (PyData.int (j : Int) :: rs) 0 = some (.int j) := by rw [show (0 : Int) = ((0 : Nat) : Int) from rfl, atI_nat]; rfl
    simp [this])
  simp [w9_0, h, st, e]
  omega
theorem l9_run {s0 y4 y5 : Sl} : ∀ (r t : List Nat) (y2 y3 : Sl), t.length + r.length ≤ 1000 → ∃ y2' y3', loopL (fun v s => (bindTg (.nm 2) v s).bind fun s1 => exs F n w9_0 s1) (zn r) ([s0, .ow (.list (zn t)), y2, y3, y4, y5], g) = some (.nx, ([s0, .ow (.list (zn (r.foldl insT t))), y2', y3', y4, y5], g))
  | [], t, y2, y3, _ => ⟨y2, y3, rfl⟩
  | x :: r, t, y2, y3, hl => by
    have hl' : t.length + r.length + 1 ≤ 1000 := by simpa [Nat.add_assoc] using hl
    have c := c9_ev (F := F) (g := g) (s0 := s0) (y3 := y3) (y4 := y4) (y5 := y5) (x := x) (t := t) (by omega)
    have il := insT_len x t
    rw [zn_cons, List.foldl_cons]
    cases hs : spots 0 t x with
    | nil =>
      rw [hs] at c
      obtain ⟨y2', y3', e⟩ := l9_run r (insT t x) (.sh (.int x)) (.ow (.list [])) (by omega)
      refine ⟨y2', y3', ?_⟩
      rw [loopL_nx (w9_nil c (by rw [zn_len]; exact lt_line (by omega))), ← e, spots_nil hs, zn_snoc]
    | cons j q =>
      rw [hs, zn_cons] at c
      obtain ⟨_, h2, h3⟩ := spots_cons hs
      obtain ⟨y2', y3', e⟩ := l9_run r (insT t x) (.sh (.int x)) (.ow (.list (.int j :: zn q))) (by omega)
      refine ⟨y2', y3', ?_⟩
      rw [loopL_nx (w9_cons c (zn_lfs q) (by rw [zn_len]; omega)), ← e, ← h3, Nat.sub_zero, zn_set]
theorem b9_run {r t : List D} {y2 y3 y4 y5 : Sl} (e : ex F n l9_0 ([.sh (.tuple r), .ow (.list []), .no, .no, .no, .no], g) = some (.nx, ([.sh (.tuple r), .ow (.list t), y2, y3, y4, y5], g))) : Iv.run F n 6 false b9 [.tuple r] g = some (.int t.length, g) := by
  simp [Iv.run, b9, e]
end
theorem F9 (d : Nat) (r : List Nat) (g : G) (h : r.length ≤ 1000) : Fk tab cst (d + 1) 9 [.tuple (zn r)] g = some (.int (rise r : Nat), g) := by
  obtain ⟨y2, y3, e⟩ := l9_run (F := Fk tab cst d) (n := 1000000) (g := g) (s0 := .sh (.tuple (zn r))) (y4 := .no) (y5 := .no) r [] .no .no (by simpa using h)
  rw [f9 d _ g rfl, b9_run (t := zn (lr r)) (y2 := y2) (y3 := y3) (y4 := .no) (y5 := .no) (by
    unfold l9_0
    rw [ex_for (ds := [.tuple (zn r)]) (vs := zn r) (s1 := ([.sh (.tuple (zn r)), .ow (.list []), .no, .no, .no, .no], g)) (by simp) rfl]
    exact e), zn_len]
  rfl
end K19
set_option Elab.async false
set_option linter.all false
set_option maxRecDepth 100000
/-! K19R4: runs of k19's defs: three in a row. -/
namespace K19
open PySem Iv
theorem atI_zn {r : List Nat} {i : Nat} (h : i < r.length) : atI (zn r) (i : Int) = some (.int ((r.getD i 0 : Nat) : Int)) := by
  rw [atI_nat, zn_get h, List.getD_eq_getElem?_getD, List.getElem?_eq_getElem h]; rfl
section
variable {F : Fns} {n : Nat} {g : G} {xs : List D} {p q s x y z a b c : Int} {y2 y3 y4 : Sl}
theorem at30 : atI [PyData.int p, .int q, .int s] 0 = some (.int p) := rfl
theorem at31 : atI [PyData.int p, .int q, .int s] 1 = some (.int q) := rfl
theorem at32 : atI [PyData.int p, .int q, .int s] 2 = some (.int s) := rfl
theorem t14_hit (h1 : atI xs a = some (.int x)) (h2 : atI xs b = some (.int y)) (h3 : atI xs c = some (.int z)) (e1 : x < z ↔ p < s) (e2 : y < z ↔ q < s) :
    (bindTg (.nm 4) (.int c) ([.sh (.tuple xs), .sh (.tuple [.int p, .int q, .int s]), .sh (.int a), .sh (.int b), y4], g)).bind (fun s1 => exs F n w14_0 s1) = some (.ret (.tuple [.int a, .int b, .int c]), ([.sh (.tuple xs), .sh (.tuple [.int p, .int q, .int s]), .sh (.int a), .sh (.int b), .sh (.int c)], g)) := by
  simp [w14_0, h1, h2, h3, at30, at31, at32, e1, e2]
theorem t14_m1 (h1 : atI xs a = some (.int x)) (h3 : atI xs c = some (.int z)) (e1 : ¬(x < z ↔ p < s)) :
    (bindTg (.nm 4) (.int c) ([.sh (.tuple xs), .sh (.tuple [.int p, .int q, .int s]), .sh (.int a), .sh (.int b), y4], g)).bind (fun s1 => exs F n w14_0 s1) = some (.nx, ([.sh (.tuple xs), .sh (.tuple [.int p, .int q, .int s]), .sh (.int a), .sh (.int b), .sh (.int c)], g)) := by
  simp [w14_0, h1, h3, at30, at31, at32, e1]
theorem t14_m2 (h1 : atI xs a = some (.int x)) (h2 : atI xs b = some (.int y)) (h3 : atI xs c = some (.int z)) (e1 : x < z ↔ p < s) (e2 : ¬(y < z ↔ q < s)) :
    (bindTg (.nm 4) (.int c) ([.sh (.tuple xs), .sh (.tuple [.int p, .int q, .int s]), .sh (.int a), .sh (.int b), y4], g)).bind (fun s1 => exs F n w14_0 s1) = some (.nx, ([.sh (.tuple xs), .sh (.tuple [.int p, .int q, .int s]), .sh (.int a), .sh (.int b), .sh (.int c)], g)) := by
  simp [w14_0, h1, h2, h3, at30, at31, at32, e1, e2]
theorem t14_no (h1 : atI xs a = some (.int x)) (h2 : atI xs b = some (.int y)) (e1 : ¬(x < y ↔ p < q)) :
    (bindTg (.nm 3) (.int b) ([.sh (.tuple xs), .sh (.tuple [.int p, .int q, .int s]), .sh (.int a), y3, y4], g)).bind (fun s1 => exs F n w14_1 s1) = some (.nx, ([.sh (.tuple xs), .sh (.tuple [.int p, .int q, .int s]), .sh (.int a), .sh (.int b), y4], g)) := by
  simp [w14_1, h1, h2, at30, at31, at32, e1]
theorem t14_yes (h1 : atI xs a = some (.int x)) (h2 : atI xs b = some (.int y)) (e1 : x < y ↔ p < q) {fl : Fl} {st : St} (el : ex F n l14_0 ([.sh (.tuple xs), .sh (.tuple [.int p, .int q, .int s]), .sh (.int a), .sh (.int b), y4], g) = some (fl, st)) (hf : fl = .nx ∨ ∃ v, fl = .ret v) :
    (bindTg (.nm 3) (.int b) ([.sh (.tuple xs), .sh (.tuple [.int p, .int q, .int s]), .sh (.int a), y3, y4], g)).bind (fun s1 => exs F n w14_1 s1) = some (fl, st) := by
  rcases hf with rfl | ⟨v, rfl⟩ <;> simp [w14_1, h1, h2, at30, at31, at32, e1, el]
theorem t14_in {fl : Fl} {st : St} (el : ex F n l14_1 ([.sh (.tuple xs), .sh (.tuple [.int p, .int q, .int s]), .sh (.int a), y3, y4], g) = some (fl, st)) (hf : fl = .nx ∨ ∃ v, fl = .ret v) :
    (bindTg (.nm 2) (.int a) ([.sh (.tuple xs), .sh (.tuple [.int p, .int q, .int s]), y2, y3, y4], g)).bind (fun s1 => exs F n w14_2 s1) = some (fl, st) := by
  rcases hf with rfl | ⟨v, rfl⟩ <;> simp [w14_2, el]
theorem zv14 {u : Sl} (h : rdS (some u) = some (.int a)) (hx : xs.length = b) : evs F [(.op .add [(.var 3), (.cst (.int 1))]), (.op .len [(.var 0)])] ([.sh (.tuple xs), y2, y3, u, y4], g) = some ([.int (a + 1), .int b], ([.sh (.tuple xs), y2, y3, u, y4], g)) := by
  simp [h, hx]
theorem zv14' {u : Sl} (h : rdS (some u) = some (.int a)) (hx : xs.length = b) : evs F [(.op .add [(.var 2), (.cst (.int 1))]), (.op .len [(.var 0)])] ([.sh (.tuple xs), y2, u, y3, y4], g) = some ([.int (a + 1), .int b], ([.sh (.tuple xs), y2, u, y3, y4], g)) := by
  simp [h, hx]
theorem e14z (hx : xs.length = b) : evs F [(.op .len [(.var 0)])] ([.sh (.tuple xs), y2, y2, y3, y4], g) = some ([.int b], ([.sh (.tuple xs), y2, y2, y3, y4], g)) := by
  simp [hx]
end
theorem itR {i m : Nat} (h1 : i ≤ 1000) (h2 : m ≤ 1000) : itS .rng [.int ((i : Int) + 1), .int (m : Int)] = some ((List.range (m - (i + 1))).map fun l => .int ((i + 1 + l : Nat) : Int)) := by
  rw [it_rng2, small62_s (by omega) (by omega), small62_s (by omega) (by omega)]
  show some (rangeS ((i : Int) + 1) ((m : Int) - ((i : Int) + 1)).toNat) = _
  rw [show ((m : Int) - ((i : Int) + 1)).toNat = m - (i + 1) by omega]
  unfold rangeS
  congr 1
theorem dec_iff {a b c d : Nat} : (decide (a < b) == decide (c < d)) = true ↔ ((a : Int) < b ↔ (c : Int) < d) := by
  simp
section
variable (F : Fns) (n : Nat) (g : G) (r : List Nat) (p q s : Nat)
abbrev sl14 (y2 y3 y4 : Sl) : St := ([.sh (.tuple (zn r)), .sh (.tuple [.int p, .int q, .int s]), y2, y3, y4], g)
theorem in14 (hr : r.length ≤ 1000) {a b : Nat} (ha : a < r.length) (hb : b < r.length) (y4 : Sl) :
    ((List.range (r.length - (b + 1))).any (fun l => (decide (r.getD a 0 < r.getD (b + 1 + l) 0) == decide (p < s)) && (decide (r.getD b 0 < r.getD (b + 1 + l) 0) == decide (q < s))) = true →
      ∃ v st, ex F n l14_0 (sl14 g r p q s (.sh (.int a)) (.sh (.int b)) y4) = some (.ret v, st) ∧ (∃ xs, v = .tuple xs) ∧ st.2 = g) ∧
    ((List.range (r.length - (b + 1))).any (fun l => (decide (r.getD a 0 < r.getD (b + 1 + l) 0) == decide (p < s)) && (decide (r.getD b 0 < r.getD (b + 1 + l) 0) == decide (q < s))) = false →
      ∃ st, ex F n l14_0 (sl14 g r p q s (.sh (.int a)) (.sh (.int b)) y4) = some (.nx, st) ∧ ∃ y4, st = sl14 g r p q s (.sh (.int a)) (.sh (.int b)) y4) := by
  unfold l14_0
  rw [ex_for (ds := [.int ((b : Int) + 1), .int (r.length : Nat)]) (vs := (List.range (r.length - (b + 1))).map fun l => .int ((b + 1 + l : Nat) : Int)) (s1 := sl14 g r p q s (.sh (.int a)) (.sh (.int b)) y4) (zv14 rfl (by rw [zn_len])) (itR (by omega) hr)]
  refine loop_any (R := fun st => st.2 = g) (good := fun v => ∃ xs, v = .tuple xs) (P := fun st => ∃ y4, st = sl14 g r p q s (.sh (.int a)) (.sh (.int b)) y4) _ (List.range (r.length - (b + 1))) (fun l m st ⟨y4, e⟩ => ?_) _ ⟨y4, rfl⟩
  subst e
  have hc : b + 1 + l < r.length := by have := List.mem_range.mp m; omega
  have i1 := atI_zn ha
  have i2 := atI_zn hb
  have i3 := atI_zn hc
  refine ⟨fun h => ?_, fun h => ?_⟩
  · rw [Bool.and_eq_true] at h
    exact ⟨_, _, t14_hit i1 i2 i3 (dec_iff.mp h.1) (dec_iff.mp h.2), ⟨_, rfl⟩, rfl⟩
  · by_cases e1 : (decide (r.getD a 0 < r.getD (b + 1 + l) 0) == decide (p < s)) = true
    · rw [e1, Bool.true_and] at h
      exact ⟨_, t14_m2 i1 i2 i3 (dec_iff.mp e1) (fun z => by rw [dec_iff.mpr z] at h; cases h), _, rfl⟩
    · exact ⟨_, t14_m1 i1 i3 (fun z => e1 (dec_iff.mpr z)), _, rfl⟩
theorem mid14 (hr : r.length ≤ 1000) {a : Nat} (ha : a < r.length) (y3 y4 : Sl) :
    ((List.range (r.length - (a + 1))).any (fun j => (decide (r.getD a 0 < r.getD (a + 1 + j) 0) == decide (p < q)) && (List.range (r.length - (a + 1 + j + 1))).any fun l => (decide (r.getD a 0 < r.getD (a + 1 + j + 1 + l) 0) == decide (p < s)) && (decide (r.getD (a + 1 + j) 0 < r.getD (a + 1 + j + 1 + l) 0) == decide (q < s))) = true →
      ∃ v st, ex F n l14_1 (sl14 g r p q s (.sh (.int a)) y3 y4) = some (.ret v, st) ∧ (∃ xs, v = .tuple xs) ∧ st.2 = g) ∧
    ((List.range (r.length - (a + 1))).any (fun j => (decide (r.getD a 0 < r.getD (a + 1 + j) 0) == decide (p < q)) && (List.range (r.length - (a + 1 + j + 1))).any fun l => (decide (r.getD a 0 < r.getD (a + 1 + j + 1 + l) 0) == decide (p < s)) && (decide (r.getD (a + 1 + j) 0 < r.getD (a + 1 + j + 1 + l) 0) == decide (q < s))) = false →
      ∃ st, ex F n l14_1 (sl14 g r p q s (.sh (.int a)) y3 y4) = some (.nx, st) ∧ ∃ y3 y4, st = sl14 g r p q s (.sh (.int a)) y3 y4) := by
  unfold l14_1
  rw [ex_for (ds := [.int ((a : Int) + 1), .int (r.length : Nat)]) (vs := (List.range (r.length - (a + 1))).map fun l => .int ((a + 1 + l : Nat) : Int)) (s1 := sl14 g r p q s (.sh (.int a)) y3 y4) (zv14' rfl (by rw [zn_len])) (itR (by omega) hr)]
  refine loop_any (R := fun st => st.2 = g) (good := fun v => ∃ xs, v = .tuple xs) (P := fun st => ∃ y3 y4, st = sl14 g r p q s (.sh (.int a)) y3 y4) _ (List.range (r.length - (a + 1))) (fun j m st ⟨y3, y4, e⟩ => ?_) _ ⟨y3, y4, rfl⟩
  subst e
  have hb : a + 1 + j < r.length := by have := List.mem_range.mp m; omega
  have i1 := atI_zn ha
  have i2 := atI_zn hb
  obtain ⟨k1, k2⟩ := in14 F n g r p q s hr ha hb y4
  refine ⟨fun h => ?_, fun h => ?_⟩
  · rw [Bool.and_eq_true] at h
    obtain ⟨v, st, e, q1, q2⟩ := k1 h.2
    exact ⟨v, st, t14_yes i1 i2 (dec_iff.mp h.1) e (.inr ⟨_, rfl⟩), q1, q2⟩
  · by_cases e1 : (decide (r.getD a 0 < r.getD (a + 1 + j) 0) == decide (p < q)) = true
    · rw [e1, Bool.true_and] at h
      obtain ⟨st, e, y, q1⟩ := k2 h
      exact ⟨st, t14_yes i1 i2 (dec_iff.mp e1) e (.inl rfl), _, y, q1⟩
    · exact ⟨_, t14_no i1 i2 (fun z => e1 (dec_iff.mpr z)), _, _, rfl⟩
theorem out14 (hr : r.length ≤ 1000) :
    (hasT p q s r = true → ∃ v st, ex F n l14_2 (sl14 g r p q s .no .no .no) = some (.ret v, st) ∧ (∃ xs, v = .tuple xs) ∧ st.2 = g) ∧
    (hasT p q s r = false → ∃ st, ex F n l14_2 (sl14 g r p q s .no .no .no) = some (.nx, st) ∧ ∃ y2 y3 y4, st = sl14 g r p q s y2 y3 y4) := by
  unfold l14_2 hasT
  rw [ex_for (ds := [.int (r.length : Nat)]) (vs := (List.range r.length).map fun l => .int ((l : Nat) : Int)) (s1 := sl14 g r p q s .no .no .no) (by simp [zn_len]) (by
    rw [it_rng, small62_s (by omega) (by omega)]
    show some (rangeS 0 r.length) = _
    unfold rangeS
    congr 1
    exact List.map_congr_left fun l _ => by rw [Int.zero_add])]
  refine loop_any (R := fun st => st.2 = g) (good := fun v => ∃ xs, v = .tuple xs) (P := fun st => ∃ y2 y3 y4, st = sl14 g r p q s y2 y3 y4) _ (List.range r.length) (fun a m st ⟨y2, y3, y4, e⟩ => ?_) _ ⟨.no, .no, .no, rfl⟩
  subst e
  obtain ⟨k1, k2⟩ := mid14 F n g r p q s hr (List.mem_range.mp m) y3 y4
  refine ⟨fun h => ?_, fun h => ?_⟩
  · obtain ⟨v, st, e, q1, q2⟩ := k1 h
    exact ⟨v, st, t14_in e (.inr ⟨_, rfl⟩), q1, q2⟩
  · obtain ⟨st, e, y, z, q1⟩ := k2 h
    exact ⟨st, t14_in e (.inl rfl), _, y, z, q1⟩
end
theorem b14_ret {F : Fns} {n : Nat} {g : G} {xs ys : List D} {v : D} {st : St} (e : ex F n l14_2 ([.sh (.tuple xs), .sh (.tuple ys), .no, .no, .no], g) = some (.ret v, st)) : Iv.run F n 5 false b14 [.tuple xs, .tuple ys] g = some (v, st.2) := by
  simp [Iv.run, b14, e]
theorem b14_nx {F : Fns} {n : Nat} {g : G} {xs ys : List D} {y2 y3 y4 : Sl} (e : ex F n l14_2 ([.sh (.tuple xs), .sh (.tuple ys), .no, .no, .no], g) = some (.nx, ([.sh (.tuple xs), .sh (.tuple ys), y2, y3, y4], g))) : Iv.run F n 5 false b14 [.tuple xs, .tuple ys] g = some (.none, g) := by
  simp [Iv.run, b14, e]
/-- is there none? -/
theorem F14 (d : Nat) (r : List Nat) (p q s : Nat) (g : G) (hr : r.length ≤ 1000) : ∃ v, Fk tab cst (d + 1) 14 [.tuple (zn r), .tuple (zn [p, q, s])] g = some (v, g) ∧ opS .is_ [v, .none] = some (.bool (!hasT p q s r)) := by
  obtain ⟨k1, k2⟩ := out14 (Fk tab cst d) 1000000 g r p q s hr
  rw [f14 d _ g rfl]
  cases h : hasT p q s r with
  | true =>
    obtain ⟨v, st, e, ⟨xs, rfl⟩, q2⟩ := k1 h
    refine ⟨.tuple xs, ?_, rfl⟩
    rw [← q2]
    exact b14_ret (q2 ▸ e)
  | false =>
    obtain ⟨st, e, y2, y3, y4, rfl⟩ := k2 h
    exact ⟨.none, b14_nx e, rfl⟩
end K19
set_option Elab.async false
set_option linter.all false
set_option maxRecDepth 100000
/-! K19R5: runs of k19's defs: rows in order, rows turned over. -/
namespace K19
open PySem Iv
theorem nub_self : ∀ (l acc : List Int), (∀ x ∈ l, x ∉ acc) → l.Nodup → l.foldl (fun acc n => if n ∈ acc then acc else acc ++ [n]) acc = acc ++ l
  | [], acc, _, _ => by simp
  | x :: l, acc, h, nd => by
    have nd' := List.nodup_cons.mp nd
    rw [List.foldl_cons, if_neg (h x List.mem_cons_self), nub_self l (acc ++ [x]) (fun y m => ?_) nd'.2]
    · simp
    · intro z
      rcases List.mem_append.mp z with z | z
      · exact h y (List.mem_cons_of_mem _ m) z
      · have : y = x := by simpa using z
        subst this; exact nd'.1 m
theorem nub_nodup {l : List Int} (h : l.Nodup) : nubI l = l := by
  unfold nubI; rw [nub_self l [] (fun x _ z => by cases z) h]; rfl
theorem zi_nodup {r : List Nat} (h : r.Nodup) : (zi r).Nodup := by
  unfold zi
  exact List.Pairwise.map _ (fun a b (q : a ≠ b) => by omega) h
theorem zi_perm {r s : List Nat} (h : r.Perm s) : (zi r).Perm (zi s) := h.map _
theorem zi_range_sorted (n : Nat) : (zi (List.range n)).Pairwise (· ≤ ·) := by
  unfold zi
  exact List.Pairwise.map _ (fun a b (q : a < b) => by omega) List.pairwise_lt_range
/-- a row of the numbers below n -/
structure Row (n : Nat) (r : List Nat) : Prop where
  perm : r.Perm (List.range n)
  small : n ≤ 20
theorem Row.len {n : Nat} {r : List Nat} (h : Row n r) : r.length = n := by rw [h.perm.length_eq, List.length_range]
theorem Row.lt {n : Nat} {r : List Nat} (h : Row n r) {x : Nat} (m : x ∈ r) : x < n := List.mem_range.mp (h.perm.mem_iff.mp m)
theorem Row.nd {n : Nat} {r : List Nat} (h : Row n r) : r.Nodup := h.perm.nodup_iff.mpr List.nodup_range
section
variable {F : Fns} {n : Nat} {g : G}
theorem all_true (r : List Nat) : opS .all [.list (r.map fun _ => PyData.bool true)] = some (.bool true) := by
  rw [o_allM (fun _ => true)]; simp
theorem t10_0 {x : Int} {s0 s1 : Sl} (h : F 1 [.int x, .int (-1000000), .int 1000000] g = some (.bool true, g)) : compT F (.nm 1) [(.var 0)] none (.call 1 none [(.var 1), (.op .neg [(.op .pow [(.cst (.int 10)), (.cst (.int 6))])]), (.op .pow [(.cst (.int 10)), (.cst (.int 6))])]) ([s0, s1], g) (.int x) g = some (some (.bool true), g) := by
  have hp : powOk 10 6 = true := by decide
  simp [compT_none, h, hp]
theorem t10_1 {x : Int} {s0 s1 : Sl} : compT F (.nm 1) [(.var 0)] none (.var 1) ([s0, s1], g) (.int x) g = some (some (.int x), g) := by
  simp [compT_none]
theorem t11_0 {x : Int} {s0 s1 : Sl} (h : F 1 [.int x, .int 0, .int 20] g = some (.bool true, g)) : compT F (.nm 1) [(.var 0)] none (.call 1 none [(.var 1), (.cst (.int 0)), (.cst (.int 20))]) ([s0, s1], g) (.int x) g = some (some (.bool true), g) := by
  simp [compT_none, h]
theorem t13_0 {x : Int} {s0 s1 : Sl} (h : F 1 [.int x, .int 0, .int 2] g = some (.bool true, g)) : compT F (.nm 1) [(.var 0)] none (.call 1 none [(.var 1), (.cst (.int 0)), (.cst (.int 2))]) ([s0, s1], g) (.int x) g = some (some (.bool true), g) := by
  simp [compT_none, h]
theorem zn_map (r : List Nat) : zn r = r.map fun x : Nat => .int (x : Int) := by simp [zn, zi]
theorem b10_run {xs ys bs : List D} {k m u : Int} (hl : (xs.length : Int) = m) (h2 : F 2 [.tuple xs, .int 0, .int 200] g = some (.bool true, g)) (c0 : ev F c10_0 ([.sh (.tuple xs), .no], g) = some (.list bs, ([.sh (.tuple xs), .no], g))) (hb : opS .all [.list bs] = some (.bool true))
    (c1 : ev F c10_1 ([.sh (.tuple xs), .no], g) = some (.list ys, ([.sh (.tuple xs), .no], g))) (hn : opS .ndist [.list ys] = some (.int k)) (hk : ¬ k < m) (h9 : F 9 [.tuple xs] g = some (.int u, g)) : Iv.run F n 2 false b10 [.tuple xs] g = some (.int u, g) := by
  refine run_ret (s := [.sh (.tuple xs), .no]) (s' := [.sh (.tuple xs), .no]) rfl ?_
  unfold b10
  rw [exs_nx (s1 := ([.sh (.tuple xs), .no], g)) (by simp [h2, c0, hb])]
  rw [exs_nx (s1 := ([.sh (.tuple xs), .no], g)) (by
    have e : ev F (.op .lt [(.op .ndist [c10_1]), (.op .len [(.var 0)])]) ([.sh (.tuple xs), .no], g) = some (.bool false, ([.sh (.tuple xs), .no], g)) := by
      simp only [ev_op, evs_cs, evs_nil, c1, Option.bind_some, Option.map_some, hn, ev_var, rd_mk, List.getElem?_cons_zero, rdS_sh, o_lenT, hl, o_lt, hk, decide_false]
    rw [ex_ite, e]; simp)]
  refine exs_ret ?_
  simp [h9]
theorem b11_run {xs ms bs : List D} {m : Int} (hl : (xs.length : Int) = m) (h2 : F 2 [.tuple xs, .int 0, .int 20] g = some (.bool true, g)) (c0 : ev F c11_0 ([.sh (.tuple xs), .no], g) = some (.list bs, ([.sh (.tuple xs), .no], g))) (hb : opS .all [.list bs] = some (.bool true))
    (hs : opS .sorted [.tuple xs] = some (.list ms)) (hr : opS .lrng [.int m] = some (.list ms)) (he : opS .eq [.list ms, .list ms] = some (.bool true)) : Iv.run F n 2 false b11 [.tuple xs] g = some (.bool true, g) := by
  refine run_ret (s := [.sh (.tuple xs), .no]) (s' := [.sh (.tuple xs), .no]) rfl ?_
  unfold b11
  rw [exs_nx (s1 := ([.sh (.tuple xs), .no], g)) (by simp [h2, c0, hb])]
  refine exs_ret ?_
  have e : ev F (.op .eq [(.op .sorted [(.var 0)]), (.op .lrng [(.op .len [(.var 0)])])]) ([.sh (.tuple xs), .no], g) = some (.bool true, ([.sh (.tuple xs), .no], g)) := by
    exact ev_op2 (ev_op1 (ev_vs rfl) hs) (ev_op1 (ev_op1 (ev_vs rfl) (by rw [o_lenT, hl])) hr) he
  rw [ex_retS, e]; simp
theorem b12_run {x : D} (h : F 11 [x] g = some (.bool true, g)) : Iv.run F n 1 false b12 [x] g = some (.none, g) := by
  simp [Iv.run, b12, h]
theorem b13_run {xs bs : List D} (h2 : F 2 [.tuple xs, .int 3, .int 3] g = some (.bool true, g)) (c0 : ev F c13_0 ([.sh (.tuple xs), .no], g) = some (.list bs, ([.sh (.tuple xs), .no], g))) (hb : opS .all [.list bs] = some (.bool true))
    (hs : opS .sorted [.tuple xs] = some (.list [.int 0, .int 1, .int 2])) (he : opS .eq [.list [.int 0, .int 1, .int 2], .list [.int 0, .int 1, .int 2]] = some (.bool true)) : Iv.run F n 2 false b13 [.tuple xs] g = some (.bool true, g) := by
  simp [Iv.run, b13, h2, c0, hb, hs, he]
end
theorem F10 (d : Nat) {n : Nat} {r : List Nat} (g : G) (h : Row n r) : Fk tab cst (d + 3) 10 [.tuple (zn r)] g = some (.int (rise r : Nat), g) := by
  have hl := h.len
  have hn := h.small
  rw [f10 (d + 2) _ g rfl]
  refine b10_run (bs := r.map fun _ => .bool true) (ys := zn r) (k := (r.length : Nat)) (m := (r.length : Nat)) (by rw [zn_len]) (F2 (d + 1) g (by rw [zn_len]; omega)) ?_ (all_true r) ?_ ?_ (by omega) (F9 (d + 1) r g (by omega))
  · exact ev_compM (vs := r) (enc := fun x : Nat => .int (x : Int)) (ds := [.tuple (zn r)]) (fun _ => .bool true) (by simp) (by rw [it_valT, zn_map]) (le_line (by omega)) fun x m => t10_0 (F1t d g (by have := h.lt m; omega))
  · rw [zn_map]
    exact ev_compM (vs := r) (enc := fun x : Nat => .int (x : Int)) (ds := [.tuple (r.map fun x : Nat => .int (x : Int))]) (fun x : Nat => .int (x : Int)) (by simp) (by rw [it_valT]) (le_line (by omega)) fun x m => t10_1
  · unfold zn
    rw [o_ndist, nub_nodup (zi_nodup h.nd), zi_len]
theorem F11 (d : Nat) {n : Nat} {r : List Nat} (g : G) (h : Row n r) : Fk tab cst (d + 3) 11 [.tuple (zn r)] g = some (.bool true, g) := by
  have hl := h.len
  have hn := h.small
  rw [f11 (d + 2) _ g rfl]
  refine b11_run (bs := r.map fun _ => .bool true) (ms := zn (List.range n)) (m := (n : Nat)) (by rw [zn_len, hl]) (F2 (d + 1) g (by rw [zn_len]; omega)) ?_ (all_true r) ?_ ?_ ?_
  · exact ev_compM (vs := r) (enc := fun x : Nat => .int (x : Int)) (ds := [.tuple (zn r)]) (fun _ => .bool true) (by simp) (by rw [it_valT, zn_map]) (le_line (by omega)) fun x m => t11_0 (F1t d g (by have := h.lt m; omega))
  · exact o_sortedTI (zi_perm h.perm) (zi_range_sorted n)
  · show (if small62 (n : Int) && decide ((n : Int).toNat ≤ line) then some (PyData.list ((List.range (n : Int).toNat).map fun (i : Nat) => .int (0 + i))) else none) = _
    rw [small62_s (by omega) (by omega), show (n : Int).toNat = n by omega, zn_map]
    have : n ≤ line := line_ge n (by omega)
    simp [this]
  · unfold zn; rw [eq_L]; simp
theorem F12 (d : Nat) {n : Nat} {r : List Nat} (g : G) (h : Row n r) : Fk tab cst (d + 4) 12 [.tuple (zn r)] g = some (.none, g) := by
  rw [f12 (d + 3) _ g rfl]; exact b12_run (F11 d g h)
theorem F13 (d : Nat) {p q s : Nat} (g : G) (h : [p, q, s].Perm [0, 1, 2]) : Fk tab cst (d + 3) 13 [.tuple (zn [p, q, s])] g = some (.bool true, g) := by
  rw [f13 (d + 2) _ g rfl]
  refine b13_run (bs := [p, q, s].map fun _ => .bool true) (F2 (d + 1) g (by rw [zn_len]; exact ⟨Int.le_refl _, Int.le_refl _⟩)) ?_ (all_true _) ?_ ?_
  · exact ev_compM (vs := [p, q, s]) (enc := fun x : Nat => .int (x : Int)) (ds := [.tuple (zn [p, q, s])]) (fun _ => .bool true) (by simp) (by rw [it_valT, zn_map]) (line_ge 3 (by decide)) fun x m => t13_0 (F1t d g (by
      have := h.mem_iff.mp m
      simp at this
      omega))
  · exact o_sortedTI (ms := [0, 1, 2]) (zi_perm (s := [0, 1, 2]) h) (by decide)
  · exact (eq_L [0, 1, 2] [0, 1, 2]).trans (by simp)
/-! ### a row turned over -/
theorem w16_turn {F : Fns} {n : Nat} {g : G} {s0 y2 y3 : Sl} {xs : List D} {i : Int} {k : Nat} (hk : k < xs.length) : (bindTg (.tp [2, 3]) (.tuple [.int i, .int k]) ([s0, .ow (.list xs), y2, y3], g)).bind (fun s1 => exs F n w16_0 s1) = some (.nx, ([s0, .ow (.list (xs.set k (.int i))), .sh (.int i), .sh (.int k)], g)) := by
  have e := ex_setIn (F := F) (n := n) (i := 1) (k := k) (ix := .var 3) (e := .var 2) (s := [s0, .ow (.list xs), .sh (.int i), .sh (.int k)]) (g := g) (xs := xs) (v := .int i) rfl hk (by simp) rfl (by simp)
  simp [w16_0, e]
theorem l16_run {F : Fns} {n : Nat} {g : G} {s0 : Sl} : ∀ (r found : List Nat) (k : Nat) (y2 y3 : Sl), (∀ x ∈ r, x < found.length) → ∃ y2' y3', loopL (fun v s => (bindTg (.tp [2, 3]) v s).bind fun s1 => exs F n w16_0 s1) (enumI k (zn r)) ([s0, .ow (.list (zn found)), y2, y3], g) = some (.nx, ([s0, .ow (.list (zn (exchK found k r))), y2', y3'], g))
  | [], found, k, y2, y3, _ => ⟨y2, y3, rfl⟩
  | x :: r, found, k, y2, y3, h => by
    have hx := h x List.mem_cons_self
    obtain ⟨y2', y3', e⟩ := l16_run r (found.set x k) (k + 1) (.sh (.int k)) (.sh (.int x)) fun y m => by rw [List.length_set]; exact h y (List.mem_cons_of_mem _ m)
    refine ⟨y2', y3', ?_⟩
    rw [zn_cons, enumI_cons, loopL_nx (w16_turn (by rw [zn_len]; exact hx)), ← zn_set]
    exact e
theorem b16_run {F : Fns} {n : Nat} {g : G} {xs zs ts : List D} {y2 y3 : Sl} {m : Int} (hl : (xs.length : Int) = m) (h : F 12 [.tuple xs] g = some (.none, g)) (hm : opS .mul [.list [.int 0], .int m] = some (.list zs)) (hz : lfs zs = true)
    (e : ex F n l16_0 ([.sh (.tuple xs), .ow (.list zs), .no, .no], g) = some (.nx, ([.sh (.tuple xs), .ow (.list ts), y2, y3], g))) (ht : lfs ts = true) : Iv.run F n 4 false b16 [.tuple xs] g = some (.tuple ts, g) := by
  refine run_ret (s := [.sh (.tuple xs), .no, .no, .no]) (s' := [.sh (.tuple xs), .ow (.list ts), y2, y3]) rfl ?_
  unfold b16
  rw [exs_nx (s1 := ([.sh (.tuple xs), .no, .no, .no], g)) (by simp [h])]
  have e1 : ev F (.op .mul [(.op .lstD [(.cst (.int 0))]), (.op .len [(.var 0)])]) ([.sh (.tuple xs), .no, .no, .no], g) = some (.list zs, ([.sh (.tuple xs), .no, .no, .no], g)) := by
    exact ev_op2 (v := .list [.int 0]) (by simp) (ev_op1 (ev_vs rfl) (by rw [o_lenT, hl])) hm
  rw [exs_nx (s1 := ([.sh (.tuple xs), .ow (.list zs), .no, .no], g)) (by rw [ex_asg, e1]; simp [hz])]
  rw [exs_nx e]
  refine exs_ret ?_
  simp [ht]
theorem F16 (d : Nat) {n : Nat} {r : List Nat} (g : G) (h : Row n r) : Fk tab cst (d + 5) 16 [.tuple (zn r)] g = some (.tuple (zn (exch r)), g) := by
  have hl := h.len
  have hn := h.small
  rw [f16 (d + 4) _ g rfl]
  obtain ⟨y2, y3, e⟩ := l16_run (F := Fk tab cst (d + 4)) (n := 1000000) (g := g) (s0 := .sh (.tuple (zn r))) r (List.replicate r.length 0) 0 .no .no fun x m => by rw [List.length_replicate, hl]; exact h.lt m
  refine b16_run (zs := zn (List.replicate r.length 0)) (y2 := y2) (y3 := y3) (m := (r.length : Nat)) (by rw [zn_len]) (F12 d g h) ?_ (zn_lfs _) ?_ (zn_lfs _)
  · rw [mulL0 (by omega) (by omega), zn_map, List.map_replicate]; rfl
  · unfold l16_0
    rw [ex_for (ds := [.tuple (zn r)]) (vs := enumI 0 (zn r)) (s1 := ([.sh (.tuple (zn r)), .ow (.list (zn (List.replicate r.length 0))), .no, .no], g)) (by simp) (by rw [it_enumT, enumS_eq])]
    exact e
end K19
set_option Elab.async false
set_option linter.all false
set_option maxRecDepth 100000
/-! K19R6: runs of k19's defs: all rows that avoid three. -/
namespace K19
open PySem Iv
def T (r : List Nat) : D := .tuple (zn r)
def rowsD (rs : List (List Nat)) : List D := rs.map T
theorem lfT (r : List Nat) : lf (T r) = true := zn_lfs r
theorem rowsD_len (rs : List (List Nat)) : (rowsD rs).length = rs.length := List.length_map _
theorem rowsD_lfs : ∀ rs, lfs (rowsD rs) = true
  | [] => rfl
  | r :: rs => by
    show (lf (T r) && lfs (rowsD rs)) = true
    rw [lfT, rowsD_lfs rs]; rfl
section
variable {F : Fns} {n : Nat} {g : G} {s0 y2 y3 y4 y7 y8 : Sl}
theorem t15 {x o : Int} {s1 : Sl} {row' : D} : compT F (.nm 8) [(.var 5)] none (.op .add [(.var 8), (.op .int [(.op .ge [(.var 8), (.var 6)])])]) ([s0, s1, y2, y3, y4, .sh row', .sh (.int x), y7, y8], g) (.int o) g = some (some (.int (o + if x ≤ o then 1 else 0)), g) := by
  by_cases c : x ≤ o <;> simp [compT_none, c]
theorem c15_ev {x : Nat} {s1 : Sl} {r : List Nat} (hl : r.length ≤ 1000) : ev F c15_0 ([s0, s1, y2, y3, y4, .sh (.tuple (zn r)), .sh (.int x), y7, y8], g) = some (.list (zn (r.map fun o => o + if x ≤ o then 1 else 0)), ([s0, s1, y2, y3, y4, .sh (.tuple (zn r)), .sh (.int x), y7, y8], g)) := by
  have e : zn (r.map fun o => o + if x ≤ o then 1 else 0) = r.map fun o : Nat => PyData.int ((o : Int) + if (x : Int) ≤ o then 1 else 0) := by
    rw [zn_map, List.map_map]
    refine List.map_congr_left fun o _ => ?_
    show PyData.int ((o + if x ≤ o then 1 else 0 : Nat) : Int) = _
    by_cases c : x ≤ o
    · rw [if_pos c, if_pos (by omega)]; rfl
    · rw [if_neg c, if_neg (by omega)]; rfl
  rw [e]
  exact ev_compM (vs := r) (enc := fun x : Nat => .int (x : Int)) (ds := [.tuple (zn r)]) (fun o : Nat => .int ((o : Int) + if (x : Int) ≤ o then 1 else 0)) (by simp) (by rw [it_valT, zn_map]) (le_line (by omega)) fun o m => t15
theorem w15_turn {x : Int} {ts fs acc : List D} {xs : List D} {y6 : Sl} {v : D} {b : Bool}
    (hc : ev F c15_0 ([s0, .sh (.tuple ts), y2, y3, .ow (.list acc), .sh (.tuple xs), .sh (.int x), y7, y8], g) = some (.list fs, ([s0, .sh (.tuple ts), y2, y3, .ow (.list acc), .sh (.tuple xs), .sh (.int x), y7, y8], g)))
    (hf : lfs fs = true) (hl : fs.length + 1 ≤ line) (h14 : F 14 [.tuple (fs ++ [.int x]), .tuple ts] g = some (v, g)) (hi : opS .is_ [v, .none] = some (.bool b)) (ha : acc.length < line) :
    (bindTg (.nm 6) (.int x) ([s0, .sh (.tuple ts), y2, y3, .ow (.list acc), .sh (.tuple xs), y6, y7, y8], g)).bind (fun s1 => exs F n w15_0 s1) =
      some (.nx, ([s0, .sh (.tuple ts), y2, y3, .ow (.list (if b = true then acc ++ [.tuple (fs ++ [.int x])] else acc)), .sh (.tuple xs), .sh (.int x), .sh (.tuple (fs ++ [.int x])), y8], g)) := by
  cases b <;> simp [w15_0, hc, hf, hl, h14, hi, ha]
theorem l15_in {ts : List D} {r : List Nat} {p q s : Nat} (hr : r.length ≤ 100) (hts : ts = zn [p, q, s]) (h14 : ∀ f : List Nat, f.length ≤ 1000 → ∃ v, F 14 [.tuple (zn f), .tuple (zn [p, q, s])] g = some (v, g) ∧ opS .is_ [v, .none] = some (.bool (!hasT p q s f))) :
    ∀ (xs : List Nat) (acc : List (List Nat)) (y6 y7 : Sl), acc.length + xs.length ≤ 1000000 → ∃ y6' y7', loopL (fun v s => (bindTg (.nm 6) v s).bind fun s1 => exs F n w15_0 s1) (xs.map fun x : Nat => .int (x : Int)) ([s0, .sh (.tuple ts), y2, y3, .ow (.list (rowsD acc)), .sh (T r), y6, y7, y8], g) =
      some (.nx, ([s0, .sh (.tuple ts), y2, y3, .ow (.list (rowsD (acc ++ (xs.map (newR r)).filter fun f => !hasT p q s f))), .sh (T r), y6', y7', y8], g))
  | [], acc, y6, y7, _ => ⟨y6, y7, by simp [loopL_nil]⟩
  | x :: xs, acc, y6, y7, hl => by
    subst hts
    have hl' : acc.length + xs.length + 1 ≤ 1000000 := by simpa [Nat.add_assoc] using hl
    obtain ⟨v, e1, e2⟩ := h14 (newR r x) (by rw [newR_len]; omega)
    have ez : zn (newR r x) = zn (r.map fun o => o + if x ≤ o then 1 else 0) ++ [.int x] := zn_snoc _ _
    rw [ez] at e1
    have w := w15_turn (F := F) (n := n) (g := g) (s0 := s0) (y2 := y2) (y3 := y3) (y7 := y7) (y8 := y8) (x := (x : Int)) (ts := zn [p, q, s]) (xs := zn r) (acc := rowsD acc) (y6 := y6) (c15_ev (by omega)) (zn_lfs _) (by rw [zn_len, List.length_map]; exact line_ge _ (by omega)) e1 e2 (by rw [rowsD_len]; exact lt_line (by omega))
    rw [List.map_cons, List.map_cons, List.filter_cons]
    cases hb : (!hasT p q s (newR r x)) with
    | true =>
      obtain ⟨y6', y7', e⟩ := l15_in (r := r) (by omega) rfl h14 xs (acc ++ [newR r x]) (.sh (.int x)) (.sh (T (newR r x))) (by simp; omega)
      refine ⟨y6', y7', ?_⟩
      rw [hb] at w
      rw [loopL_nx w, if_pos rfl, if_pos rfl, show acc ++ newR r x :: List.filter (fun f => !hasT p q s f) (List.map (newR r) xs) = (acc ++ [newR r x]) ++ List.filter (fun f => !hasT p q s f) (List.map (newR r) xs) by simp, ← e, ← ez]
      unfold rowsD
      rw [List.map_append]; rfl
    | false =>
      obtain ⟨y6', y7', e⟩ := l15_in (r := r) (by omega) rfl h14 xs acc (.sh (.int x)) (.sh (T (newR r x))) (by omega)
      refine ⟨y6', y7', ?_⟩
      rw [hb] at w
      rw [loopL_nx w, if_neg Bool.false_ne_true, if_neg Bool.false_ne_true, ← e, ← ez]
      rfl
theorem w15_1_turn {a : D} {y6 : Sl} {s1 : Sl} {acc : Sl} {st : St} (e : ex F n l15_0 ([s0, s1, y2, y3, acc, .sh a, y6, y7, y8], g) = some (.nx, st)) : (bindTg (.nm 5) a ([s0, s1, y2, y3, acc, y5, y6, y7, y8], g)).bind (fun s1 => exs F n w15_1 s1) = some (.nx, st) := by
  simp [w15_1, e]
theorem zv15 {s1 y6 : Sl} {xs : List D} {m : Int} (h : (xs.length : Int) + 1 = m) : evs F [(.op .add [(.op .len [(.var 5)]), (.cst (.int 1))])] ([s0, s1, y2, y3, y4, .sh (.tuple xs), y6, y7, y8], g) = some ([.int m], ([s0, s1, y2, y3, y4, .sh (.tuple xs), y6, y7, y8], g)) := by
  simp [h]
theorem it0 {m : Nat} (h : m ≤ 1000) : itS .rng [.int (m : Int)] = some ((List.range m).map fun x : Nat => .int (x : Int)) := by
  rw [it_rng, small62_s (by omega) (by omega)]
  show some (rangeS 0 m) = _
  unfold rangeS
  congr 1
  exact List.map_congr_left fun l _ => by rw [Int.zero_add]
theorem l15_mid {ts : List D} {p q s : Nat} (hts : ts = zn [p, q, s]) (h14 : ∀ f : List Nat, f.length ≤ 1000 → ∃ v, F 14 [.tuple (zn f), .tuple (zn [p, q, s])] g = some (v, g) ∧ opS .is_ [v, .none] = some (.bool (!hasT p q s f))) :
    ∀ (rs acc : List (List Nat)) (y5 y6 y7 : Sl), (∀ r ∈ rs, r.length ≤ 20) → acc.length + rs.length * 100 ≤ 1000000 → ∃ y5' y6' y7', loopL (fun v s => (bindTg (.nm 5) v s).bind fun s1 => exs F n w15_1 s1) (rowsD rs) ([s0, .sh (.tuple ts), y2, y3, .ow (.list (rowsD acc)), y5, y6, y7, y8], g) =
      some (.nx, ([s0, .sh (.tuple ts), y2, y3, .ow (.list (rowsD (acc ++ rs.flatMap (stepR p q s)))), y5', y6', y7', y8], g))
  | [], acc, y5, y6, y7, _, _ => ⟨y5, y6, y7, by simp [rowsD, loopL_nil]⟩
  | r :: rs, acc, y5, y6, y7, hr, hl => by
    have h1 := hr r List.mem_cons_self
    have hl' : acc.length + rs.length * 100 + 100 ≤ 1000000 := by simp at hl; omega
    obtain ⟨y6', y7', e⟩ := l15_in (F := F) (n := n) (g := g) (s0 := s0) (y2 := y2) (y3 := y3) (y8 := y8) (ts := ts) (r := r) (p := p) (q := q) (s := s) (by omega) hts h14 (List.range (r.length + 1)) acc y6 y7 (by rw [List.length_range]; omega)
    have hsl : (stepR p q s r).length ≤ r.length + 1 := by
      unfold stepR
      refine Nat.le_trans (List.length_filter_le _ _) ?_
      simp
    obtain ⟨y5'', y6'', y7'', e2⟩ := l15_mid hts h14 rs (acc ++ stepR p q s r) (.sh (T r)) y6' y7' (fun u m => hr u (List.mem_cons_of_mem _ m)) (by rw [List.length_append]; omega)
    refine ⟨y5'', y6'', y7'', ?_⟩
    show loopL _ (T r :: rowsD rs) _ = _
    have e0 : ex F n l15_0 ([s0, .sh (.tuple ts), y2, y3, .ow (.list (rowsD acc)), .sh (T r), y6, y7, y8], g) = some (.nx, ([s0, .sh (.tuple ts), y2, y3, .ow (.list (rowsD (acc ++ stepR p q s r))), .sh (T r), y6', y7', y8], g)) := by
      unfold l15_0
      refine Eq.trans (ex_for (ds := [.int ((r.length + 1 : Nat) : Int)]) (vs := (List.range (r.length + 1)).map fun x : Nat => .int (x : Int)) (s1 := ([s0, .sh (.tuple ts), y2, y3, .ow (.list (rowsD acc)), .sh (T r), y6, y7, y8], g)) (zv15 (by rw [zn_len]; rfl)) (it0 (by omega))) ?_
      exact e
    refine Eq.trans (loopL_nx (w15_1_turn e0)) ?_
    rw [e2, List.flatMap_cons, List.append_assoc]
theorem w15_2_turn {k : D} {ts xs acc : List D} {z0 y5 y6 y5' y6' y7' y8' : Sl}
    (e : ex F n l15_1 ([s0, .sh (.tuple ts), .ow (.list xs), .sh k, .ow (.list []), y5, y6, y7, y8], g) = some (.nx, ([s0, .sh (.tuple ts), .sh (.list xs), .sh k, .ow (.list acc), y5', y6', y7', y8'], g))) :
    (bindTg (.nm 3) k ([s0, .sh (.tuple ts), .ow (.list xs), y3, z0, y5, y6, y7, y8], g)).bind (fun s1 => exs F n w15_2 s1) = some (.nx, ([s0, .sh (.tuple ts), .ow (.list acc), .sh k, .no, y5', y6', y7', y8'], g)) := by
  simp [w15_2, e]
theorem l15_out {p q s : Nat} (h14 : ∀ f : List Nat, f.length ≤ 1000 → ∃ v, F 14 [.tuple (zn f), .tuple (zn [p, q, s])] g = some (v, g) ∧ opS .is_ [v, .none] = some (.bool (!hasT p q s f))) {N : Nat} (hN : N ≤ 20) (hl : ∀ k, k ≤ N → (avR p q s k).length ≤ 1000) :
    ∀ (m k : Nat) (y3 y4 y5 y6 y7 : Sl), k + m = N → ∃ y3' y4' y5' y6' y7', loopL (fun v s => (bindTg (.nm 3) v s).bind fun s1 => exs F n w15_2 s1) (rangeS (k : Int) m) ([s0, .sh (.tuple (zn [p, q, s])), .ow (.list (rowsD (avR p q s k))), y3, y4, y5, y6, y7, .no], g) =
      some (.nx, ([s0, .sh (.tuple (zn [p, q, s])), .ow (.list (rowsD (avR p q s N))), y3', y4', y5', y6', y7', .no], g))
  | 0, k, y3, y4, y5, y6, y7, h => by
    have : k = N := by omega
    subst this
    exact ⟨y3, y4, y5, y6, y7, rfl⟩
  | m + 1, k, y3, y4, y5, y6, y7, h => by
    obtain ⟨y5', y6', y7', e⟩ := l15_mid (F := F) (n := n) (g := g) (s0 := s0) (y2 := .sh (.list (rowsD (avR p q s k)))) (y3 := .sh (.int (k : Int))) (y8 := .no) (ts := zn [p, q, s]) rfl h14 (avR p q s k) [] y5 y6 y7 (fun r m => by rw [avR_len p q s k r m]; omega) (by have := hl k (by omega); simp; omega)
    obtain ⟨z3, z4, z5, z6, z7, e2⟩ := l15_out h14 hN hl m (k + 1) (.sh (.int (k : Int))) .no y5' y6' y7' (by omega)
    refine ⟨z3, z4, z5, z6, z7, ?_⟩
    have e0 : ex F n l15_1 ([s0, .sh (.tuple (zn [p, q, s])), .ow (.list (rowsD (avR p q s k))), .sh (.int (k : Int)), .ow (.list []), y5, y6, y7, .no], g) = some (.nx, ([s0, .sh (.tuple (zn [p, q, s])), .sh (.list (rowsD (avR p q s k))), .sh (.int (k : Int)), .ow (.list (rowsD (avR p q s (k + 1)))), y5', y6', y7', .no], g)) := by
      unfold l15_1
      rw [ex_for (ds := [.list (rowsD (avR p q s k))]) (vs := rowsD (avR p q s k)) (s1 := ([s0, .sh (.tuple (zn [p, q, s])), .ow (.list (rowsD (avR p q s k))), .sh (.int (k : Int)), .ow (.list []), y5, y6, y7, .no], g)) (by simp) rfl]
      exact e
    rw [rangeS_succ]
    exact Eq.trans (loopL_nx (w15_2_turn e0)) e2
theorem b15_run {x : Int} {ts xs out : List D} {y3 y4 y5 y6 y7 y8 : Sl} (h3 : F 3 [.int x, .int 8] g = some (.none, g)) (h13 : F 13 [.tuple ts] g = some (.bool true, g))
    (e : ex F n l15_2 ([.sh (.int x), .sh (.tuple ts), .ow (.list [.tuple []]), .no, .no, .no, .no, .no, .no], g) = some (.nx, ([.sh (.int x), .sh (.tuple ts), .ow (.list xs), y3, y4, y5, y6, y7, y8], g))) (hs : opS .sorted [.list xs] = some (.list out)) :
    Iv.run F n 9 false b15 [.int x, .tuple ts] g = some (.list out, g) := by
  refine run_ret (s := [.sh (.int x), .sh (.tuple ts), .no, .no, .no, .no, .no, .no, .no]) (s' := [.sh (.int x), .sh (.tuple ts), .ow (.list xs), y3, y4, y5, y6, y7, y8]) rfl ?_
  unfold b15
  rw [exs_nx (s1 := ([.sh (.int x), .sh (.tuple ts), .no, .no, .no, .no, .no, .no, .no], g)) (by simp [h3])]
  rw [exs_nx (s1 := ([.sh (.int x), .sh (.tuple ts), .no, .no, .no, .no, .no, .no, .no], g)) (by simp [h13])]
  rw [exs_nx (s1 := ([.sh (.int x), .sh (.tuple ts), .ow (.list [.tuple []]), .no, .no, .no, .no, .no, .no], g)) (by simp)]
  rw [exs_nx e]
  refine exs_ret ?_
  rw [ex_retS, ev_op1 (ev_vs rfl) hs]
  simp
end
theorem F15 (d n : Nat) {p q s : Nat} (g : G) (hn : 1 ≤ n ∧ n ≤ 8) (hp : [p, q, s].Perm [0, 1, 2]) (hl : ∀ k, k ≤ n → (avR p q s k).length ≤ 1000) (h0 : avR p q s n ≠ []) :
    ∃ rs, Fk tab cst (d + 4) 15 [.int n, T [p, q, s]] g = some (.list (rowsD rs), g) ∧ rs.Perm (avR p q s n) := by
  obtain ⟨rs, e1, e2⟩ := o_sortedLT zi (avR p q s n) (fun r m z => by
    have := avR_len p q s n r m
    rw [← zi_len, z] at this
    simp at this
    omega) h0
  obtain ⟨y3, y4, y5, y6, y7, e⟩ := l15_out (F := Fk tab cst (d + 3)) (n := 1000000) (g := g) (s0 := .sh (.int n)) (p := p) (q := q) (s := s) (fun f hf => F14 (d + 2) f p q s g hf) (N := n) (by omega) hl n 0 .no .no .no .no .no (by omega)
  refine ⟨rs, ?_, e2⟩
  rw [f15 (d + 3) _ g rfl]
  refine b15_run (xs := rowsD (avR p q s n)) (y3 := y3) (y4 := y4) (y5 := y5) (y6 := y6) (y7 := y7) (y8 := .no) (F3 d g (by omega)) (F13 d g hp) ?_ e1
  unfold l15_2
  rw [ex_for (ds := [.int n]) (vs := rangeS 0 n) (s1 := ([.sh (.int n), .sh (.tuple (zn [p, q, s])), .ow (.list [.tuple []]), .no, .no, .no, .no, .no, .no], g)) (by simp) (by rw [it_rng, small62_s (by omega) (by omega)]; rfl)]
  exact e
end K19
set_option Elab.async false
set_option linter.all false
set_option maxRecDepth 100000
/-! K19R7: the rows' half of the law. -/
namespace K19
open PySem Iv
@[simp] theorem o_tupTT (xs : List D) : opS .tuple [.tuple xs] = some (.tuple xs) := (rfl)
section
variable {F : Fns} {n : Nat} {g : G}
theorem t17 {x o v : D} {b : Bool} {s0 s1 y3 : Sl} (h14 : F 14 [x, o] g = some (v, g)) (hi : opS .is_ [v, .none] = some (.bool b)) : compT F (.nm 3) [(.call 15 none [(.var 0), (.var 1)])] (some (.op .is_ [(.call 14 none [(.var 3), (.var 2)]), (.cst .none)])) (.var 3) ([s0, s1, .sh o, y3], g) x g = some (if b = true then some x else none, g) := by
  cases b <;> simp [compT_some, h14, hi]
theorem b17_run {a b : D} {x : Int} {out : List D} {w : Int} (h1 : F 13 [a] g = some (.bool true, g)) (h2 : F 13 [b] g = some (.bool true, g)) (hc : ev F c17_0 ([.sh (.int x), .sh a, .sh b, .no], g) = some (.list out, ([.sh (.int x), .sh a, .sh b, .no], g))) (hw : (out.length : Int) = w) : Iv.run F n 4 false b17 [.int x, a, b] g = some (.int w, g) := by
  refine run_ret (s := [.sh (.int x), .sh a, .sh b, .no]) (s' := [.sh (.int x), .sh a, .sh b, .no]) rfl ?_
  unfold b17
  rw [exs_nx (s1 := ([.sh (.int x), .sh a, .sh b, .no], g)) (by simp [h1, h2])]
  refine exs_ret ?_
  rw [ex_retS, ev_op1 hc (by rw [o_len, hw])]
  simp
end
theorem F17 (d m : Nat) (g : G) (hm : 1 ≤ m ∧ m < 8) : Fk tab cst (d + 5) 17 [.int m, T [0, 1, 2], T [2, 1, 0]] g = some (.int (bothR m : Nat), g) := by
  obtain ⟨rs, e1, e2⟩ := F15 d m g (p := 0) (q := 1) (s := 2) (by omega) (.refl _) (fun k hk => (nLen k (by omega)).2.1) (nLen m (by omega)).2.2.2
  have hlen : rs.length ≤ 1000 := by rw [e2.length_eq]; exact (nLen m (by omega)).2.1
  rw [f17 (d + 4) _ g rfl]
  refine b17_run (out := rs.filterMap fun r => if (!hasT 2 1 0 r) = true then some (T r) else none) (F13 (d + 1) g (.refl _)) (F13 (d + 1) g (by decide)) ?_ ?_
  · exact ev_compF (vs := rs) (enc := T) (ds := [.list (rowsD rs)]) (fun r => if (!hasT 2 1 0 r) = true then some (T r) else none) (by simp [e1]) (by rw [it_valL]; rfl) (le_line (by omega)) fun r hr => by
      obtain ⟨v, q1, q2⟩ := F14 (d + 3) r 2 1 0 g (by rw [avR_len 0 1 2 m r (e2.mem_iff.mp hr)]; omega)
      exact t17 q1 q2
  · rw [fm_length]
    unfold bothR
    rw [(e2.filter _).length_eq]
section
variable {F : Fns} {n : Nat} {g : G} {s0 y3 y4 y5 y6 y7 : Sl}
theorem w32_turn {x y : D} {k : Nat} {u v : Int} {b : Bool} {rs ks : List D} (hx : ∃ xs, x = .tuple xs) (hy : ∃ ys, y = .tuple ys) (h10 : F 10 [x] g = some (.int k, g)) (h16 : F 16 [x] g = some (y, g)) (hq : opS .eq [y, x] = some (.bool b)) (i1 : atI rs k = some (.int u)) (i2 : atI ks k = some (.int v)) (k1 : k < rs.length) (k2 : k < ks.length) :
    (bindTg (.nm 4) x ([s0, .ow (.list rs), .ow (.list ks), y3, y4, y5, y6, y7], g)).bind (fun s1 => exs F n w32_0 s1) = some (.nx, ([s0, .ow (.list (rs.set k (.int (u + 1)))), .ow (.list (ks.set k (.int (v + if b = true then 1 else 0)))), y3, .sh x, .ow (.int k), y6, y7], g)) := by
  obtain ⟨xs, rfl⟩ := hx
  obtain ⟨ys, rfl⟩ := hy
  rw [bind_nm, Option.bind_some]
  unfold w32_0
  show exs F n _ ([s0, .ow (.list rs), .ow (.list ks), y3, .sh (.tuple xs), y5, y6, y7], g) = _
  rw [exs_nx (s1 := ([s0, .ow (.list rs), .ow (.list ks), y3, .sh (.tuple xs), .ow (.int k), y6, y7], g)) (by simp [h10])]
  have e1 := ex_setIn (F := F) (n := n) (i := 1) (k := k) (ix := .var 5) (e := .op .add [(.op .ix [(.var 1), (.var 5)]), (.cst (.int 1))]) (s := [s0, .ow (.list rs), .ow (.list ks), y3, .sh (.tuple xs), .ow (.int k), y6, y7]) (g := g) (xs := rs) (v := .int (u + 1)) rfl k1 (by simp [i1]) rfl (by simp)
  rw [exs_nx e1]
  have e2 := ex_setIn (F := F) (n := n) (i := 2) (k := k) (ix := .var 5) (e := .op .add [(.op .ix [(.var 2), (.var 5)]), (.op .int [(.op .eq [(.op .tuple [(.call 16 none [(.var 4)])]), (.op .tuple [(.var 4)])])])]) (s := [s0, .ow (.list (rs.set k (.int (u + 1)))), .ow (.list ks), y3, .sh (.tuple xs), .ow (.int k), y6, y7]) (g := g) (xs := ks) (v := .int (v + if b = true then 1 else 0)) rfl k2 (by simp [i2, h16, hq]) rfl (by simp)
  exact (exs_nx e2).trans (by rw [exs_nil]; rfl)
theorem upd_map (m k e : Nat) (c : Nat → Nat) : ((List.range m).map c).set k (c k + e) = (List.range m).map fun j => if j = k then c j + e else c j := by
  refine List.ext_getElem (by simp) fun i h1 h2 => ?_
  rw [List.getElem_set]
  by_cases h : k = i
  · subst h; simp
  · have : ¬ i = k := fun z => h z.symm
    simp [h, this]
def cz (m : Nat) (c : Nat → Nat) : List D := zn ((List.range m).map c)
theorem cz_len (m : Nat) (c : Nat → Nat) : (cz m c).length = m := by simp [cz, zn_len]
theorem cz_at {m k : Nat} (c : Nat → Nat) (h : k < m) : atI (cz m c) (k : Int) = some (.int ((c k : Nat) : Int)) := by
  unfold cz
  rw [atI_zn (by simpa using h), List.getD_eq_getElem?_getD]
  simp [h]
theorem cz_set (m k e : Nat) (c : Nat → Nat) : (cz m c).set k (.int ((c k : Int) + e)) = cz m fun j => if j = k then c j + e else c j := by
  unfold cz
  rw [← upd_map, zn_set]
  rfl
theorem rise_le : ∀ (r t : List Nat), (r.foldl insT t).length ≤ t.length + r.length
  | [], t => Nat.le_refl _
  | x :: r, t => by
    rw [List.foldl_cons]
    have := rise_le r (insT t x)
    have := insT_len x t
    simp; omega
theorem l32_run {m : Nat} (h10 : ∀ r, Row m r → F 10 [T r] g = some (.int (rise r : Nat), g)) (h16 : ∀ r, Row m r → F 16 [T r] g = some (T (exch r), g)) :
    ∀ (rs : List (List Nat)) (c1 c2 : Nat → Nat) (y4 y5 : Sl), (∀ r ∈ rs, Row m r) → ∃ y4' y5', loopL (fun v s => (bindTg (.nm 4) v s).bind fun s1 => exs F n w32_0 s1) (rowsD rs) ([s0, .ow (.list (cz (m + 1) c1)), .ow (.list (cz (m + 1) c2)), y3, y4, y5, y6, y7], g) =
      some (.nx, ([s0, .ow (.list (cz (m + 1) fun j => c1 j + (rs.filter fun r => rise r == j).length)), .ow (.list (cz (m + 1) fun j => c2 j + (rs.filter fun r => rise r == j && exch r == r).length)), y3, y4', y5', y6, y7], g))
  | [], c1, c2, y4, y5, _ => ⟨y4, y5, rfl⟩
  | r :: rs, c1, c2, y4, y5, h => by
    have hr := h r List.mem_cons_self
    have hk : rise r < m + 1 := by
      have := rise_le r []
      rw [hr.len] at this
      unfold rise lr
      simp at this; omega
    have hq : opS .eq [T (exch r), T r] = some (.bool (exch r == r)) := by
      unfold T zn
      rw [eq_T]
      congr 2
      have : (zi (exch r) = zi r) ↔ exch r = r := ⟨fun q => by
        have := congrArg (List.map Int.toNat) q
        simpa [zi, Function.comp_def] using this, fun q => by rw [q]⟩
      by_cases q : exch r = r
      · rw [q]; simp
      · have q2 : ¬ zi (exch r) = zi r := fun z => q (this.mp z)
        simp [q, q2]
    have w := w32_turn (F := F) (n := n) (g := g) (s0 := s0) (y3 := y3) (y4 := y4) (y5 := y5) (y6 := y6) (y7 := y7) ⟨_, rfl⟩ ⟨_, rfl⟩ (h10 r hr) (h16 r hr) hq (cz_at c1 hk) (cz_at c2 hk) (by rw [cz_len]; exact hk) (by rw [cz_len]; exact hk)
    obtain ⟨y4', y5', e⟩ := l32_run h10 h16 rs (fun j => if j = rise r then c1 j + 1 else c1 j) (fun j => if j = rise r then c2 j + (if (exch r == r) = true then 1 else 0) else c2 j) (.sh (T r)) (.ow (.int (rise r : Nat))) fun u m => h u (List.mem_cons_of_mem _ m)
    refine ⟨y4', y5', ?_⟩
    refine Eq.trans (loopL_nx w) ?_
    have z1 := cz_set (m + 1) (rise r) 1 c1
    have z2 := cz_set (m + 1) (rise r) (if (exch r == r) = true then 1 else 0) c2
    rw [show (((if (exch r == r) = true then 1 else 0 : Nat)) : Int) = if (exch r == r) = true then 1 else 0 by split <;> rfl] at z2
    rw [show (c1 (rise r) : Int) + 1 = (c1 (rise r) : Int) + ((1 : Nat) : Int) from rfl, z1, z2]
    refine Eq.trans e ?_
    have f1 : (fun j => (if j = rise r then c1 j + 1 else c1 j) + (rs.filter fun r => rise r == j).length) = fun j => c1 j + ((r :: rs).filter fun r => rise r == j).length := funext fun j => by
      rw [List.filter_cons]
      by_cases q : j = rise r
      · subst q; simp; omega
      · have : ¬ rise r = j := fun z => q z.symm
        simp [q, this]
    have f2 : (fun j => (if j = rise r then c2 j + (if (exch r == r) = true then 1 else 0) else c2 j) + (rs.filter fun r => rise r == j && exch r == r).length) = fun j => c2 j + ((r :: rs).filter fun r => rise r == j && exch r == r).length := funext fun j => by
      rw [List.filter_cons]
      by_cases q : j = rise r
      · subst q
        cases exch r == r <;> simp
        omega
      · have : ¬ rise r = j := fun z => q z.symm
        simp [q, this]
    rw [f1, f2]
theorem w32b_a {x b a : Int} {s1 s2 : Sl} (hm : mulOk 2 b = true) (c : x ≤ 2 * b) (h : F 30 [.int b, .int (x - b)] g = some (.int a, g)) : ex F n (.asg 6 (.ifx (.op .ge [(.op .mul [(.cst (.int 2)), (.var 5)]), (.var 0)]) (.call 30 none [(.var 5), (.op .sub [(.var 0), (.var 5)])]) (.cst (.int 0)))) ([.sh (.int x), s1, s2, y3, y4, .sh (.int b), y6, y7], g) = some (.nx, ([.sh (.int x), s1, s2, y3, y4, .sh (.int b), .ow (.int a), y7], g)) := by
  simp [hm, c, h]
theorem w32b_b {x b : Int} {s1 s2 : Sl} (hm : mulOk 2 b = true) (c : ¬ x ≤ 2 * b) : ex F n (.asg 6 (.ifx (.op .ge [(.op .mul [(.cst (.int 2)), (.var 5)]), (.var 0)]) (.call 30 none [(.var 5), (.op .sub [(.var 0), (.var 5)])]) (.cst (.int 0)))) ([.sh (.int x), s1, s2, y3, y4, .sh (.int b), y6, y7], g) = some (.nx, ([.sh (.int x), s1, s2, y3, y4, .sh (.int b), .ow (.int 0), y7], g)) := by
  simp [hm, c]
theorem w32b_c {b a : Int} {rs ks : List D} (i1 : atI rs b = some (.int (a * a))) (i2 : atI ks b = some (.int a)) (ht : mulOk a a = true) : ex F n (.ite (.or (.op .ne [(.op .ix [(.var 1), (.var 5)]), (.op .mul [(.var 6), (.var 6)])]) (.op .ne [(.op .ix [(.var 2), (.var 5)]), (.var 6)])) [.ret (.cst (.bool false))] []) ([s0, .ow (.list rs), .ow (.list ks), y3, y4, .sh (.int b), .ow (.int a), y7], g) = some (.nx, ([s0, .ow (.list rs), .ow (.list ks), y3, y4, .sh (.int b), .ow (.int a), y7], g)) := by
  simp [i1, i2, ht]
theorem w32b_turn {m k : Nat} {t : Nat} {rs ks : List D} (i1 : atI rs k = some (.int ((t * t : Nat) : Int))) (i2 : atI ks k = some (.int (t : Nat))) (h : (m ≤ 2 * k ∧ F 30 [.int k, .int ((m : Int) - k)] g = some (.int (t : Nat), g)) ∨ (2 * k < m ∧ t = 0)) (ht : mulOk (t : Nat) (t : Nat) = true) :
    (bindTg (.nm 5) (.int k) ([.sh (.int m), .ow (.list rs), .ow (.list ks), y3, y4, y5, y6, y7], g)).bind (fun s1 => exs F n w32_1 s1) = some (.nx, ([.sh (.int m), .ow (.list rs), .ow (.list ks), y3, y4, .sh (.int k), .ow (.int (t : Nat)), y7], g)) := by
  have hm : mulOk 2 (k : Int) = true := mulOk_l (by decide) (by decide)
  rw [Int.natCast_mul] at i1
  have e2 := w32b_c (F := F) (n := n) (g := g) (s0 := .sh (.int m)) (y3 := y3) (y4 := y4) (y7 := y7) i1 i2 ht
  have e1 : ex F n (.asg 6 (.ifx (.op .ge [(.op .mul [(.cst (.int 2)), (.var 5)]), (.var 0)]) (.call 30 none [(.var 5), (.op .sub [(.var 0), (.var 5)])]) (.cst (.int 0)))) ([.sh (.int m), .ow (.list rs), .ow (.list ks), y3, y4, .sh (.int k), y6, y7], g) = some (.nx, ([.sh (.int m), .ow (.list rs), .ow (.list ks), y3, y4, .sh (.int k), .ow (.int (t : Nat)), y7], g)) := by
    rcases h with ⟨c, h⟩ | ⟨c, h⟩
    · exact w32b_a hm (by omega) h
    · subst h
      exact w32b_b hm (by omega)
  exact Eq.trans (exs_nx e1) (Eq.trans (exs_nx e2) exs_nil)
theorem l32b_run {m : Nat} {c1 c2 t : Nat → Nat} (hm : m ≤ 20) (h1 : ∀ j, j < m + 1 → c1 j = t j * t j ∧ c2 j = t j ∧ t j ≤ 2 ^ 30) (h30 : ∀ j, j < m + 1 → (m ≤ 2 * j ∧ F 30 [.int j, .int ((m : Int) - j)] g = some (.int (t j : Nat), g)) ∨ (2 * j < m ∧ t j = 0)) :
    ∀ (xs : List Nat) (y5 y6 : Sl), (∀ x ∈ xs, x < m + 1) → ∃ y5' y6', loopL (fun v s => (bindTg (.nm 5) v s).bind fun s1 => exs F n w32_1 s1) (xs.map fun x : Nat => .int (x : Int)) ([.sh (.int m), .ow (.list (cz (m + 1) c1)), .ow (.list (cz (m + 1) c2)), y3, y4, y5, y6, y7], g) =
      some (.nx, ([.sh (.int m), .ow (.list (cz (m + 1) c1)), .ow (.list (cz (m + 1) c2)), y3, y4, y5', y6', y7], g))
  | [], y5, y6, _ => ⟨y5, y6, rfl⟩
  | x :: xs, y5, y6, h => by
    have hx := h x List.mem_cons_self
    obtain ⟨q1, q2, q3⟩ := h1 x hx
    obtain ⟨y5', y6', e⟩ := l32b_run hm h1 h30 xs (.sh (.int (x : Int))) (.ow (.int (t x : Nat))) fun u m => h u (List.mem_cons_of_mem _ m)
    refine ⟨y5', y6', ?_⟩
    rw [List.map_cons]
    exact Eq.trans (loopL_nx (w32b_turn (by rw [cz_at c1 hx, q1]) (by rw [cz_at c2 hx, q2]) (h30 x hx) (mulOk_n q3 q3 (by decide)))) e
theorem t32 {u : Int} {x s3' : D} {s1 s2 s5 s6 s7 : Sl} (h : F 10 [x] g = some (.int u, g)) : compT F (.nm 4) [(.var 3)] (some (.op .lt [(.call 10 none [(.var 4)]), (.cst (.int 3))])) (.cst (.int 1)) ([s0, s1, s2, .sh s3', y4, s5, s6, s7], g) x g = some (if u < 3 then some (.int 1) else none, g) := by
  by_cases c : u < 3 <;> simp [compT_some, h, c]
theorem b32_run {x : Int} {zs rs c1 c2 out : List D} {nr nf : Int} {y4 y5 y5' y6' : Sl}
    (hm : ev F (.op .mul [(.op .lstD [(.cst (.int 0))]), (.op .add [(.var 0), (.cst (.int 1))])]) ([.sh (.int x), .no, .no, .no, .no, .no, .no, .no], g) = some (.list zs, ([.sh (.int x), .no, .no, .no, .no, .no, .no, .no], g))) (hz : lfs zs = true)
    (h15 : F 15 [.int x, .tuple [.int 2, .int 1, .int 0]] g = some (.list rs, g))
    (e1 : ex F n l32_0 ([.sh (.int x), .ow (.list zs), .ow (.list zs), .ow (.list rs), .no, .no, .no, .no], g) = some (.nx, ([.sh (.int x), .ow (.list c1), .ow (.list c2), .sh (.list rs), y4, y5, .no, .no], g)))
    (e2 : ex F n l32_1 ([.sh (.int x), .ow (.list c1), .ow (.list c2), .sh (.list rs), y4, y5, .no, .no], g) = some (.nx, ([.sh (.int x), .ow (.list c1), .ow (.list c2), .sh (.list rs), y4, y5', y6', .no], g)))
    (hc : ev F c32_0 ([.sh (.int x), .ow (.list c1), .ow (.list c2), .sh (.list rs), y4, y5', y6', .no], g) = some (.list out, ([.sh (.int x), .ow (.list c1), .ow (.list c2), .sh (.list rs), y4, y5', y6', .no], g))) (ho : (out.length : Int) = nf) (hr : (rs.length : Int) = nr)
    (h6 : F 6 [.int x] g = some (.int nr, g)) (h17 : F 17 [.int x, .tuple [.int 0, .int 1, .int 2], .tuple [.int 2, .int 1, .int 0]] g = some (.int nf, g)) : Iv.run F n 8 false b32 [.int x] g = some (.bool true, g) := by
  refine run_ret (s := [.sh (.int x), .no, .no, .no, .no, .no, .no, .no]) (s' := [.sh (.int x), .ow (.list c1), .ow (.list c2), .sh (.list rs), y4, y5', y6', .ow (.int nf)]) rfl ?_
  unfold b32
  rw [exs_nx (s1 := ([.sh (.int x), .ow (.list zs), .ow (.list zs), .no, .no, .no, .no, .no], g)) (by
    rw [ex_par, evs_cs, hm, Option.bind_some, evs_cs, hm, Option.bind_some, evs_nil, Option.map_some, Option.map_some, Option.bind_some]
    simp [hz])]
  rw [exs_nx (s1 := ([.sh (.int x), .ow (.list zs), .ow (.list zs), .ow (.list rs), .no, .no, .no, .no], g)) (by simp [h15])]
  rw [exs_nx e1, exs_nx e2]
  rw [exs_nx (s1 := ([.sh (.int x), .ow (.list c1), .ow (.list c2), .sh (.list rs), y4, y5', y6', .ow (.int nf)], g)) (by
    rw [ex_asg, ev_op1 hc (by rw [o_len, ho])]
    simp)]
  refine exs_ret ?_
  simp [hr, h6, h17]
end
theorem tab_le (n j : Nat) (h : n ≤ 20) : tabR n j ≤ 2 ^ 30 := by
  unfold tabR
  split
  · exact Nat.le_trans (Nat.le_trans (Nat.sub_le _ _) (Cf_le _ _)) (Nat.pow_le_pow_right (by decide) (by omega))
  · exact Nat.zero_le _
theorem F32 (d m : Nat) (g : G) (hm : 1 ≤ m ∧ m < 8) : Fk tab cst (d + 6) 32 [.int m] g = some (.bool true, g) := by
  obtain ⟨rs, e1, e2⟩ := F15 (d + 1) m g (p := 2) (q := 1) (s := 0) (by omega) (by decide) (fun k hk => (nLen k (by omega)).1) (nLen m (by omega)).2.2.1
  have hlen : rs.length ≤ 1000 := by rw [e2.length_eq]; exact (nLen m (by omega)).1
  obtain ⟨n1, n2, n3⟩ := nRows m (by omega)
  have hrow : ∀ r ∈ rs, Row m r := fun r hr => by
    have h := List.all_eq_true.mp (nOk m (by omega)).1 r (e2.mem_iff.mp hr)
    exact ⟨List.isPerm_iff.mp h, by omega⟩
  have f0 : ∀ j, (rs.filter fun r => rise r == j).length = cntR m j := fun j => (e2.filter _).length_eq
  have f1 : ∀ j, (rs.filter fun r => rise r == j && exch r == r).length = fixR m j := fun j => (e2.filter _).length_eq
  obtain ⟨y4, y5, l1⟩ := l32_run (F := Fk tab cst (d + 5)) (n := 1000000) (g := g) (s0 := .sh (.int m)) (y3 := .sh (.list (rowsD rs))) (y6 := .no) (y7 := .no) (m := m) (fun r hr => F10 (d + 2) g hr) (fun r hr => F16 d g hr) rs (fun _ => 0) (fun _ => 0) .no .no hrow
  obtain ⟨y5', y6', l2⟩ := l32b_run (F := Fk tab cst (d + 5)) (n := 1000000) (g := g) (y3 := .sh (.list (rowsD rs))) (y4 := y4) (y7 := .no) (m := m) (c1 := fun j => 0 + (rs.filter fun r => rise r == j).length) (c2 := fun j => 0 + (rs.filter fun r => rise r == j && exch r == r).length) (t := tabR m) (by omega) (fun j hj => by
    obtain ⟨q1, q2⟩ := n3 j hj
    refine ⟨?_, ?_, tab_le m j (by omega)⟩
    · show 0 + _ = _
      rw [f0, q1, Nat.zero_add]
    · show 0 + _ = _
      rw [f1, q2, Nat.zero_add]) (fun j hj => by
    by_cases c : m ≤ 2 * j
    · refine .inl ⟨c, ?_⟩
      have := F30 (d + 3) m (m - j) g (by omega) (by omega)
      rw [show (m : Int) - ((m - j : Nat) : Int) = j by omega, show ((m - j : Nat) : Int) = (m : Int) - j by omega] at this
      rw [this]
      unfold tabR
      rw [if_pos c]
    · refine .inr ⟨by omega, ?_⟩
      unfold tabR
      rw [if_neg c]) (List.range (m + 1)) y5 .no fun x hx => List.mem_range.mp hx
  rw [f32 (d + 5) _ g rfl]
  refine b32_run (zs := cz (m + 1) fun _ => 0) (rs := rowsD rs) (c1 := cz (m + 1) fun j => 0 + (rs.filter fun r => rise r == j).length) (c2 := cz (m + 1) fun j => 0 + (rs.filter fun r => rise r == j && exch r == r).length) (nr := (ct m : Nat)) (nf := (bothR m : Nat)) (out := rs.filterMap fun r => if ((rise r : Nat) : Int) < 3 then some (.int 1) else none) (y4 := y4) (y5 := y5) (y5' := y5') (y6' := y6') ?hm (zn_lfs _) e1 ?e1 ?e2 ?hc ?ho (by rw [rowsD_len, e2.length_eq, n1]) (F6 (d + 1) m g (by omega)) (F17 d m g hm)
  case hm =>
    refine ev_op2 (s1 := ([.sh (.int m), .no, .no, .no, .no, .no, .no, .no], g)) (s2 := ([.sh (.int m), .no, .no, .no, .no, .no, .no, .no], g)) (v := .list [.int 0]) (v2 := .int ((m : Int) + 1)) (by simp) (by simp) ?_
    rw [mulL0 (by omega) (by omega), show ((m : Int) + 1).toNat = m + 1 by omega]
    unfold cz
    rw [zn_map, List.map_map]
    congr 2
    exact (List.ext_getElem (by simp) fun i h1 h2 => by simp)
  case e1 =>
    unfold l32_0
    exact Eq.trans (ex_for (ds := [.list (rowsD rs)]) (vs := rowsD rs) (s1 := ([.sh (.int m), .ow (.list (cz (m + 1) fun _ => 0)), .ow (.list (cz (m + 1) fun _ => 0)), .ow (.list (rowsD rs)), .no, .no, .no, .no], g)) (by simp) rfl) l1
  case e2 =>
    unfold l32_1
    exact Eq.trans (ex_for (ds := [.int ((m + 1 : Nat) : Int)]) (vs := (List.range (m + 1)).map fun x : Nat => .int (x : Int)) (s1 := ([.sh (.int m), .ow (.list (cz (m + 1) fun j => 0 + (rs.filter fun r => rise r == j).length)), .ow (.list (cz (m + 1) fun j => 0 + (rs.filter fun r => rise r == j && exch r == r).length)), .sh (.list (rowsD rs)), y4, y5, .no, .no], g)) (by simp) (it0 (by omega))) l2
  case hc =>
    exact ev_compF (vs := rs) (enc := T) (ds := [.list (rowsD rs)]) (fun r => if ((rise r : Nat) : Int) < 3 then some (.int 1) else none) (by simp) (by rw [it_valL]; rfl) (le_line (by omega)) fun r hr => t32 (F10 (d + 2) g (hrow r hr))
  case ho =>
    have := fm_length (fun r : List Nat => decide (rise r < 3)) (fun _ => PyData.int 1) rs
    rw [show (fun r : List Nat => if ((rise r : Nat) : Int) < 3 then some (PyData.int 1) else none) = fun r => if decide (rise r < 3) = true then some (PyData.int 1) else none from funext fun r => by
      by_cases c : rise r < 3
      · rw [if_pos (by omega), if_pos (by simpa using c)]
      · rw [if_neg (by omega), if_neg (by simpa using c)], this, ← n2]
    unfold fewR
    rw [(e2.filter _).length_eq]
end K19
set_option Elab.async false
set_option linter.all false
/-! K19Det: a table's size by steps (own work). -/
namespace K19
open Iv
abbrev Mat := List (List Int)
def g2 (M : Mat) (i j : Nat) : Int := (M.getD i []).getD j 0
def bnd (x : Int) : Bool := decide (x.natAbs ≤ 2 ^ 300)
def put2 (M : Mat) (i j : Nat) (x : Int) : Mat := M.set i ((M.getD i []).set j x)
def elim1 (c : Nat) (p : Int) (a f : Nat) (M : Mat) : Option Mat :=
  if bnd (g2 M a f) && bnd (g2 M c c) && bnd (g2 M a c) && bnd (g2 M c f) then some (put2 M a f ((g2 M a f * g2 M c c - g2 M a c * g2 M c f) / p)) else none
def elimF (c : Nat) (p : Int) (a : Nat) : List Nat → Mat → Option Mat
  | [], M => some M
  | f :: fs, M => (elim1 c p a f M).bind (elimF c p a fs)
def elimA (c : Nat) (p : Int) (fs : List Nat) : List Nat → Mat → Option Mat
  | [], M => some M
  | a :: as, M => (elimF c p a fs M).bind (elimA c p fs as)
/-- the numbers behind c, below n -/
def beh (n c : Nat) : List Nat := (List.range (n - (c + 1))).map fun l => c + 1 + l
def detC (n : Nat) : List Nat → Int → Mat → Option Mat
  | [], _, M => some M
  | c :: cs, p, M => if decide (0 < p) && bnd p && !decide (g2 M c c = 0) then (elimA c p (beh n c) (beh n c) M).bind fun M' => detC n cs (g2 M' c c) M' else none
structure Shp (n : Nat) (M : Mat) : Prop where
  rows : M.length = n
  cols : ∀ i, i < n → (M.getD i []).length = n
theorem Shp.put {n : Nat} {M : Mat} (h : Shp n M) {i j : Nat} (x : Int) : Shp n (put2 M i j x) where
  rows := by unfold put2; rw [List.length_set]; exact h.rows
  cols := fun k hk => by
    unfold put2
    by_cases e : i = k
    · subst e
      have hi : i < M.length := by rw [h.rows]; exact hk
      rw [List.getD_eq_getElem?_getD, List.getElem?_set_self hi]
      show ((M.getD i []).set j x).length = n
      rw [List.length_set]; exact h.cols i hk
    · rw [List.getD_eq_getElem?_getD, List.getElem?_set_ne e, ← List.getD_eq_getElem?_getD]; exact h.cols k hk
/-- the catalan table -/
def hank (b n : Nat) : Mat := (List.range n).map fun i => (List.range n).map fun j => ((ct (b + i + j) : Nat) : Int)
def detV (b n : Nat) : Option Int := (detC n (List.range (n - 1)) 1 (hank b n)).map fun M => g2 M (n - 1) (n - 1)
/-- the products of the law -/
def prodI (n one : Nat) : List Nat → Nat × Nat → Nat × Nat
  | [], a => a
  | o :: os, a => prodI n one os (a.1 * (one + o + 2 * n), a.2 * (one + o))
def prodO (n b : Nat) : List Nat → Nat × Nat → Nat × Nat
  | [], a => a
  | i :: is, a => prodO n b is (prodI n i ((List.range (b - i)).map fun l => i + l) a)
def prodL (n b : Nat) : Nat × Nat := prodO n b ((List.range (b - 1)).map fun l => 1 + l) (1, 1)
def lawL (b n : Nat) : Bool := match detV b n with
  | some x => decide (x * (prodL n b).2 = (prodL n b).1) && bnd x
  | none => false
set_option maxHeartbeats 0
theorem nDet : ∀ b, b < 7 → ∀ n, n < 13 → 1 ≤ n → lawL b n = true := by decide +kernel
end K19
set_option Elab.async false
set_option linter.all false
set_option maxRecDepth 100000
/-! K19R8: a table's size. -/
namespace K19
open PySem Iv
def md (M : Mat) : List D := M.map fun r => .list (r.map .int)
theorem md_len (M : Mat) : (md M).length = M.length := List.length_map _
theorem md_get {M : Mat} {i : Nat} (h : i < M.length) : (md M)[i]? = some (.list ((M.getD i []).map .int)) := by
  unfold md
  rw [List.getElem?_map, List.getD_eq_getElem?_getD, List.getElem?_eq_getElem h]; rfl
theorem atI_md {M : Mat} {i : Nat} (h : i < M.length) : atI (md M) (i : Int) = some (.list ((M.getD i []).map .int)) := by
  rw [atI_nat, md_get h]
theorem atI_row {r : List Int} {j : Nat} (h : j < r.length) : atI (r.map PyData.int) (j : Int) = some (.int (r.getD j 0)) := by
  rw [atI_nat, List.getElem?_map, List.getD_eq_getElem?_getD, List.getElem?_eq_getElem h]; rfl
theorem md_put (M : Mat) (i j : Nat) (x : Int) : md (put2 M i j x) = (md M).set i (.list (((M.getD i []).map .int).set j (.int x))) := by
  unfold md put2
  rw [List.map_set, List.map_set]
theorem atI_m1 {α : Type} {xs : List α} (h : 0 < xs.length) : atI xs (-1) = xs[xs.length - 1]? := by
  rcases List.eq_nil_or_concat xs with rfl | ⟨l, v, rfl⟩
  · simp at h
  · rw [List.concat_eq_append, atI_last]; simp
theorem bnd_le {x : Int} (h : bnd x = true) : x.natAbs ≤ 2 ^ 300 := of_decide_eq_true h
section
variable {F : Fns} {n : Nat} {g : G} {s1 s2 y3 y4 y5 y6 y7 y8 : Sl}
theorem w20_told {xs ra rc : List D} {a c f x y z w : Int} (r1 : atI xs a = some (.list ra)) (r2 : atI xs c = some (.list rc)) (x1 : atI ra f = some (.int x)) (x2 : atI rc c = some (.int y)) (x3 : atI ra c = some (.int z)) (x4 : atI rc f = some (.int w)) (m1 : mulOk x y = true) (m2 : mulOk z w = true) :
    ex F n (.asg 7 (.op .sub [(.op .mul [(.op .ix [(.op .ix [(.var 0), (.var 4)]), (.var 6)]), (.op .ix [(.op .ix [(.var 0), (.var 3)]), (.var 3)])]), (.op .mul [(.op .ix [(.op .ix [(.var 0), (.var 4)]), (.var 3)]), (.op .ix [(.op .ix [(.var 0), (.var 3)]), (.var 6)])])])) ([.ow (.list xs), s1, s2, .sh (.int c), .sh (.int a), y5, .sh (.int f), y7, y8], g) =
      some (.nx, ([.ow (.list xs), s1, s2, .sh (.int c), .sh (.int a), y5, .sh (.int f), .ow (.int (x * y - z * w)), y8], g)) := by
  simp [r1, r2, x1, x2, x3, x4, m1, m2]
theorem w20_turn {N : Nat} {M M' : Mat} {a c f : Nat} {p : Int} (hs : Shp N M) (ha : a < N) (hc : c < N) (hf : f < N) (hp : rdS (some s2) = some (.int p)) (p1 : 0 < p) (p2 : bnd p = true) (h : elim1 c p a f M = some M') :
    (bindTg (.nm 6) (.int (f : Nat)) ([.ow (.list (md M)), s1, s2, .sh (.int (c : Nat)), .sh (.int (a : Nat)), y5, y6, y7, y8], g)).bind (fun s1 => exs F n w20_0 s1) =
      some (.nx, ([.ow (.list (md M')), s1, s2, .sh (.int (c : Nat)), .sh (.int (a : Nat)), y5, .sh (.int (f : Nat)), .ow (.int (g2 M a f * g2 M c c - g2 M a c * g2 M c f)), y8], g)) := by
  unfold elim1 at h
  split at h
  case isFalse => cases h
  rename_i hb
  cases h
  simp only [Bool.and_eq_true] at hb
  obtain ⟨⟨⟨b1, b2⟩, b3⟩, b4⟩ := hb
  have la : a < M.length := by rw [hs.rows]; exact ha
  have lc : c < M.length := by rw [hs.rows]; exact hc
  have e1 := w20_told (F := F) (n := n) (g := g) (s1 := s1) (s2 := s2) (y5 := y5) (y7 := y7) (y8 := y8) (atI_md la) (atI_md lc) (atI_row (j := f) (by rw [hs.cols a ha]; exact hf)) (atI_row (j := c) (by rw [hs.cols c hc]; exact hc)) (atI_row (j := c) (by rw [hs.cols a ha]; exact hc)) (atI_row (j := f) (by rw [hs.cols c hc]; exact hf))
    (mulOk_b (bnd_le b1) (bnd_le b2) (by decide)) (mulOk_b (bnd_le b3) (bnd_le b4) (by decide))
  have dv : divOk p = true := by
    have := log_le (bnd_le p2)
    unfold divOk
    simp
    omega
  have e2 := ex_setIIn (F := F) (n := n) (i := 0) (k := a) (l := f) (ix := .var 4) (jx := .var 6) (e := .op .fdiv [(.var 7), (.var 2)]) (s := [.ow (.list (md M)), s1, s2, .sh (.int (c : Nat)), .sh (.int (a : Nat)), y5, .sh (.int (f : Nat)), .ow (.int (g2 M a f * g2 M c c - g2 M a c * g2 M c f)), y8]) (g := g) (xs := md M) (v := .int ((g2 M a f * g2 M c c - g2 M a c * g2 M c f) / p)) rfl (by rw [md_len]; exact la) (md_get la) (by rw [List.length_map, hs.cols a ha]; exact hf) (by
      generalize g2 M a f * g2 M c c - g2 M a c * g2 M c f = t
      simp [hp, dv]) rfl (by simp) (by simp)
  rw [md_put]
  exact Eq.trans (exs_nx e1) (Eq.trans (exs_nx e2) exs_nil)
theorem loopF {N : Nat} {a c : Nat} {p : Int} (ha : a < N) (hc : c < N) (hp : rdS (some s2) = some (.int p)) (p1 : 0 < p) (p2 : bnd p = true) : ∀ (fs : List Nat) (M M' : Mat) (y6 y7 : Sl), Shp N M → (∀ f ∈ fs, f < N) → elimF c p a fs M = some M' →
    ∃ y6' y7', loopL (fun v s => (bindTg (.nm 6) v s).bind fun s1 => exs F n w20_0 s1) (fs.map fun f : Nat => .int (f : Int)) ([.ow (.list (md M)), s1, s2, .sh (.int (c : Nat)), .sh (.int (a : Nat)), y5, y6, y7, y8], g) =
      some (.nx, ([.ow (.list (md M')), s1, s2, .sh (.int (c : Nat)), .sh (.int (a : Nat)), y5, y6', y7', y8], g)) ∧ Shp N M'
  | [], M, M', y6, y7, hs, _, h => by
    cases h
    exact ⟨y6, y7, rfl, hs⟩
  | f :: fs, M, M', y6, y7, hs, hf, h => by
    unfold elimF at h
    rw [Option.bind_eq_some_iff] at h
    obtain ⟨M1, h1, h2⟩ := h
    have hs1 : Shp N M1 := by
      unfold elim1 at h1
      split at h1
      · cases h1; exact hs.put _
      · cases h1
    obtain ⟨y6', y7', e, q⟩ := loopF ha hc hp p1 p2 fs M1 M' (.sh (.int (f : Nat))) (.ow (.int (g2 M a f * g2 M c c - g2 M a c * g2 M c f))) hs1 (fun u m => hf u (List.mem_cons_of_mem _ m)) h2
    refine ⟨y6', y7', ?_, q⟩
    rw [List.map_cons]
    exact Eq.trans (loopL_nx (w20_turn hs ha hc (hf f List.mem_cons_self) hp p1 p2 h1)) e
theorem itB {c N : Nat} (h1 : c ≤ 1000) (h2 : N ≤ 1000) : itS .rng [.int ((c : Int) + 1), .int (N : Int)] = some ((beh N c).map fun f : Nat => .int (f : Int)) := by
  rw [itR h1 h2]
  unfold beh
  rw [List.map_map]; rfl
theorem beh_lt {N c f : Nat} (h : f ∈ beh N c) : f < N := by
  unfold beh at h
  obtain ⟨l, h1, rfl⟩ := List.mem_map.mp h
  have := List.mem_range.mp h1
  omega
theorem zv20 {xs : List D} {c m : Int} (hl : (xs.length : Int) = m) : evs F [(.op .add [(.var 3), (.cst (.int 1))]), (.op .len [(.var 0)])] ([.ow (.list xs), s1, s2, .sh (.int c), y4, y5, y6, y7, y8], g) = some ([.int (c + 1), .int m], ([.ow (.list xs), s1, s2, .sh (.int c), y4, y5, y6, y7, y8], g)) := by
  simp [hl]
theorem w20a_turn {a : D} {xs : List D} {st : St} (e : ex F n l20_0 ([.ow (.list xs), s1, s2, y3, .sh a, y5, y6, y7, y8], g) = some (.nx, st)) : (bindTg (.nm 4) a ([.ow (.list xs), s1, s2, y3, y4, y5, y6, y7, y8], g)).bind (fun s1 => exs F n w20_1 s1) = some (.nx, st) := by
  simp [w20_1, e]
theorem loopA {N : Nat} {c : Nat} {p : Int} (hN : N ≤ 1000) (hc : c < N) (hp : rdS (some s2) = some (.int p)) (p1 : 0 < p) (p2 : bnd p = true) : ∀ (as : List Nat) (M M' : Mat) (y4 y6 y7 : Sl), Shp N M → (∀ f ∈ as, f < N) → elimA c p (beh N c) as M = some M' →
    ∃ y4' y6' y7', loopL (fun v s => (bindTg (.nm 4) v s).bind fun s1 => exs F n w20_1 s1) (as.map fun f : Nat => .int (f : Int)) ([.ow (.list (md M)), s1, s2, .sh (.int (c : Nat)), y4, y5, y6, y7, y8], g) =
      some (.nx, ([.ow (.list (md M')), s1, s2, .sh (.int (c : Nat)), y4', y5, y6', y7', y8], g)) ∧ Shp N M'
  | [], M, M', y4, y6, y7, hs, _, h => by
    cases h
    exact ⟨y4, y6, y7, rfl, hs⟩
  | a :: as, M, M', y4, y6, y7, hs, hf, h => by
    unfold elimA at h
    rw [Option.bind_eq_some_iff] at h
    obtain ⟨M1, h1, h2⟩ := h
    obtain ⟨z6, z7, e, hs1⟩ := loopF (F := F) (n := n) (g := g) (s1 := s1) (y5 := y5) (y8 := y8) (hf a List.mem_cons_self) hc hp p1 p2 (beh N c) M M1 y6 y7 hs (fun f m => beh_lt m) h1
    obtain ⟨y4', y6', y7', e2, q⟩ := loopA hN hc hp p1 p2 as M1 M' (.sh (.int (a : Nat))) z6 z7 hs1 (fun u m => hf u (List.mem_cons_of_mem _ m)) h2
    refine ⟨y4', y6', y7', ?_, q⟩
    have e0 : ex F n l20_0 ([.ow (.list (md M)), s1, s2, .sh (.int (c : Nat)), .sh (.int (a : Nat)), y5, y6, y7, y8], g) = some (.nx, ([.ow (.list (md M1)), s1, s2, .sh (.int (c : Nat)), .sh (.int (a : Nat)), y5, z6, z7, y8], g)) := by
      unfold l20_0
      exact Eq.trans (ex_for (zv20 (m := (N : Nat)) (by rw [md_len, hs.rows])) (itB (by omega) hN)) e
    rw [List.map_cons]
    exact Eq.trans (loopL_nx (w20a_turn e0)) e2
end
end K19
set_option Elab.async false
set_option linter.all false
set_option maxRecDepth 100000
/-! K19R9: the table of counts; the law. -/
namespace K19
open PySem Iv
theorem lfs_fm {α : Type} (f : α → Option D) (h : ∀ a x, f a = some x → lf x = true) : ∀ l : List α, lfs (l.filterMap f) = true
  | [] => rfl
  | a :: l => by
    rw [List.filterMap_cons]
    cases e : f a with
    | none => exact lfs_fm f h l
    | some x => show (lf x && _) = true; rw [h a x e, lfs_fm f h l]; rfl
section
variable {F : Fns} {n : Nat} {g : G} {s1 s2 y3 y4 y5 y6 y7 y8 : Sl}
theorem t20 {xs ra : List D} {a c v : Int} (r1 : atI xs a = some (.list ra)) (x1 : atI ra c = some (.int v)) :
    compT F (.nm 4) [(.var 3), (.op .len [(.var 0)])] (some (.op .ne [(.op .ix [(.op .ix [(.var 0), (.var 4)]), (.var 3)]), (.cst (.int 0))])) (.var 4) ([.ow (.list xs), s1, s2, .sh (.int c), y4, y5, y6, y7, y8], g) (.int a) g = some (if v = 0 then none else some (.int a), g) := by
  by_cases h : v = 0 <;> simp [compT_some, r1, x1, h]
theorem e20b {xs : List D} {c m : Int} (hl : (xs.length : Int) = m) : evs F [(.var 3), (.op .len [(.var 0)])] ([.ow (.list xs), s1, s2, .sh (.int c), y4, y5, y6, y7, y8], g) = some ([.int c, .int m], ([.ow (.list xs), s1, s2, .sh (.int c), y4, y5, y6, y7, y8], g)) := by
  simp [hl]
theorem c20_ev {N : Nat} {M : Mat} {c : Nat} (hs : Shp N M) (hN : N ≤ 1000) (hc : c < N) (hz : g2 M c c ≠ 0) : ∃ rest, lfs rest = true ∧ ev F c20_1 ([.ow (.list (md M)), s1, s2, .sh (.int (c : Nat)), y4, y5, y6, y7, y8], g) = some (.list (.int (c : Nat) :: rest), ([.ow (.list (md M)), s1, s2, .sh (.int (c : Nat)), y4, y5, y6, y7, y8], g)) := by
  have e := ev_compF (F := F) (t := .nm 4) (k := .rng) (es := [(.var 3), (.op .len [(.var 0)])]) (cond := some (.op .ne [(.op .ix [(.op .ix [(.var 0), (.var 4)]), (.var 3)]), (.cst (.int 0))])) (elt := .var 4) (s := ([.ow (.list (md M)), s1, s2, .sh (.int (c : Nat)), y4, y5, y6, y7, y8], g)) (vs := List.range (N - c)) (enc := fun l : Nat => .int ((c + l : Nat) : Int)) (ds := [.int (c : Nat), .int (N : Nat)])
    (fun l => if g2 M (c + l) c = 0 then none else some (.int ((c + l : Nat) : Int))) (e20b (by rw [md_len, hs.rows])) (by
      rw [it_rng2, small62_s (by omega) (by omega), small62_s (by omega) (by omega)]
      show some (rangeS (c : Int) ((N : Int) - (c : Int)).toNat) = _
      rw [show ((N : Int) - (c : Int)).toNat = N - c by omega]
      rfl) (by rw [List.length_range]; exact le_line (by omega)) fun l m => by
      have hl := List.mem_range.mp m
      exact t20 (atI_md (by rw [hs.rows]; omega)) (atI_row (by rw [hs.cols _ (by omega)]; exact hc))
  obtain ⟨k, hk⟩ : ∃ k, N - c = k + 1 := ⟨N - c - 1, by omega⟩
  rw [hk, List.range_succ_eq_map, List.filterMap_cons, Nat.add_zero, if_neg hz] at e
  exact ⟨_, lfs_fm _ (fun a x h => by
    split at h
    · cases h
    · cases h; rfl) _, e⟩
theorem w20b_turn {xs zs rest rc : List D} {c x : Int} {z4 z6 z7 : Sl} (hr : lfs rest = true)
    (hc : ev F c20_1 ([.ow (.list xs), s1, s2, .sh (.int c), y4, y5, y6, y7, y8], g) = some (.list (.int c :: rest), ([.ow (.list xs), s1, s2, .sh (.int c), y4, y5, y6, y7, y8], g)))
    (e : ex F n l20_1 ([.ow (.list xs), s1, s2, .sh (.int c), y4, .ow (.list (.int c :: rest)), y6, y7, y8], g) = some (.nx, ([.ow (.list zs), s1, s2, .sh (.int c), z4, .ow (.list (.int c :: rest)), z6, z7, y8], g)))
    (r1 : atI zs c = some (.list rc)) (x1 : atI rc c = some (.int x)) :
    (bindTg (.nm 3) (.int c) ([.ow (.list xs), s1, s2, y3, y4, y5, y6, y7, y8], g)).bind (fun s1 => exs F n w20_2 s1) = some (.nx, ([.ow (.list zs), s1, .sh (.int x), .sh (.int c), z4, .ow (.list (.int c :: rest)), z6, z7, y8], g)) := by
  have f : E.fresh c20_1 (.list (.int c :: rest)) = true := fresh_compL _ (by simp [hr])
  have st : ∀ s : St, store 5 c20_1 (.list (.int c :: rest)) s = some (put s 5 (.ow (.list (.int c :: rest)))) := fun s => store2_fresh f
  have a0 : atI (PyData.int c :: rest) 0 = some (.int c) := by rw [show (0 : Int) = ((0 : Nat) : Int) from rfl, atI_nat]; rfl
  rw [bind_nm, Option.bind_some]
  unfold w20_2
  show exs F n _ ([.ow (.list xs), s1, s2, .sh (.int c), y4, y5, y6, y7, y8], g) = _
  refine Eq.trans (exs_nx (s1 := ([.ow (.list xs), s1, s2, .sh (.int c), y4, .ow (.list (.int c :: rest)), y6, y7, y8], g)) ?_) ?_
  · rw [ex_asg, hc, Option.bind_some, st]; rfl
  refine Eq.trans (exs_nx (s1 := ([.ow (.list xs), s1, s2, .sh (.int c), y4, .ow (.list (.int c :: rest)), y6, y7, y8], g)) ?_) ?_
  · have : ¬ ((rest.length : Int) + 1 = 0) := by omega
    generalize (rest.length : Int) = q at this
    simp
    omega
  refine Eq.trans (exs_nx (s1 := ([.ow (.list xs), s1, s2, .sh (.int c), y4, .ow (.list (.int c :: rest)), y6, y7, y8], g)) ?_) ?_
  · simp [a0]
  refine Eq.trans (exs_nx e) ?_
  simp [r1, x1]
theorem loopC {N : Nat} (hN : N ≤ 1000) : ∀ (cs : List Nat) (M M' : Mat) (p : Int) (s2 y3 y4 y5 y6 y7 : Sl), Shp N M → (∀ c ∈ cs, c < N) → rdS (some s2) = some (.int p) → detC N cs p M = some M' →
    ∃ s2' y3' y4' y5' y6' y7', loopL (fun v s => (bindTg (.nm 3) v s).bind fun s1 => exs F n w20_2 s1) (cs.map fun c : Nat => .int (c : Int)) ([.ow (.list (md M)), s1, s2, y3, y4, y5, y6, y7, y8], g) =
      some (.nx, ([.ow (.list (md M')), s1, s2', y3', y4', y5', y6', y7', y8], g)) ∧ Shp N M'
  | [], M, M', p, s2, y3, y4, y5, y6, y7, hs, _, _, h => by
    cases h
    exact ⟨s2, y3, y4, y5, y6, y7, rfl, hs⟩
  | c :: cs, M, M', p, s2, y3, y4, y5, y6, y7, hs, hf, hp, h => by
    unfold detC at h
    split at h
    case isFalse => cases h
    rename_i hb
    simp only [Bool.and_eq_true, decide_eq_true_eq, Bool.not_eq_true', decide_eq_false_iff_not] at hb
    obtain ⟨⟨p1, p2⟩, hz⟩ := hb
    rw [Option.bind_eq_some_iff] at h
    obtain ⟨M1, h1, h2⟩ := h
    have hc := hf c List.mem_cons_self
    obtain ⟨rest, hr, ec⟩ := c20_ev (F := F) (g := g) (s1 := s1) (s2 := s2) (y4 := y4) (y5 := y5) (y6 := y6) (y7 := y7) (y8 := y8) hs hN hc hz
    obtain ⟨z4, z6, z7, e1, hs1⟩ := loopA (F := F) (n := n) (g := g) (s1 := s1) (s2 := s2) (y5 := .ow (.list (.int (c : Nat) :: rest))) (y8 := y8) hN hc hp p1 p2 (beh N c) M M1 y4 y6 y7 hs (fun f m => beh_lt m) h1
    have e0 : ex F n l20_1 ([.ow (.list (md M)), s1, s2, .sh (.int (c : Nat)), y4, .ow (.list (.int (c : Nat) :: rest)), y6, y7, y8], g) = some (.nx, ([.ow (.list (md M1)), s1, s2, .sh (.int (c : Nat)), z4, .ow (.list (.int (c : Nat) :: rest)), z6, z7, y8], g)) := by
      unfold l20_1
      exact Eq.trans (ex_for (zv20 (m := (N : Nat)) (by rw [md_len, hs.rows])) (itB (by omega) hN)) e1
    obtain ⟨a2, a3, a4, a5, a6, a7, e2, q⟩ := loopC hN cs M1 M' (g2 M1 c c) (.sh (.int (g2 M1 c c))) (.sh (.int (c : Nat))) z4 (.ow (.list (.int (c : Nat) :: rest))) z6 z7 hs1 (fun u m => hf u (List.mem_cons_of_mem _ m)) rfl h2
    refine ⟨a2, a3, a4, a5, a6, a7, ?_, q⟩
    rw [List.map_cons]
    exact Eq.trans (loopL_nx (w20b_turn hr ec e0 (atI_md (by rw [hs1.rows]; exact hc)) (atI_row (by rw [hs1.cols c hc]; exact hc)))) e2
theorem t20_0 {r : List D} {y0 s1 s2 : Sl} (h : lfs r = true) : compT F (.nm 8) [(.var 0)] none (.op .list [(.var 8)]) ([y0, s1, s2, y3, y4, y5, y6, y7, y8], g) (.list r) g = some (some (.list r), g) := by
  simp [compT_none]
theorem fresh_c20 (M : Mat) : E.fresh c20_0 (.list (md M)) = true := by
  unfold c20_0 E.fresh
  show (_ || (md M).all fun x => lf x || E.fresh (.op .list [.var 8]) x) = true
  have : ((md M).all fun x => lf x || E.fresh (.op .list [.var 8]) x) = true := List.all_eq_true.mpr fun x m => by
    obtain ⟨r, _, rfl⟩ := List.mem_map.mp m
    simp
  rw [this, Bool.or_true]
theorem b20_run {xs zs rc : List D} {m x : Int} {s2 y3 y4 y5 y6 y7 y8 : Sl} (hf : E.fresh c20_0 (.list xs) = true)
    (h0 : ev F c20_0 ([.sh (.list xs), .no, .no, .no, .no, .no, .no, .no, .no], g) = some (.list xs, ([.sh (.list xs), .no, .no, .no, .no, .no, .no, .no, .no], g)))
    (e : ex F n l20_2 ([.ow (.list xs), .ow (.int 1), .ow (.int 1), .no, .no, .no, .no, .no, .no], g) = some (.nx, ([.ow (.list zs), .ow (.int 1), s2, y3, y4, y5, y6, y7, y8], g))) (hl : (zs.length : Int) = m) (hm : 0 < m)
    (r1 : atI zs (-1) = some (.list rc)) (x1 : atI rc (-1) = some (.int x)) : Iv.run F n 9 false b20 [.list xs] g = some (.int x, g) := by
  have m1 : mulOk 1 x = true := mulOk_l (by decide) (by decide)
  refine run_ret (s := [.sh (.list xs), .no, .no, .no, .no, .no, .no, .no, .no]) (s' := [.ow (.list zs), .ow (.int 1), s2, y3, y4, y5, y6, y7, y8]) rfl ?_
  unfold b20
  refine Eq.trans (exs_nx (s1 := ([.ow (.list xs), .ow (.int 1), .ow (.int 1), .no, .no, .no, .no, .no, .no], g)) ?_) ?_
  · simp [h0, hf]
  refine Eq.trans (exs_nx e) ?_
  refine exs_ret ?_
  simp [hl, hm, r1, x1, m1]
end
theorem F20 (d N : Nat) (M M' : Mat) (g : G) (hN : 1 ≤ N ∧ N ≤ 100) (hs : Shp N M) (h : detC N (List.range (N - 1)) 1 M = some M') : Fk tab cst (d + 1) 20 [.list (md M)] g = some (.int (g2 M' (N - 1) (N - 1)), g) := by
  obtain ⟨s2, y3, y4, y5, y6, y7, e, q⟩ := loopC (F := Fk tab cst d) (n := 1000000) (g := g) (s1 := .ow (.int 1)) (y8 := .no) (N := N) (by omega) (List.range (N - 1)) M M' 1 (.ow (.int 1)) .no .no .no .no .no hs (fun c m => by have := List.mem_range.mp m; omega) rfl h
  rw [f20 d _ g rfl]
  refine b20_run (zs := md M') (rc := (M'.getD (N - 1) []).map .int) (m := (N : Nat)) (s2 := s2) (y3 := y3) (y4 := y4) (y5 := y5) (y6 := y6) (y7 := y7) (y8 := .no) (fresh_c20 M) ?_ ?_ (by rw [md_len, q.rows]) (by omega) ?_ ?_
  · have := ev_compM (F := Fk tab cst d) (t := .nm 8) (k := .val) (es := [(.var 0)]) (elt := .op .list [(.var 8)]) (s := ([.sh (.list (md M)), .no, .no, .no, .no, .no, .no, .no, .no], g)) (s1 := ([.sh (.list (md M)), .no, .no, .no, .no, .no, .no, .no, .no], g)) (vs := M) (enc := fun r : List Int => .list (r.map .int)) (ds := [.list (md M)]) (fun r : List Int => .list (r.map .int)) (by simp) (by rw [it_valL]; rfl) (le_line (by rw [hs.rows]; omega)) fun r m => t20_0 (lfs_ints r)
    exact this
  · unfold l20_2
    refine Eq.trans (ex_for (ds := [.int ((N - 1 : Nat) : Int)]) (vs := (List.range (N - 1)).map fun x : Nat => .int (x : Int)) (s1 := ([.ow (.list (md M)), .ow (.int 1), .ow (.int 1), .no, .no, .no, .no, .no, .no], g)) ?_ (it0 (by omega))) e
    have hl : ((md M).length : Int) - 1 = ((N - 1 : Nat) : Int) := by rw [md_len, hs.rows]; omega
    generalize ((N - 1 : Nat) : Int) = b at hl
    simp [hl]
  · rw [atI_m1 (by rw [md_len, q.rows]; omega), md_len, q.rows, md_get (by rw [q.rows]; omega)]
  · have hc := q.cols (N - 1) (by omega)
    rw [atI_m1 (by rw [List.length_map, hc]; omega), List.length_map, hc, ← atI_nat, atI_row (by rw [hc]; omega)]
    rfl
end K19
set_option Elab.async false
set_option linter.all false
set_option maxRecDepth 100000
/-! K19Ra: the law. -/
namespace K19
open PySem Iv
section
variable {F : Fns} {n : Nat} {g : G}
theorem t21_0 {b i j u : Int} {s1 y3 : Sl} (h : F 5 [.int (b + i + j)] g = some (.int u, g)) : compT F (.nm 3) [(.var 1)] none (.call 5 none [(.op .add [(.op .add [(.var 0), (.var 2)]), (.var 3)])]) ([.sh (.int b), s1, .sh (.int i), y3], g) (.int j) g = some (some (.int u), g) := by
  simp [compT_none, h]
theorem t21_1 {i : Int} {v : D} {s0 y2 y3 : Sl} {m : Int} (h : ev F c21_0 ([s0, .sh (.int m), .sh (.int i), y3], g) = some (v, ([s0, .sh (.int m), .sh (.int i), y3], g))) : compT F (.nm 2) [(.var 1)] none c21_0 ([s0, .sh (.int m), y2, y3], g) (.int i) g = some (some v, g) := by
  simp [compT_none, h]
theorem b21_run {b m x : Int} {xs : List D} (h1 : F 1 [.int b, .int 0, .int 6] g = some (.bool true, g)) (h2 : F 1 [.int m, .int 0, .int 12] g = some (.bool true, g)) (hc : ev F c21_1 ([.sh (.int b), .sh (.int m), .no, .no], g) = some (.list xs, ([.sh (.int b), .sh (.int m), .no, .no], g))) (h : F 20 [.list xs] g = some (.int x, g)) :
    Iv.run F n 4 false b21 [.int b, .int m] g = some (.int x, g) := by
  simp [Iv.run, b21, h1, h2, hc, h]
end
theorem shp_hank (b N : Nat) : Shp N (hank b N) where
  rows := by simp [hank]
  cols := fun i hi => by
    unfold hank
    rw [List.getD_eq_getElem?_getD, List.getElem?_map, List.getElem?_range hi]
    simp
theorem F21 (d b N : Nat) (g : G) {x : Int} (hb : b < 7) (hN : 1 ≤ N ∧ N < 13) (h : detV b N = some x) : Fk tab cst (d + 3) 21 [.int b, .int N] g = some (.int x, g) := by
  unfold detV at h
  rw [Option.map_eq_some_iff] at h
  obtain ⟨M', h1, h2⟩ := h
  rw [f21 (d + 2) _ g rfl]
  refine b21_run (xs := md (hank b N)) (F1t d g (by omega)) (F1t d g (by omega)) ?_ (by rw [F20 (d + 1) N (hank b N) M' g (by omega) (shp_hank b N) h1, h2])
  have e := ev_compM (F := Fk tab cst (d + 2)) (t := .nm 2) (k := .rng) (es := [(.var 1)]) (elt := c21_0) (s := ([.sh (.int b), .sh (.int N), .no, .no], g)) (s1 := ([.sh (.int b), .sh (.int N), .no, .no], g)) (vs := List.range N) (enc := fun i : Nat => .int (i : Int)) (ds := [.int N]) (fun i : Nat => .list ((List.range N).map fun j => .int ((ct (b + i + j) : Nat) : Int))) (by simp) (it0 (by omega)) (le_line (by rw [List.length_range]; omega)) fun i hi => t21_1 (by
      have hi' := List.mem_range.mp hi
      exact ev_compM (F := Fk tab cst (d + 2)) (t := .nm 3) (k := .rng) (es := [(.var 1)]) (s := ([.sh (.int b), .sh (.int N), .sh (.int (i : Nat)), .no], g)) (s1 := ([.sh (.int b), .sh (.int N), .sh (.int (i : Nat)), .no], g)) (vs := List.range N) (enc := fun i : Nat => .int (i : Int)) (ds := [.int N]) (fun j : Nat => .int ((ct (b + i + j) : Nat) : Int)) (by simp) (it0 (by omega)) (le_line (by rw [List.length_range]; omega)) fun j hj => t21_0 (by
        have hj' := List.mem_range.mp hj
        rw [show (b : Int) + (i : Int) + (j : Int) = ((b + i + j : Nat) : Int) by omega]
        exact F5 d (b + i + j) g (by omega)))
  have : md (hank b N) = (List.range N).map fun i : Nat => .list ((List.range N).map fun j => .int ((ct (b + i + j) : Nat) : Int)) := by
    unfold md hank
    rw [List.map_map]
    refine List.map_congr_left fun i _ => ?_
    show PyData.list (((List.range N).map fun j => ((ct (b + i + j) : Nat) : Int)).map .int) = _
    rw [List.map_map]; rfl
  rw [this]
  exact e
section
variable {F : Fns} {n : Nat} {g : G} {s0 s1 s2 y4 y5 y6 y7 : Sl}
theorem w33_turn {m one o t u t2 u2 : Int} (h4 : rdS (some y4) = some (.int t)) (h5 : rdS (some y5) = some (.int u)) (hm : mulOk 2 m = true) (m1 : mulOk t (one + o + 2 * m) = true) (m2 : mulOk u (one + o) = true) (e1 : t * (one + o + 2 * m) = t2) (e2 : u * (one + o) = u2) :
    (bindTg (.nm 7) (.int o) ([s0, s1, s2, .ow (.int m), y4, y5, .sh (.int one), y7], g)).bind (fun s1 => exs F n w33_0 s1) = some (.nx, ([s0, s1, s2, .ow (.int m), .sh (.int t2), .sh (.int u2), .sh (.int one), .sh (.int o)], g)) := by
  simp [w33_0, h4, h5, hm, m1, m2, e1, e2]
theorem loop33i {m one : Nat} (hm : m ≤ 1000) (ho : one ≤ 1000) : ∀ (os : List Nat) (a : Nat × Nat) (y4 y5 y7 : Sl), (∀ o ∈ os, o ≤ 1000) → rdS (some y4) = some (.int (a.1 : Nat)) → rdS (some y5) = some (.int (a.2 : Nat)) →
    ∃ y4' y5' y7', loopL (fun v s => (bindTg (.nm 7) v s).bind fun s1 => exs F n w33_0 s1) (os.map fun o : Nat => .int (o : Int)) ([s0, s1, s2, .ow (.int m), y4, y5, .sh (.int one), y7], g) = some (.nx, ([s0, s1, s2, .ow (.int m), y4', y5', .sh (.int one), y7'], g)) ∧
      rdS (some y4') = some (.int ((prodI m one os a).1 : Nat)) ∧ rdS (some y5') = some (.int ((prodI m one os a).2 : Nat))
  | [], a, y4, y5, y7, _, h4, h5 => ⟨y4, y5, y7, rfl, h4, h5⟩
  | o :: os, a, y4, y5, y7, ho', h4, h5 => by
    have h := ho' o List.mem_cons_self
    obtain ⟨z4, z5, z7, e, q⟩ := loop33i hm ho os (a.1 * (one + o + 2 * m), a.2 * (one + o)) (.sh (.int ((a.1 * (one + o + 2 * m) : Nat) : Int))) (.sh (.int ((a.2 * (one + o) : Nat) : Int))) (.sh (.int (o : Nat))) (fun u m => ho' u (List.mem_cons_of_mem _ m)) rfl rfl
    refine ⟨z4, z5, z7, ?_, q⟩
    rw [List.map_cons]
    refine Eq.trans (loopL_nx (w33_turn h4 h5 (mulOk_l (by decide) (by decide)) (mulOk_r (by omega) (by omega)) (mulOk_r (by omega) (by omega)) ?_ ?_)) e
    · rw [Int.natCast_mul, show ((one + o + 2 * m : Nat) : Int) = (one : Int) + o + 2 * m by omega]
    · rw [Int.natCast_mul, show ((one + o : Nat) : Int) = (one : Int) + o by omega]
theorem zv33 {b one : Int} : evs F [(.var 6), (.var 2)] ([s0, s1, .ow (.int b), y4, y5, y6, .sh (.int one), y7], g) = some ([.int one, .int b], ([s0, s1, .ow (.int b), y4, y5, y6, .sh (.int one), y7], g)) := by
  simp
theorem w33b_turn {a : D} {st : St} {s3 : Sl} (e : ex F n l33_0 ([s0, s1, s2, s3, y4, y5, .sh a, y7], g) = some (.nx, st)) : (bindTg (.nm 6) a ([s0, s1, s2, s3, y4, y5, y6, y7], g)).bind (fun s1 => exs F n w33_1 s1) = some (.nx, st) := by
  simp [w33_1, e]
theorem itAB {a b : Nat} (ha : a ≤ 1000) (hb : b ≤ 1000) : itS .rng [.int (a : Int), .int (b : Int)] = some (((List.range (b - a)).map fun l => a + l).map fun o : Nat => .int (o : Int)) := by
  rw [it_rng2, small62_s (by omega) (by omega), small62_s (by omega) (by omega)]
  show some (rangeS (a : Int) ((b : Int) - (a : Int)).toNat) = _
  rw [show ((b : Int) - (a : Int)).toNat = b - a by omega, List.map_map]
  rfl
theorem loop33o {m b : Nat} (hm : m ≤ 1000) (hb : b ≤ 1000) : ∀ (is : List Nat) (a : Nat × Nat) (y4 y5 y6 y7 : Sl), (∀ o ∈ is, o ≤ 1000) → rdS (some y4) = some (.int (a.1 : Nat)) → rdS (some y5) = some (.int (a.2 : Nat)) →
    ∃ y4' y5' y6' y7', loopL (fun v s => (bindTg (.nm 6) v s).bind fun s1 => exs F n w33_1 s1) (is.map fun o : Nat => .int (o : Int)) ([s0, s1, .ow (.int b), .ow (.int m), y4, y5, y6, y7], g) = some (.nx, ([s0, s1, .ow (.int b), .ow (.int m), y4', y5', y6', y7'], g)) ∧
      rdS (some y4') = some (.int ((prodO m b is a).1 : Nat)) ∧ rdS (some y5') = some (.int ((prodO m b is a).2 : Nat))
  | [], a, y4, y5, y6, y7, _, h4, h5 => ⟨y4, y5, y6, y7, rfl, h4, h5⟩
  | i :: is, a, y4, y5, y6, y7, hi, h4, h5 => by
    have h := hi i List.mem_cons_self
    obtain ⟨z4, z5, z7, e, q4, q5⟩ := loop33i (F := F) (n := n) (g := g) (s0 := s0) (s1 := s1) (s2 := .ow (.int b)) hm h ((List.range (b - i)).map fun l => i + l) a y4 y5 y7 (fun o mo => by
      obtain ⟨l, hl, rfl⟩ := List.mem_map.mp mo
      have := List.mem_range.mp hl
      omega) h4 h5
    obtain ⟨x4, x5, x6, x7, e2, q⟩ := loop33o hm hb is (prodI m i ((List.range (b - i)).map fun l => i + l) a) z4 z5 (.sh (.int (i : Nat))) z7 (fun u m => hi u (List.mem_cons_of_mem _ m)) q4 q5
    refine ⟨x4, x5, x6, x7, ?_, q⟩
    have e0 : ex F n l33_0 ([s0, s1, .ow (.int b), .ow (.int m), y4, y5, .sh (.int (i : Nat)), y7], g) = some (.nx, ([s0, s1, .ow (.int b), .ow (.int m), z4, z5, .sh (.int (i : Nat)), z7], g)) := by
      unfold l33_0
      exact Eq.trans (ex_for zv33 (itAB h hb)) e
    rw [List.map_cons]
    exact Eq.trans (loopL_nx (w33b_turn e0)) e2
theorem law_end {v w x t u : Int} {b m : Nat} {g1 g2 g3 g4 : G} {y4 y5 y6 y7 : Sl} (h31 : F 31 [] g = some (.bool true, g1)) (hv : F 23 [.int 7] g1 = some (.int v, g2)) (h32 : F 32 [.int (1 + v)] g2 = some (.bool true, g2)) (hb : F 23 [.int 7] g2 = some (.int b, g3)) (hm : F 23 [.int 12] g3 = some (.int w, g4)) (ew : 1 + w = m)
    (e : ex F n l33_1 ([.no, .hd, .ow (.int b), .ow (.int m), .ow (.int 1), .ow (.int 1), .no, .no], g4) = some (.nx, ([.no, .hd, .ow (.int b), .ow (.int m), y4, y5, y6, y7], g4))) (h4 : rdS (some y4) = some (.int t)) (h5 : rdS (some y5) = some (.int u))
    (h21 : F 21 [.int b, .int m] g4 = some (.int x, g4)) (mm : mulOk x u = true) (eq : x * u = t) : ∃ s', exs F n bLaw ([.no, .hd, .no, .no, .no, .no, .no, .no], g) = some (.ret (.bool true), s') := by
  refine ⟨([.no, .hd, .ow (.int b), .ow (.int m), y4, y5, y6, y7], g4), ?_⟩
  unfold bLaw
  refine Eq.trans (exs_nx (s1 := ([.no, .hd, .no, .no, .no, .no, .no, .no], g2)) ?_) ?_
  · simp [h31, hv, h32]
  refine Eq.trans (exs_nx (s1 := ([.no, .hd, .ow (.int b), .ow (.int m), .no, .no, .no, .no], g4)) ?_) ?_
  · simp [hb, hm, ew]
  refine Eq.trans (exs_nx (s1 := ([.no, .hd, .ow (.int b), .ow (.int m), .ow (.int 1), .ow (.int 1), .no, .no], g4)) ?_) ?_
  · simp
  refine Eq.trans (exs_nx e) ?_
  refine exs_ret ?_
  simp [h4, h5, h21, mm, eq]
end
theorem law_run {g : G} (H : DrwOk g) : ∃ s', exs (Fk tab cst 20) 1000000 bLaw ([.no, .hd, .no, .no, .no, .no, .no, .no], g) = some (.ret (.bool true), s') := by
  obtain ⟨g1, e1, H1⟩ := F31 15 H
  obtain ⟨v, g2, e2, q2, H2⟩ := F23 19 H1 (m := 7) (by decide) (by decide)
  obtain ⟨s, hs⟩ : ∃ s : Nat, 1 + v = s := ⟨(1 + v).toNat, by omega⟩
  obtain ⟨v3, g3, e3, q3, H3⟩ := F23 19 H2 (m := 7) (by decide) (by decide)
  obtain ⟨b, rfl⟩ : ∃ b : Nat, v3 = b := ⟨v3.toNat, by omega⟩
  obtain ⟨v4, g4, e4, q4, H4⟩ := F23 19 H3 (m := 12) (by decide) (by decide)
  obtain ⟨m, hm⟩ : ∃ m : Nat, 1 + v4 = m := ⟨(1 + v4).toNat, by omega⟩
  have nl := nDet b (by omega) m (by omega) (by omega)
  unfold lawL at nl
  cases hd : detV b m with
  | none => rw [hd] at nl; cases nl
  | some x =>
    rw [hd] at nl
    simp only [Bool.and_eq_true, decide_eq_true_eq] at nl
    obtain ⟨z4, z5, z6, z7, e, q1, q2'⟩ := loop33o (F := Fk tab cst 20) (n := 1000000) (g := g4) (s0 := .no) (s1 := .hd) (m := m) (b := b) (by omega) (by omega) ((List.range (b - 1)).map fun l => 1 + l) (1, 1) (.ow (.int 1)) (.ow (.int 1)) .no .no (fun o mo => by
      obtain ⟨l, hl, rfl⟩ := List.mem_map.mp mo
      have := List.mem_range.mp hl
      omega) rfl rfl
    refine law_end e1 e2 ?_ e3 e4 hm ?_ q1 q2' (F21 17 b m g4 (by omega) (by omega) hd) ?_ nl.1 (y6 := z6) (y7 := z7)
    · rw [hs]; exact F32 14 s g2 (by omega)
    · unfold l33_1
      refine Eq.trans (ex_for (ds := [.int ((1 : Nat) : Int), .int (b : Nat)]) (s1 := ([.no, .hd, .ow (.int b), .ow (.int m), .ow (.int 1), .ow (.int 1), .no, .no], g4)) ?_ (itAB (by decide) (by omega))) e
      simp
    · refine mulOk_b (m := 300) (n := 200) (bnd_le nl.2) ?_ (by decide)
      have hub : ∀ b, b < 7 → ∀ m, m < 13 → (prodL m b).2 ≤ 2 ^ 100 := by decide +kernel
      rw [Int.natAbs_natCast]
      exact Nat.le_trans (hub b (by omega) m (by omega)) (Nat.pow_le_pow_right (by decide) (by decide))
end K19
set_option Elab.async false
set_option linter.all false
set_option maxRecDepth 100000
namespace K19
open PySem Iv
theorem hrun (ns : List Int) (hl : ns.length ≤ 63) : ∃ s', exs (Fk tab cst 20) 1000000 bLaw (put (bare 8 (some (handD (fun c => (if c < 0 then -c else c) % (10 ^ 60)) 188719 ns))) 1 .hd) = some (.ret (.bool true), s') :=
  law_run ⟨ns.map fun c => (if c < 0 then -c else c) % (10 ^ 60), 0, 0, 188719 + 7 * ns.length, 0, rfl, by decide, by decide, by omega, by decide, fun c m => by
    obtain ⟨x, _, rfl⟩ := List.mem_map.mp m
    exact Int.emod_nonneg _ (by decide)⟩
end K19
set_option maxHeartbeats 4000000
/-! K19: the end. -/
namespace K19
open PySem Iv PySem.Spec PyProof.Rows
section
variable {P : Program} {w : World} {K : PySem.W.Frag} {mg : Str → Option Value} {base : PySem.Heap} {k : Nat}
def eltH : Expr := match L2.defBody (topS 34) with
  | .Assign _ (.ListComp elt _ _ _) _ :: _ => elt
  | _ => .Constant .none 0 ⟨0, 0, 0, 0⟩
def scH : Scope := match L2.defBody (topS 34) with
  | .Assign _ (.ListComp _ _ s _) _ :: _ => s
  | _ => { kind := .function, names := [], isGenerator := false, isCoroutine := false }
def esH : List Expr := match L2.defBody (topS 34) with
  | [_, .Return (some (.List es _)) _] => es
  | _ => []
def prH : Pos := match L2.defBody (topS 34) with
  | [_, .Return (some (.List _ p)) _] => p
  | _ => ⟨0, 0, 0, 0⟩
def csH : List E := [.var 1, .cst (.int 0), .cst (.int 0), .op .add [.cst (.int 188719), .op .mul [.cst (.int 7), .op .len [.var 1]]], .cst (.int 0)]
theorem hand_ok {fa : Addr} {fd : FuncData} (F : L2.Fun K "_law_hand" "_law_hand" (topS 34) fa fd) (blt : ∀ x ∈ bltNames, mg x = none) : L2.FnOk P w K mg base L2.CX0 (k + 1) fa fd ["script"] (spHand K (fun c => (if c < 0 then -c else c) % (10 ^ 60)) 188719) := by
  refine handA_ok (n := 40) (elt := eltH) (ret := .List esH prH) (scope := scH) (ce := .op .mod [.op .int [.op .abs [.op .int [.var 2]]], .op .pow [.cst (.int 10), .cst (.int 60)]]) (γ := ⟨[("script" : Str), ("cells" : Str), ("cell" : Str)], (L2.defScope (topS 34)).names, [], []⟩) F sc34 rfl rfl rfl (by decide +kernel) (by decide +kernel) (by decide +kernel) (by decide +kernel) (by decide +kernel) (by decide +kernel) (by kernel_rfl) rfl rfl (fun c s h => ?_) (es := esH) (cs := csH) (pr := prH) rfl (by kernel_rfl) rfl (fun ns h => ⟨([.no, .ow (.list ((ns.map fun c => (if c < 0 then -c else c) % (10 ^ 60)).map .int)), .no], none), ?_⟩) blt
  · simp [ev, evs, h, o_intI, o_abs, powOk]
  · simp [bare, handD, csH]
theorem cst_ok (hc : (∃ t, mg "MOST_SIZE" = some (.int 20 t))) : ∀ x d, cst.lookup x = some d → ∃ (u : Value) (v : L2.V), mg x = some u ∧ L2.RelV v u ∧ ∀ H, Rep K H v d [] := fun x d e => by
  obtain ⟨t0, h0⟩ := hc
  unfold cst at e
  rw [List.lookup_cons] at e
  split at e
  · rename_i q
    have q : x = ("MOST_SIZE" : Str) := by simpa using q
    subst q
    cases e
    exact ⟨_, .int 20, h0, ⟨_, rfl⟩, fun _ => .int 20⟩
  cases e
theorem law_done {fa fh : Addr} {fd fdh : FuncData} (Fu : L2.Fun K "law" "law" (topS 45) fa fd) (Fh : L2.Fun K "_law_hand" "_law_hand" (topS 34) fh fdh) (hh : mg "_law_hand" = some (.ref fh)) (hk : PySem.W.keepIn K (.ref fh) = true)
    (W : ∀ e ∈ tab, Wrote K mg e) (blt : ∀ x ∈ bltNames, mg x = none) (hc : (∃ t, mg "MOST_SIZE" = some (.int 20 t))) : L2.FnOk P w K mg base L2.CX0 21 fa fd ["script"] (spLaw K) := by
  have all := fk_ok (P := P) (w := w) (base := base) W scs blt (cst_ok (K := K) hc) 20
  refine law_ok (γ := gamOf tab cst e45) (N := e45.N) (rest := [("begin" : Str), ("size" : Str), ("top" : Str), ("bottom" : Str), ("one" : Str), ("other" : Str)]) (sts := (L2.defBody e45.st).tail) (m := 40) (n0 := 40) (F := Fk tab cst 20) Fu sc45 rfl rfl rfl rfl hh hk (hand_ok Fh blt) (bn34 Fh) (by decide +kernel) (by decide +kernel) (by decide +kernel) (fun i x h q => ?_) blt (cst_ok hc) (fun ns hl => ?_)
  · have q' : (tab.map fun e => (e.name, e.h))[i]? = some (x, h) := q
    rw [List.getElem?_map, Option.map_eq_some_iff] at q'
    obtain ⟨e', he', z⟩ := q'
    cases z
    obtain ⟨f', fd', g1, g2, g3, g4⟩ := all i e' he'
    exact ⟨f', fd', e'.ps, g1, g2, g3, g4⟩
  · obtain ⟨s', e⟩ := hrun ns hl
    exact ⟨1000000, s', (congrArg (fun x => exs _ _ x _) rLaw).trans e⟩
end
theorem all_mk {l : PySem.W.OpenLaw} {w : World} {K : PySem.W.Frag} {h : PySem.Heap} {mg : Str → Option Value} {fa f1 f2 : Addr} (X : K.In h) (G : h.Ns mainGlobals mg) (hfa : mg "law" = some (.ref fa))
    {oc1 kV1 dc1 pm1 cd1 ct1 : Value} {od1 an1 : Option Addr} {sl1 : Array (Option Value)} (a1 : PySem.W.nsIn K mainGlobals "law" = some (some (.ref f1))) (l1 : K.lookup f1 = some ⟨oc1, od1, .func (PySem.W.fnOf "law" "law" (L2.defArgs (topS 45)) (L2.defBody (topS 45)) (L2.defScope (topS 45)) .none kV1 dc1 pm1 an1 cd1 ct1), sl1⟩) (c1 : PySem.W.codeIn K cd1 "law" = true) (k1 : PySem.W.keepIn K (.ref f1) = true)
    {oc2 kV2 dc2 pm2 cd2 ct2 : Value} {od2 an2 : Option Addr} {sl2 : Array (Option Value)} (a2 : PySem.W.nsIn K mainGlobals "_law_hand" = some (some (.ref f2))) (l2 : K.lookup f2 = some ⟨oc2, od2, .func (PySem.W.fnOf "_law_hand" "_law_hand" (L2.defArgs (topS 34)) (L2.defBody (topS 34)) (L2.defScope (topS 34)) .none kV2 dc2 pm2 an2 cd2 ct2), sl2⟩) (c2 : PySem.W.codeIn K cd2 "_law_hand" = true) (k2 : PySem.W.keepIn K (.ref f2) = true)
    (La_1 : Laid K e1) (La_2 : Laid K e2) (La_3 : Laid K e3) (La_11 : Laid K e11) (La_12 : Laid K e12) (La_13 : Laid K e13) (La_14 : Laid K e14) (La_16 : Laid K e16) (La_17 : Laid K e17) (La_18 : Laid K e18) (La_19 : Laid K e19) (La_21 : Laid K e21) (La_22 : Laid K e22) (La_23 : Laid K e23) (La_24 : Laid K e24) (La_25 : Laid K e25) (La_26 : Laid K e26) (La_27 : Laid K e27) (La_29 : Laid K e29) (La_30 : Laid K e30) (La_31 : Laid K e31) (La_32 : Laid K e32) (La_35 : Laid K e35) (La_39 : Laid K e39) (La_42 : Laid K e42) (La_43 : Laid K e43) (La_44 : Laid K e44)
    (z0 : PySem.W.nsIn K mainGlobals "len" = some none) (z1 : PySem.W.nsIn K mainGlobals "abs" = some none) (z2 : PySem.W.nsIn K mainGlobals "int" = some none) (z3 : PySem.W.nsIn K mainGlobals "max" = some none) (z4 : PySem.W.nsIn K mainGlobals "min" = some none) (z5 : PySem.W.nsIn K mainGlobals "sum" = some none) (z6 : PySem.W.nsIn K mainGlobals "all" = some none) (z7 : PySem.W.nsIn K mainGlobals "any" = some none) (z8 : PySem.W.nsIn K mainGlobals "tuple" = some none) (z9 : PySem.W.nsIn K mainGlobals "list" = some none) (z10 : PySem.W.nsIn K mainGlobals "sorted" = some none) (z11 : PySem.W.nsIn K mainGlobals "isinstance" = some none) (z12 : PySem.W.nsIn K mainGlobals "bool" = some none) (z13 : PySem.W.nsIn K mainGlobals "range" = some none) (z14 : PySem.W.nsIn K mainGlobals "enumerate" = some none) (z15 : PySem.W.nsIn K mainGlobals "zip" = some none) (z16 : PySem.W.nsIn K mainGlobals "reversed" = some none) (z17 : PySem.W.nsIn K mainGlobals "str" = some none) {t0 : Nat} (m0 : PySem.W.nsIn K mainGlobals "MOST_SIZE" = some (some (.int 20 t0))) :
    ∃ fd : FuncData, (∀ (s : Shared) (v : Value), BindsTo s fd ⟨[v], []⟩ [("script", v)]) ∧ ∀ base : PySem.Heap, K.In base → base.Ns mainGlobals mg → L2.FnOk l.prog w K mg base L2.CX0 21 fa fd ["script"] (spLaw K) := by
  have e := hfa.symm.trans (PySem.W.mg_of X G a1)
  cases e
  have F1 : L2.Fun K "law" "law" (topS 45) fa _ := L2.fun_mk l1 c1 k1
  have F2 : L2.Fun K "_law_hand" "_law_hand" (topS 34) f2 _ := L2.fun_mk l2 c2 k2
  have W : ∀ e ∈ tab, Wrote K mg e := by
    simp only [tab, List.mem_cons, List.not_mem_nil, or_false]
    rintro e (rfl | rfl | rfl | rfl | rfl | rfl | rfl | rfl | rfl | rfl | rfl | rfl | rfl | rfl | rfl | rfl | rfl | rfl | rfl | rfl | rfl | rfl | rfl | rfl | rfl | rfl | rfl | rfl | rfl | rfl | rfl | rfl | rfl | rfl)
    · exact wrote_of X G La_1 bn1
    · exact wrote_of X G La_2 bn2
    · exact wrote_of X G La_3 bn3
    · exact wrote_of X G La_11 bn11
    · exact wrote_of X G La_12 bn12
    · exact wrote_of X G La_13 bn13
    · exact wrote_of X G La_14 bn14
    · exact wrote_of X G La_16 bn16
    · exact wrote_of X G La_17 bn17
    · exact wrote_of X G La_18 bn18
    · exact wrote_of X G La_19 bn19
    · exact wrote_of X G La_21 bn21
    · exact wrote_of X G La_22 bn22
    · exact wrote_of X G La_23 bn23
    · exact wrote_of X G La_24 bn24
    · exact wrote_of X G La_25 bn25
    · exact wrote_of X G La_26 bn26
    · exact wrote_of X G La_27 bn27
    · exact wrote_of X G La_29 bn29
    · exact wrote_of X G La_30 bn30
    · exact wrote_of X G La_31 bn31
    · exact wrote_of X G La_32 bn32
    · exact ⟨f2, _, PySem.W.mg_of X G a2, k2, F2, bn34 F2⟩
    · exact wrote_of X G La_35 bn35
    · exact wrote_of X G La_1 bn1
    · exact wrote_of X G La_1 bn1
    · exact wrote_of X G La_1 bn1
    · exact wrote_of X G La_39 bn39
    · exact wrote_of X G La_1 bn1
    · exact wrote_of X G La_1 bn1
    · exact wrote_of X G La_42 bn42
    · exact wrote_of X G La_43 bn43
    · exact wrote_of X G La_44 bn44
    · exact ⟨fa, _, hfa, k1, F1, bn45 F1⟩
  have blt : ∀ x ∈ bltNames, mg x = none := by
    simp only [bltNames, List.mem_cons, List.not_mem_nil, or_false]
    rintro x (rfl | rfl | rfl | rfl | rfl | rfl | rfl | rfl | rfl | rfl | rfl | rfl | rfl | rfl | rfl | rfl | rfl | rfl)
    · exact PySem.W.mg_none_of X G z0
    · exact PySem.W.mg_none_of X G z1
    · exact PySem.W.mg_none_of X G z2
    · exact PySem.W.mg_none_of X G z3
    · exact PySem.W.mg_none_of X G z4
    · exact PySem.W.mg_none_of X G z5
    · exact PySem.W.mg_none_of X G z6
    · exact PySem.W.mg_none_of X G z7
    · exact PySem.W.mg_none_of X G z8
    · exact PySem.W.mg_none_of X G z9
    · exact PySem.W.mg_none_of X G z10
    · exact PySem.W.mg_none_of X G z11
    · exact PySem.W.mg_none_of X G z12
    · exact PySem.W.mg_none_of X G z13
    · exact PySem.W.mg_none_of X G z14
    · exact PySem.W.mg_none_of X G z15
    · exact PySem.W.mg_none_of X G z16
    · exact PySem.W.mg_none_of X G z17
  exact ⟨PySem.W.fnOf "law" "law" (L2.defArgs (topS 45)) (L2.defBody (topS 45)) (L2.defScope (topS 45)) .none kV1 dc1 pm1 an1 cd1 ct1, fun s v => .of_eq rfl, fun base _ _ => law_done F1 F2 (PySem.W.mg_of X G a2) k2 W blt ⟨_, PySem.W.mg_of X G m0⟩⟩
end K19
open PySem PySem.W PyProof.Rows
set_option maxHeartbeats 0 in
theorem PySem.Challenge.cw_eachaseach_k19_whole_rows_of_two_by_squa_holds : PySem.Challenge.rw_eachaseach_k19_whole_rows_of_two_by_squa.Holds := by
  w_on; o_law; k_head; (case hw => w_witness2)
  k_fill
  refine L2.walk_of (l := PySem.Challenge.rw_eachaseach_k19_whole_rows_of_two_by_squa) (n := 63) (k := 21) (x := "script") (CX := fun _ => L2.CX0) (sp := fun w => Iv.spLaw _) rfl (by decide) rfl ⟨rfl, by decide, by decide⟩ (fun w h Y => PySem.W.kIn_of Y) ?F (fun _ _ a ns hl _ hS => ⟨a, ns, rfl, hS, hl, fun _ => rfl⟩) (fun _ _ _ _ _ h => h)
  case F =>
    intro w mg fa h KX G hmg
    refine' K19.all_mk KX G hmg ?a1 ?l1 ?c1 ?k1 ?a2 ?l2 ?c2 ?k2 (Iv.laid_mk ?a_1 ?l_1 ?c_1 ?k_1) (Iv.laid_mk ?a_2 ?l_2 ?c_2 ?k_2) (Iv.laid_mk ?a_3 ?l_3 ?c_3 ?k_3) (Iv.laid_mk ?a_11 ?l_11 ?c_11 ?k_11) (Iv.laid_mk ?a_12 ?l_12 ?c_12 ?k_12) (Iv.laid_mk ?a_13 ?l_13 ?c_13 ?k_13) (Iv.laid_mk ?a_14 ?l_14 ?c_14 ?k_14) (Iv.laid_mk ?a_16 ?l_16 ?c_16 ?k_16) (Iv.laid_mk ?a_17 ?l_17 ?c_17 ?k_17) (Iv.laid_mk ?a_18 ?l_18 ?c_18 ?k_18) (Iv.laid_mk ?a_19 ?l_19 ?c_19 ?k_19) (Iv.laid_mk ?a_21 ?l_21 ?c_21 ?k_21) (Iv.laid_mk ?a_22 ?l_22 ?c_22 ?k_22) (Iv.laid_mk ?a_23 ?l_23 ?c_23 ?k_23) (Iv.laid_mk ?a_24 ?l_24 ?c_24 ?k_24) (Iv.laid_mk ?a_25 ?l_25 ?c_25 ?k_25) (Iv.laid_mk ?a_26 ?l_26 ?c_26 ?k_26) (Iv.laid_mk ?a_27 ?l_27 ?c_27 ?k_27) (Iv.laid_mk ?a_29 ?l_29 ?c_29 ?k_29) (Iv.laid_mk ?a_30 ?l_30 ?c_30 ?k_30) (Iv.laid_mk ?a_31 ?l_31 ?c_31 ?k_31) (Iv.laid_mk ?a_32 ?l_32 ?c_32 ?k_32) (Iv.laid_mk ?a_35 ?l_35 ?c_35 ?k_35) (Iv.laid_mk ?a_39 ?l_39 ?c_39 ?k_39) (Iv.laid_mk ?a_42 ?l_42 ?c_42 ?k_42) (Iv.laid_mk ?a_43 ?l_43 ?c_43 ?k_43) (Iv.laid_mk ?a_44 ?l_44 ?c_44 ?k_44) ?z0 ?z1 ?z2 ?z3 ?z4 ?z5 ?z6 ?z7 ?z8 ?z9 ?z10 ?z11 ?z12 ?z13 ?z14 ?z15 ?z16 ?z17 ?m0
    (case a1 => k_is); (case l1 => k_is); (case c1 => k_is); (case k1 => k_is); (case a2 => k_is); (case l2 => k_is); (case c2 => k_is); (case k2 => k_is)
    (case a_1 => k_is); (case l_1 => k_is); (case c_1 => k_is); (case k_1 => k_is)
    (case a_2 => k_is); (case l_2 => k_is); (case c_2 => k_is); (case k_2 => k_is)
    (case a_3 => k_is); (case l_3 => k_is); (case c_3 => k_is); (case k_3 => k_is)
    (case a_11 => k_is); (case l_11 => k_is); (case c_11 => k_is); (case k_11 => k_is)
    (case a_12 => k_is); (case l_12 => k_is); (case c_12 => k_is); (case k_12 => k_is)
    (case a_13 => k_is); (case l_13 => k_is); (case c_13 => k_is); (case k_13 => k_is)
    (case a_14 => k_is); (case l_14 => k_is); (case c_14 => k_is); (case k_14 => k_is)
    (case a_16 => k_is); (case l_16 => k_is); (case c_16 => k_is); (case k_16 => k_is)
    (case a_17 => k_is); (case l_17 => k_is); (case c_17 => k_is); (case k_17 => k_is)
    (case a_18 => k_is); (case l_18 => k_is); (case c_18 => k_is); (case k_18 => k_is)
    (case a_19 => k_is); (case l_19 => k_is); (case c_19 => k_is); (case k_19 => k_is)
    (case a_21 => k_is); (case l_21 => k_is); (case c_21 => k_is); (case k_21 => k_is)
    (case a_22 => k_is); (case l_22 => k_is); (case c_22 => k_is); (case k_22 => k_is)
    (case a_23 => k_is); (case l_23 => k_is); (case c_23 => k_is); (case k_23 => k_is)
    (case a_24 => k_is); (case l_24 => k_is); (case c_24 => k_is); (case k_24 => k_is)
    (case a_25 => k_is); (case l_25 => k_is); (case c_25 => k_is); (case k_25 => k_is)
    (case a_26 => k_is); (case l_26 => k_is); (case c_26 => k_is); (case k_26 => k_is)
    (case a_27 => k_is); (case l_27 => k_is); (case c_27 => k_is); (case k_27 => k_is)
    (case a_29 => k_is); (case l_29 => k_is); (case c_29 => k_is); (case k_29 => k_is)
    (case a_30 => k_is); (case l_30 => k_is); (case c_30 => k_is); (case k_30 => k_is)
    (case a_31 => k_is); (case l_31 => k_is); (case c_31 => k_is); (case k_31 => k_is)
    (case a_32 => k_is); (case l_32 => k_is); (case c_32 => k_is); (case k_32 => k_is)
    (case a_35 => k_is); (case l_35 => k_is); (case c_35 => k_is); (case k_35 => k_is)
    (case a_39 => k_is); (case l_39 => k_is); (case c_39 => k_is); (case k_39 => k_is)
    (case a_42 => k_is); (case l_42 => k_is); (case c_42 => k_is); (case k_42 => k_is)
    (case a_43 => k_is); (case l_43 => k_is); (case c_43 => k_is); (case k_43 => k_is)
    (case a_44 => k_is); (case l_44 => k_is); (case c_44 => k_is); (case k_44 => k_is)
    (case z0 => k_is)
    (case z1 => k_is)
    (case z2 => k_is)
    (case z3 => k_is)
    (case z4 => k_is)
    (case z5 => k_is)
    (case z6 => k_is)
    (case z7 => k_is)
    (case z8 => k_is)
    (case z9 => k_is)
    (case z10 => k_is)
    (case z11 => k_is)
    (case z12 => k_is)
    (case z13 => k_is)
    (case z14 => k_is)
    (case z15 => k_is)
    (case z16 => k_is)
    (case z17 => k_is)
    (case m0 => k_is)
