import PyProof.Rows.All
import Wide.All
import OpenK.AllK
import Wide.FinOn
import HandS.ForMost
import HandS.ForExc
import HandS.Defaults
import HandS.Wide
import HandS.Zip
import HandS.TupAny
import HandS.TupMul
import HandS.IsInst
import HandS.SortInts
import HandS.Deep
import HandS.Style
import HandS.TryOnly
import KE.KStateDown
import Lean
import HandS.Head0
import HandS.Head1
import HandS.Head2
import HandS.HeadEnd
import HandS.HeadHook1
import HandS.HeadHook2
import PySem.Challenge.RW_restsmapped_k56_whole_split_rests
set_option Elab.async false
set_option linter.all false
set_option maxRecDepth 100000
set_option maxHeartbeats 0
/-! M1.lean -/
/-! Mi: a small language of our own over trees of values: its expressions, statements, and what they come to. -/
namespace Mi
open PySem

/-- values as trees -/
inductive U where
  | non | bl (b : Bool) | int (i : Int) | str (s : Str) | tup (us : List U) | lst (us : List U)

/-- a slot: a list of its own (may be changed), a list lent (read, never kept), any other value, the law's cup, the law's script -/
inductive Sl where
  | own (us : List U) | bor (u : U) | fr (u : U) | cup | scr (us : List U)

abbrev Ev := List (Option Sl)
abbrev Cs := Option (List U)
inductive Res (α : Type) where
  | ok (a : α) (c : Cs) | exc (x : Str) (c : Cs) | bad
abbrev M (α : Type) := Cs → Res α
def ret {α : Type} (a : α) : M α := fun c => .ok a c
def bad {α : Type} : M α := fun _ => .bad
def bnd {α β : Type} (m : M α) (f : α → M β) : M β := fun c => match m c with
  | .ok a c' => f a c'
  | .exc x c' => .exc x c'
  | .bad => .bad
def opt {α : Type} : Option α → M α
  | some a => ret a
  | none => bad

inductive Bop where | add | sub | mul | fdiv | mod | pow
inductive Cop where | eq | ne | lt | le | gt | ge | is | isnot | isin | notin
inductive Ty where | int | bool | tuple | list | str
inductive Bi where | int | len | abs | sum | max | min | all | list | tuple | sorted

inductive E where
  | nil | cons (e es : E)
  | var (i : Nat) | evar (i : Nat) | lvar (i : Nat)
  | con (u : U)
  | bin (op : Bop) (a b : E)
  | neg (a : E) | not (a : E)
  | cmp (op : Cop) (a b : E)
  | cmp2 (op op' : Cop) (a b c : E)
  | and (a b : E) | or (a b : E)
  | ite (c a b : E)
  | tup (es : E) | lst (es : E)
  | call (k : Nat) (es : E)
  | callC (k : Nat) (j : Nat) (es : E)
  | callS (k : Nat) (j : Nat)
  | lscr (j : Nat)
  | b1 (f : Bi) (a : E)
  | max2 (a b : E) | min2 (a b : E)
  | isi (a : E) (t : Ty)
  | sub (a i : E)
  | slc (l h : Bool) (a lo hi : E)
  | rev (a : E)
  | comp (own : List Nat) (tg : List Nat) (flat : Bool) (it : E) (ifs : Bool) (cond elt : E)
  | iseq (a : E) | rng1 (a : E) | rng2 (a b : E) | rng3 (a b c : E) | zip (a b : E) | enum (a : E)

/-! ### what a value is -/
def L : Nat := 16777216
def mulOk (i j : Int) : Bool := (i.natAbs < 18446744073709551616) || (j.natAbs < 18446744073709551616) || (i.natAbs.log2 + j.natAbs.log2 < 1000000)
def bop : Bop → U → U → Option U
  | .add, .int i, .int j => some (.int (i + j))
  | .add, .lst a, .lst b => if a.length + b.length ≤ L then some (.lst (a ++ b)) else none
  | .add, .tup a, .tup b => if a.length + b.length ≤ L then some (.tup (a ++ b)) else none
  | .sub, .int i, .int j => some (.int (i - j))
  | .mul, .int i, .int j => if mulOk i j = true then some (.int (i * j)) else none
  | .mul, .lst a, .int k => if -1000000 ≤ k ∧ k ≤ 1000000 ∧ a.length * k.toNat ≤ L then some (.lst (List.replicate k.toNat a).flatten) else none
  | .mul, .tup a, .int k => if 0 < a.length ∧ 2 ≤ k ∧ k ≤ 1000 ∧ a.length ≤ 1000 then some (.tup (List.replicate k.toNat a).flatten) else none
  | .fdiv, .int i, .int j => if 0 < j ∧ j.natAbs.log2 < 9000 then some (.int (i / j)) else none
  | .mod, .int i, .int j => if 0 < j then some (.int (i % j)) else none
  | .pow, .int i, .int j => if 0 ≤ j ∧ j ≤ 1000000 ∧ i.natAbs < 18446744073709551616 then some (.int (i ^ j.toNat)) else none
  | _, _, _ => none

mutual
/-- Python's == -/
def ueq : U → U → Bool
  | .non, .non => true
  | .bl a, .bl b => a == b
  | .bl a, .int j => (if a then 1 else 0) == j
  | .int i, .bl b => i == (if b then 1 else 0)
  | .int i, .int j => i == j
  | .str x, .str y => x == y
  | .lst xs, .lst ys => ueqs xs ys
  | .tup xs, .tup ys => ueqs xs ys
  | _, _ => false
def ueqs : List U → List U → Bool
  | [], [] => true
  | x :: xs, y :: ys => ueq x y && ueqs xs ys
  | _, _ => false
end
mutual
/-- how deep a value is -/
def dep : U → Nat
  | .tup us => deps us + 1
  | .lst us => deps us + 1
  | _ => 0
def deps : List U → Nat
  | [] => 0
  | u :: us => max (dep u) (deps us)
end
mutual
/-- the texts in a value are right -/
def sok : U → Bool
  | .str s => PyData.strOk s
  | .tup us => soks us
  | .lst us => soks us
  | _ => true
def soks : List U → Bool
  | [] => true
  | u :: us => sok u && soks us
end
def fine (u : U) : Bool := decide (dep u ≤ 60) && sok u
def flat : U → Bool
  | .tup _ => false
  | .lst _ => false
  | _ => true
def isNon : U → Bool
  | .non => true
  | _ => false
def cop : Cop → U → U → Option Bool
  | .eq, u, v => if (fine u && fine v) = true then some (ueq u v) else none
  | .ne, u, v => if (fine u && fine v) = true then some (!ueq u v) else none
  | .lt, .int i, .int j => some (decide (i < j))
  | .le, .int i, .int j => some (decide (i ≤ j))
  | .gt, .int i, .int j => some (decide (j < i))
  | .ge, .int i, .int j => some (decide (j ≤ i))
  | .is, u, .non => some (isNon u)
  | .isnot, u, .non => some (!isNon u)
  | .is, .bl a, .bl b => some (a == b)
  | .isnot, .bl a, .bl b => some (!(a == b))
  | .isin, u, .lst us => if (fine u && fine (.lst us)) = true then some (us.any fun z => ueq z u) else none
  | .notin, u, .lst us => if (fine u && fine (.lst us)) = true then some (!us.any fun z => ueq z u) else none
  | .isin, u, .tup us => if (flat u && us.all flat) = true then some (us.any fun z => ueq z u) else none
  | .notin, u, .tup us => if (flat u && us.all flat) = true then some (!us.any fun z => ueq z u) else none
  | _, _, _ => none
def isTy : Ty → U → Bool
  | .int, .int _ => true
  | .int, .bl _ => true
  | .bool, .bl _ => true
  | .tuple, .tup _ => true
  | .list, .lst _ => true
  | .str, .str _ => true
  | _, _ => false

/-- a list of whole numbers, of truths -/
def nums : List U → Option (List Int)
  | [] => some []
  | .int i :: r => (nums r).map (i :: ·)
  | _ :: _ => none
def bls : List U → Option (List Bool)
  | [] => some []
  | .bl b :: r => (bls r).map (b :: ·)
  | _ :: _ => none
def ins (x : Int) : List Int → List Int
  | [] => [x]
  | y :: ys => if x ≤ y then x :: y :: ys else y :: ins x ys
def isort : List Int → List Int
  | [] => []
  | x :: xs => ins x (isort xs)
def lmax : List Int → Int → Int
  | [], m => m
  | x :: xs, m => lmax xs (if m < x then x else m)
def lmin : List Int → Int → Int
  | [], m => m
  | x :: xs, m => lmin xs (if x < m then x else m)
def seq? : U → Option (List U)
  | .tup us => some us
  | .lst us => some us
  | _ => none
def bi : Bi → U → Option U
  | .int, .int i => some (.int i)
  | .int, .bl b => some (.int (if b then 1 else 0))
  | .len, .tup us => some (.int us.length)
  | .len, .lst us => some (.int us.length)
  | .abs, .int i => some (.int (if i < 0 then -i else i))
  | .sum, .lst us => (nums us).map fun ns => .int ns.sum
  | .max, .lst us => (nums us).bind fun ns => match ns with
    | [] => none
    | n :: r => some (.int (lmax r n))
  | .min, .lst us => (nums us).bind fun ns => match ns with
    | [] => none
    | n :: r => some (.int (lmin r n))
  | .all, .lst us => (bls us).map fun bs => .bl (bs.all id)
  | .list, .tup us => some (.lst us)
  | .list, .lst us => some (.lst us)
  | .tuple, .tup us => some (.tup us)
  | .tuple, .lst us => some (.tup us)
  | .sorted, .lst us => (nums us).map fun ns => .lst ((isort ns).map .int)
  | _, _ => none
/-- the place of an index -/
def ix (n : Nat) (i : Int) : Option Nat := if 0 ≤ i then (if i < n then some i.toNat else none) else if -(n : Int) ≤ i then some (i + n).toNat else none
def at? (us : List U) (i : Int) : Option U := (ix us.length i).bind fun j => us[j]?
def subs : U → U → Option U
  | .tup us, .int i => at? us i
  | .lst us, .int i => at? us i
  | _, _ => none
def sx (n d : Nat) : Option Int → Nat
  | none => d
  | some v => if v < 0 then (v + (n : Int)).toNat else min v.toNat n
def cut (us : List U) (lo hi : Option Int) : List U := (us.drop (sx us.length 0 lo)).take (sx us.length us.length hi - sx us.length 0 lo)
def part : Bool → U → Option (Option Int)
  | false, _ => some none
  | true, .int i => some (some i)
  | true, _ => none
def slcs : U → Option Int → Option Int → Option U
  | .tup us, lo, hi => some (.tup (cut us lo hi))
  | .lst us, lo, hi => some (.lst (cut us lo hi))
  | _, _, _ => none
def revs : U → Option U
  | .lst us => some (.lst us.reverse)
  | _ => none
def upTo (lo : Int) (n : Nat) : List U := (List.range n).map fun (k : Nat) => U.int (lo + (k : Int))
def in62 (i : Int) : Bool := decide (-4611686018427387904 ≤ i ∧ i < 4611686018427387904)
def rng : U → U → Option (List U)
  | .int i, .int j => if (in62 i && in62 j) = true then some (upTo i (j - i).toNat) else none
  | _, _ => none
/-- range(i, j, c): the items -/
def upBy (lo c : Int) (n : Nat) : List U := (List.range n).map fun (k : Nat) => U.int (lo + (k : Int) * c)
def rngC : U → U → U → Option (List U)
  | .int i, .int j, .int c => if (decide (c ≠ 0) && decide (c.natAbs < 1073741824) && Builtin.Range.small i j c && decide (Builtin.Range.rangeSize i j c = (((Builtin.Range.rangeSize i j c).toNat : Nat) : Int))) = true then some (upBy i c (Builtin.Range.rangeSize i j c).toNat) else none
  | _, _, _ => none
def zips : U → U → Option (List U)
  | .tup a, .tup b => some ((a.zip b).map fun p => .tup [p.1, p.2])
  | .lst a, .lst b => some ((a.zip b).map fun p => .tup [p.1, p.2])
  | _, _ => none
def enumF : Nat → List U → List U
  | _, [] => []
  | k, u :: us => .tup [.int k, u] :: enumF (k + 1) us
def enums : U → Option (List U)
  | .lst us => some (enumF 0 us)
  | _ => none

/-! ### slots -/
/-- the value of a name, to be looked at -/
def look (ρ : Ev) (i : Nat) : Option U := match ρ[i]? with
  | some (some (.own us)) => some (.lst us)
  | some (some (.bor u)) => some u
  | some (some (.fr u)) => some u
  | _ => none
def isLst : U → Bool
  | .lst _ => true
  | _ => false
/-- .. to be kept -/
def keep (ρ : Ev) (i : Nat) : Option U := match ρ[i]? with
  | some (some (.bor u)) => if isLst u then none else some u
  | some (some (.fr u)) => some u
  | _ => none
def scrOf (ρ : Ev) (i : Nat) : Option (List U) := match ρ[i]? with
  | some (some (.scr us)) => some us
  | _ => none
/-- .. to be walked, by a loop that may store -/
def lent (ρ : Ev) (i : Nat) : Option U := match ρ[i]? with
  | some (some (.bor u)) => some u
  | some (some (.fr u)) => some u
  | _ => none
def isCup (ρ : Ev) (i : Nat) : Bool := match ρ[i]? with
  | some (some .cup) => true
  | _ => false
/-- a name stored -/
def put (ρ : Ev) (i : Nat) (u : U) : Ev := ρ.set i (some (.fr u))
def puts : List Nat → List U → Ev → Option Ev
  | [], [], ρ => some ρ
  | i :: is, u :: us, ρ => puts is us (put ρ i u)
  | _, _, _ => none
/-- a target: one name, or names in a row -/
def asg (tg : List Nat) (flat : Bool) (u : U) (ρ : Ev) : Option Ev := match flat, tg, u with
  | true, [i], u => some (put ρ i u)
  | false, is, .tup us => puts is us ρ
  | _, _, _ => none
def wip (ρ : Ev) : List Nat → Ev
  | [] => ρ
  | i :: is => (wip ρ is).set i none

/-! ### what own defs are worth -/
/-- a def without a cup: its arguments' trees to its answer; with one: the cup before and behind -/
inductive An where
  | ok (u : U) | exc (x : Str) | bad
inductive Fs where
  | pure (n : Nat) (fresh : Bool) (P : List U → An)
  | cupd (n : Nat) (fresh : Bool) (P : List U → List U → Option (U × List U))
  | scr (P : List U → Option U)
abbrev Gm := List Fs

def ans : An → M U
  | .ok u => ret u
  | .exc x => fun c => .exc x c
  | .bad => bad
/-! ### loops -/
/-- no error leaves it -/
def bndN {α β : Type} (m : M α) (f : α → M β) : M β := fun c => match m c with
  | .ok a c' => f a c'
  | .exc _ _ => .bad
  | .bad => .bad
def compL (f : U → M (Option U)) : List U → List U → M (List U)
  | acc, [] => ret acc
  | acc, u :: us => bndN (f u) fun o => match o with
    | some v => if acc.length < L then compL f (acc ++ [v]) us else bad
    | none => compL f acc us
def noOwn (ρ : Ev) (own : List Nat) : Bool := own.all fun i => match ρ[i]? with
  | some (some (.own _)) => false
  | _ => true

def ofB : U → Option Bool
  | .bl b => some b
  | _ => none

/-- the cup's name -/
def isCupE : E → Ev → Bool
  | .var j, ρ => isCup ρ j
  | _, _ => false
mutual
def ev (Γ : Gm) : E → Ev → M U
  | .var i, ρ => opt (look ρ i)
  | .evar i, ρ => opt (keep ρ i)
  | .lvar i, ρ => opt (lent ρ i)
  | .con u, _ => ret u
  | .bin op a b, ρ => bnd (ev Γ a ρ) fun u => bnd (ev Γ b ρ) fun v => opt (bop op u v)
  | .neg a, ρ => bnd (ev Γ a ρ) fun u => match u with
    | .int i => ret (.int (-i))
    | _ => bad
  | .not a, ρ => bnd (ev Γ a ρ) fun u => bnd (opt (ofB u)) fun b => ret (.bl (!b))
  | .cmp op a b, ρ => bnd (ev Γ a ρ) fun u => bnd (ev Γ b ρ) fun v => bnd (opt (cop op u v)) fun r => ret (.bl r)
  | .cmp2 op op' a b c, ρ => bnd (ev Γ a ρ) fun u => bnd (ev Γ b ρ) fun v => bnd (opt (cop op u v)) fun r =>
    if r = true then bnd (ev Γ c ρ) fun w => bnd (opt (cop op' v w)) fun r' => ret (.bl r') else ret (.bl false)
  | .and a b, ρ => bnd (ev Γ a ρ) fun u => bnd (opt (ofB u)) fun r => if r = true then bnd (ev Γ b ρ) fun v => bnd (opt (ofB v)) fun r' => ret (.bl r') else ret (.bl false)
  | .or a b, ρ => bnd (ev Γ a ρ) fun u => bnd (opt (ofB u)) fun r => if r = true then ret (.bl true) else bnd (ev Γ b ρ) fun v => bnd (opt (ofB v)) fun r' => ret (.bl r')
  | .ite c a b, ρ => bnd (ev Γ c ρ) fun u => bnd (opt (ofB u)) fun r => if r = true then ev Γ a ρ else ev Γ b ρ
  | .tup es, ρ => bnd (evs Γ es ρ) fun us => if us.length ≤ L then ret (.tup us) else bad
  | .lst es, ρ => bnd (evs Γ es ρ) fun us => if us.length ≤ L then ret (.lst us) else bad
  | .call k es, ρ => bnd (evs Γ es ρ) fun us => match Γ[k]? with
    | some (.pure n _ P) => if us.length = n then ans (P us) else bad
    | _ => bad
  | .callC k j es, ρ => if isCup ρ j = true then bnd (evs Γ es ρ) fun us => fun c => match Γ[k]?, c with
    | some (.cupd n _ P), some cv => if us.length = n then (match P cv us with
      | some (u, cv') => .ok u (some cv')
      | none => .bad) else .bad
    | _, _ => .bad
    else bad
  | .callS k j, ρ => bnd (opt (scrOf ρ j)) fun us => (match Γ[k]? with
    | some (.scr P) => opt (P us)
    | _ => bad)
  | .lscr j, ρ => bnd (opt (scrOf ρ j)) fun us => ret (.lst us)
  | .b1 f a, ρ => bnd (ev Γ a ρ) fun u => opt (bi f u)
  | .max2 a b, ρ => bnd (ev Γ a ρ) fun u => bnd (ev Γ b ρ) fun v => match u, v with
    | .int i, .int j => ret (.int (if j > i then j else i))
    | _, _ => bad
  | .min2 a b, ρ => bnd (ev Γ a ρ) fun u => bnd (ev Γ b ρ) fun v => match u, v with
    | .int i, .int j => ret (.int (if j < i then j else i))
    | _, _ => bad
  | .isi a t, ρ => bnd (ev Γ a ρ) fun u => ret (.bl (isTy t u))
  | .sub a i, ρ => match isCupE a ρ with
    | true => bnd (ev Γ i ρ) fun w => fun c => match c, w with
      | some cv, .int k => (match at? cv k with
        | some u => if flat u = true then .ok u c else .bad
        | none => .bad)
      | _, _ => .bad
    | false => bnd (ev Γ a ρ) fun u => bnd (ev Γ i ρ) fun w => opt (subs u w)
  | .slc l h a lo hi, ρ => bnd (ev Γ a ρ) fun u => bnd (bnd (if l = true then ev Γ lo ρ else ret .non) fun x => opt (part l x)) fun p =>
    bnd (bnd (if h = true then ev Γ hi ρ else ret .non) fun y => opt (part h y)) fun q => opt (slcs u p q)
  | .rev a, ρ => bnd (ev Γ a ρ) fun u => opt (revs u)
  | .comp own tg fl it ifs cond elt, ρ => if noOwn ρ own = false then bad else bnd (evi Γ it ρ) fun items => bnd (compL (fun u => match asg tg fl u (wip ρ own) with
      | some ρ' => bnd (if ifs = true then ev Γ cond ρ' else ret (.bl true)) fun t => bnd (opt (ofB t)) fun b => if b = true then bnd (ev Γ elt ρ') fun v => ret (some v) else ret none
      | none => bad) [] items) fun r => ret (.lst r)
  | _, _ => bad
def evs (Γ : Gm) : E → Ev → M (List U)
  | .nil, _ => ret []
  | .cons e es, ρ => bnd (ev Γ e ρ) fun u => bnd (evs Γ es ρ) fun us => ret (u :: us)
  | _, _ => bad
def evi (Γ : Gm) : E → Ev → M (List U)
  | .iseq a, ρ => bnd (ev Γ a ρ) fun u => opt (seq? u)
  | .rng1 a, ρ => bnd (ev Γ a ρ) fun u => opt (rng (.int 0) u)
  | .rng2 a b, ρ => bnd (ev Γ a ρ) fun u => bnd (ev Γ b ρ) fun v => opt (rng u v)
  | .rng3 a b c, ρ => bnd (ev Γ a ρ) fun u => bnd (ev Γ b ρ) fun v => bnd (ev Γ c ρ) fun w => opt (rngC u v w)
  | .zip a b, ρ => bnd (ev Γ a ρ) fun u => bnd (ev Γ b ρ) fun v => opt (zips u v)
  | .enum a, ρ => bnd (ev Γ a ρ) fun u => opt (enums u)
  | _, _ => bad
end

/-! ### what a value's address is: lent, any, new -/
inductive Cl where | tr | lv | any | new
def Cl.meet : Cl → Cl → Cl
  | .tr, _ => .tr
  | _, .tr => .tr
  | .lv, _ => .lv
  | _, .lv => .lv
  | .any, _ => .any
  | _, .any => .any
  | .new, .new => .new
def cl (Γ : Gm) : E → Cl
  | .var _ => .tr
  | .evar _ => .any
  | .lvar _ => .lv
  | .sub _ _ => .any
  | .ite _ a b => (cl Γ a).meet (cl Γ b)
  | .call k _ => (match Γ[k]? with
    | some (.pure _ true _) => .new
    | _ => .any)
  | .callC k _ _ => (match Γ[k]? with
    | some (.cupd _ true _) => .new
    | _ => .any)
  | .b1 .list _ => .new
  | .b1 .sorted _ => .new
  | _ => .new
def Cl.kept : Cl → Bool
  | .tr => false
  | .lv => false
  | _ => true
def Cl.walk : Cl → Bool
  | .tr => false
  | _ => true
def walkOk (Γ : Gm) : E → Bool
  | .iseq a => (cl Γ a).walk
  | .zip a b => (cl Γ a).walk && (cl Γ b).walk
  | .enum a => (cl Γ a).walk
  | _ => true
/-- may be kept -/
def keptE : E → Bool
  | .var _ => false
  | .lvar _ => false
  | .ite _ a b => keptE a && keptE b
  | _ => true
def Cl.isNew : Cl → Bool
  | .new => true
  | _ => false

/-! ### statements -/
inductive S where
  | nil | cons (s r : S)
  | set (i : Nat) (e : E)
  | frz (i : Nat)
  | par (i j : Nat) (a b : E)
  | par3 (i j k : Nat) (a b c : E)
  | unp (is : List Nat) (e : E)
  | seti (i : Nat) (k e : E)
  | app (i : Nat) (e : E)
  | drop (e : E)
  | ret (e : E) | retv (i : Nat) | retN
  | ite (c : E) (a b : S)
  | whl (c : E) (b : S)
  | loop (tg : List Nat) (flat : Bool) (it : E) (b : S)
  | brk | cnt | pas
  | never
  | mkcup (i : Nat) (e : E)
inductive Fl where
  | nx (ρ : Ev) | bk (ρ : Ev) | ct (ρ : Ev) | rt (u : U)

/-- a name stored: a new list is the name's own -/
def puto (ρ : Ev) (own : Bool) (i : Nat) (u : U) : Ev := match own, u with
  | true, .lst us => ρ.set i (some (.own us))
  | _, u => ρ.set i (some (.fr u))
def frz (ρ : Ev) (i : Nat) : Ev := match ρ[i]? with
  | some (some (.own us)) => ρ.set i (some (.fr (.lst us)))
  | _ => ρ
def fuel : Nat := 5000
def loopL (tg : List Nat) (fl : Bool) (b : Ev → M Fl) : List U → Ev → M Fl
  | [], ρ => ret (.nx ρ)
  | u :: us, ρ => match asg tg fl u ρ with
    | some ρ' => bnd (b ρ') fun f => match f with
      | .nx ρ2 => loopL tg fl b us ρ2
      | .ct ρ2 => loopL tg fl b us ρ2
      | .bk ρ2 => ret (.nx ρ2)
      | .rt u => ret (.rt u)
    | none => bad
def whlL (c : Ev → M U) (b : Ev → M Fl) : Nat → Ev → M Fl
  | 0, _ => bad
  | n + 1, ρ => bnd (c ρ) fun u => bnd (opt (ofB u)) fun t => if t = true then bnd (b ρ) fun f => match f with
      | .nx ρ2 => whlL c b n ρ2
      | .ct ρ2 => whlL c b n ρ2
      | .bk ρ2 => ret (.nx ρ2)
      | .rt u => ret (.rt u)
    else ret (.nx ρ)
def evS (Γ : Gm) : S → Ev → M Fl
  | .nil, ρ => ret (.nx ρ)
  | .cons s r, ρ => bnd (evS Γ s ρ) fun f => match f with
    | .nx ρ' => evS Γ r ρ'
    | f => ret f
  | .set i e, ρ => bnd (ev Γ e ρ) fun u => ret (.nx (puto ρ (cl Γ e).isNew i u))
  | .frz i, ρ => ret (.nx (frz ρ i))
  | .par i j a b, ρ => bnd (ev Γ a ρ) fun u => bnd (ev Γ b ρ) fun v => ret (.nx (puto (puto ρ (cl Γ a).isNew i u) (cl Γ b).isNew j v))
  | .par3 i j k a b c, ρ => bnd (ev Γ a ρ) fun u => bnd (ev Γ b ρ) fun v => bnd (ev Γ c ρ) fun w => ret (.nx (puto (puto (puto ρ (cl Γ a).isNew i u) (cl Γ b).isNew j v) (cl Γ c).isNew k w))
  | .unp is e, ρ => bnd (ev Γ e ρ) fun u => (match asg is false u ρ with
    | some ρ' => ret (.nx ρ')
    | none => bad)
  | .seti i k e, ρ => (match ρ[i]? with
    | some (some (.own us)) => bnd (ev Γ e ρ) fun u => bnd (ev Γ k ρ) fun z => (match z with
      | .int n => (match ix us.length n with
        | some j => ret (.nx (ρ.set i (some (.own (us.set j u)))))
        | none => bad)
      | _ => bad)
    | some (some .cup) => bnd (ev Γ e ρ) fun u => bnd (ev Γ k ρ) fun z => fun c => (match z, c with
      | .int n, some us => (match ix us.length n with
        | some j => if flat u = true then .ok (.nx ρ) (some (us.set j u)) else .bad
        | none => .bad)
      | _, _ => .bad)
    | _ => bad)
  | .app i e, ρ => (match ρ[i]? with
    | some (some (.own us)) => bnd (ev Γ e ρ) fun u => if us.length < L then ret (.nx (ρ.set i (some (.own (us ++ [u]))))) else bad
    | _ => bad)
  | .drop e, ρ => bnd (ev Γ e ρ) fun _ => ret (.nx ρ)
  | .ret e, ρ => bnd (ev Γ e ρ) fun u => ret (.rt u)
  | .retv i, ρ => (match ρ[i]? with
    | some (some (.own us)) => ret (.rt (.lst us))
    | some (some (.fr u)) => if isLst u = true then bad else ret (.rt u)
    | some (some (.bor u)) => if isLst u = true then bad else ret (.rt u)
    | _ => bad)
  | .retN, _ => ret (.rt .non)
  | .ite c a b, ρ => bnd (ev Γ c ρ) fun u => bnd (opt (ofB u)) fun t => if t = true then evS Γ a ρ else evS Γ b ρ
  | .whl c b, ρ => whlL (ev Γ c) (evS Γ b) fuel ρ
  | .loop tg fl it b, ρ => if walkOk Γ it = true then bnd (evi Γ it ρ) fun us => loopL tg fl (evS Γ b) us ρ else bad
  | .brk, ρ => ret (.bk ρ)
  | .cnt, ρ => ret (.ct ρ)
  | .pas, ρ => ret (.nx ρ)
  | .never, _ => bad
  | .mkcup i e, ρ => bnd (ev Γ e ρ) fun u => fun c => (match u, c with
    | .lst us, none => if us.all flat = true then .ok (.nx (ρ.set i (some .cup))) (some us) else .bad
    | _, _ => .bad)

/-- a def's slots at its entry: the parameters, then nothing -/
def enter (n : Nat) (us : List U) : Ev := us.map (fun u => some (.bor u)) ++ List.replicate (n - us.length) none
def enterS (n : Nat) (us : List U) : Ev := some (.scr us) :: List.replicate (n - 1) none
def enterC (n : Nat) (us : List U) : Ev := some .cup :: us.map (fun u => some (.bor u)) ++ List.replicate (n - 1 - us.length) none
def done : Fl → Option U
  | .nx _ => some .non
  | .rt u => some u
  | _ => none
end Mi

/-! M2.lean -/
namespace Mi
open PySem PySem.Spec PyProof.Rows L2

/-! ### from the text to the small language -/
structure CE where
  N : List Str
  sc : Scope
  fns : List (Str × Nat)
  gi : List (Str × Int)
def kd (c : CE) (x : Str) : Option NameKind := c.sc.names.lookup x
def isV : NameKind → Bool
  | .local => true
  | .cell => true
  | .free => true
  | _ => false
def isL : NameKind → Bool
  | .local => true
  | .cell => true
  | _ => false
def isGlob : NameKind → Bool
  | .globalImplicit => true
  | _ => false
def isLocal : NameKind → Bool
  | .local => true
  | _ => false
def ixOf (x : Str) : List Str → Nat → Option Nat
  | [], _ => none
  | y :: ys, n => if x = y then some n else ixOf x ys (n + 1)
def slot (c : CE) (x : Str) : Option Nat := match kd c x with
  | some k => if isV k = true ∧ (x == ("__debug__" : Str)) = false ∧ (x == ("__classdict__" : Str)) = false then ixOf x c.N 0 else none
  | none => none
/-- a name that may be stored -/
def slotW (c : CE) (x : Str) : Option Nat := match kd c x with
  | some k => if isL k = true then ixOf x c.N 0 else none
  | none => none
def slotL (c : CE) (x : Str) : Option Nat := match kd c x with
  | some k => if isLocal k = true then ixOf x c.N 0 else none
  | none => none
def isG (c : CE) (x : Str) : Bool := match kd c x with
  | some k => isGlob k
  | none => false
/-- the place of an own def, and its kind: 0 plain, 1 with a cup, 2 of the script -/
def fnIx (x : Str) : List (Str × Nat) → Nat → Option (Nat × Nat)
  | [], _ => none
  | (y, b) :: ys, n => if x = y then some (n, b) else fnIx x ys (n + 1)
def bop? : Operator → Option Bop
  | .Add => some .add
  | .Sub => some .sub
  | .Mult => some .mul
  | .FloorDiv => some .fdiv
  | .Mod => some .mod
  | .Pow => some .pow
  | _ => none
def cop? : CmpOp → Option Cop
  | .Eq => some .eq
  | .NotEq => some .ne
  | .Lt => some .lt
  | .LtE => some .le
  | .Gt => some .gt
  | .GtE => some .ge
  | .Is => some .is
  | .IsNot => some .isnot
  | .In => some .isin
  | .NotIn => some .notin
def esc : E → E
  | .var i => .evar i
  | e => e
def keepE (o : Option E) : Option E := o.bind fun u => if keptE (esc u) = true then some (esc u) else none
def cAnd (f : Expr → Option E) : List Expr → Option E
  | [] => none
  | [a] => f a
  | a :: b :: r => (f a).bind fun x => (cAnd f (b :: r)).bind fun y => some (.and x y)
def cOr (f : Expr → Option E) : List Expr → Option E
  | [] => none
  | [a] => f a
  | a :: b :: r => (f a).bind fun x => (cOr f (b :: r)).bind fun y => some (.or x y)
def cArgs (f : Expr → Option E) : List Expr → Option E
  | [] => some .nil
  | a :: r => (f a).bind fun x => (cArgs f r).bind fun y => some (.cons x y)
def bi1 (f : Str) : Option Bi :=
  if f = ("int" : Str) then some .int else if f = ("len" : Str) then some .len else if f = ("abs" : Str) then some .abs else if f = ("sum" : Str) then some .sum
  else if f = ("max" : Str) then some .max else if f = ("min" : Str) then some .min else if f = ("all" : Str) then some .all else if f = ("list" : Str) then some .list
  else if f = ("tuple" : Str) then some .tuple else if f = ("sorted" : Str) then some .sorted else none
def ty? (x : Str) : Option Ty :=
  if x = ("int" : Str) then some .int else if x = ("bool" : Str) then some .bool else if x = ("tuple" : Str) then some .tuple else if x = ("list" : Str) then some .list
  else if x = ("str" : Str) then some .str else none
/-- a call by a written name -/
def cCall (c : CE) (f : Expr → Option E) (x : Str) (args : List Expr) : Option E :=
  if isG c x = true ∧ (x == ("__debug__" : Str)) = false then
    match fnIx x c.fns 0, args with
    | some (k, 1), .Name y _ :: r => (slot c y).bind fun j => (cArgs f r).map fun es => .callC k j es
    | some (k, 0), a => (cArgs f a).map fun es => .call k es
    | some (k, 2), [.Name y _] => (slot c y).map fun j => .callS k j
    | some _, _ => none
    | none, [a] => (match a with
      | .Name y _ => if x = ("list" : Str) ∧ y = ("script" : Str) then (slot c y).map fun j => .lscr j else (bi1 x).bind fun b => (f a).map fun e => .b1 b e
      | a => (bi1 x).bind fun b => (f a).map fun e => .b1 b e)
    | none, [a, b] =>
      if x = ("max" : Str) then (f a).bind fun u => (f b).map fun v => .max2 u v
      else if x = ("min" : Str) then (f a).bind fun u => (f b).map fun v => .min2 u v
      else if x = ("isinstance" : Str) then (match b with
        | .Name t _ => if isG c t = true then (ty? t).bind fun t => (f a).map fun u => .isi u t else none
        | _ => none)
      else none
    | none, _ => none
  else none
/-- what a for walks -/
def cI (c : CE) (f : Expr → Option E) : Expr → Option E
  | .Call (.Name x p) args [] q => if isG c x = true ∧ (fnIx x c.fns 0).isNone = true then
      match args with
      | [a] => if x = ("range" : Str) then (f a).map .rng1 else if x = ("enumerate" : Str) then (f a).map .enum else (f (.Call (.Name x p) args [] q)).map .iseq
      | [a, b] => if x = ("range" : Str) then (f a).bind fun u => (f b).map fun v => .rng2 u v else if x = ("zip" : Str) then (f a).bind fun u => (f b).map fun v => .zip u v else none
      | [a, b, d] => if x = ("range" : Str) then (f a).bind fun u => (f b).bind fun v => (f d).map fun w => .rng3 u v w else none
      | _ => none
    else (f (.Call (.Name x p) args [] q)).map .iseq
  | e => (f e).map .iseq
def names (g : Str → Option Nat) : List Expr → Option (List Nat)
  | [] => some []
  | .Name x _ :: r => (g x).bind fun i => (names g r).map fun is => i :: is
  | _ :: _ => none
/-- a target: a name, or a row of names -/
def cT (g : Str → Option Nat) : Expr → Option (List Nat × Bool)
  | .Name x _ => (g x).map fun i => ([i], true)
  | .Tuple es _ _ => (names g es).map fun is => (is, false)
  | _ => none
def ownOf (N : List Str) : List (Str × NameKind) → List (Str × Nat)
  | [] => []
  | (x, k) :: r => if isL k = true then (match ixOf x N 0 with
    | some i => (x, i) :: ownOf N r
    | none => ownOf N r) else ownOf N r
/-- zip and enumerate lay new pairs: their target is a row -/
def pairy : E → Bool → Bool
  | .zip _ _, true => false
  | .enum _, true => false
  | _, _ => true
def cOpt (f : Expr → Option E) : Option Expr → Option (Bool × E)
  | none => some (false, .nil)
  | some e => (f e).map fun u => (true, u)
def cE (c : CE) : Nat → Expr → Option E
  | 0, _ => none
  | n + 1, e => match e with
    | .Name x _ => (match slot c x with
      | some i => some (.var i)
      | none => if isG c x = true ∧ (x == ("__debug__" : Str)) = false then (c.gi.lookup x).map fun i => .con (.int i) else none)
    | .Constant (.int i) _ _ => some (.con (.int i))
    | .Constant (.bool b) _ _ => some (.con (.bl b))
    | .Constant .none _ _ => some (.con .non)
    | .Constant (.str s) _ _ => some (.con (.str s))
    | .BinOp a op b _ => (bop? op).bind fun o => (cE c n a).bind fun u => (cE c n b).map fun v => .bin o u v
    | .UnaryOp .USub a _ => (cE c n a).map .neg
    | .UnaryOp .Not a _ => (cE c n a).map .not
    | .Compare a [op] [b] _ => (cop? op).bind fun o => (cE c n a).bind fun u => (cE c n b).map fun v => .cmp o u v
    | .Compare a [op, op'] [b, d] _ => (cop? op).bind fun o => (cop? op').bind fun o' => (cE c n a).bind fun u => (cE c n b).bind fun v => (cE c n d).map fun w => .cmp2 o o' u v w
    | .BoolOp .And (a :: b :: r) _ => cAnd (cE c n) (a :: b :: r)
    | .BoolOp .Or (a :: b :: r) _ => cOr (cE c n) (a :: b :: r)
    | .IfExp t a b _ => (cE c n t).bind fun w => (cE c n a).bind fun u => (cE c n b).map fun v => .ite w (esc u) (esc v)
    | .Tuple es _ _ => (cArgs (fun e => keepE (cE c n e)) es).map .tup
    | .List es _ => (cArgs (fun e => keepE (cE c n e)) es).map .lst
    | .Call (.Name x _) args [] _ => cCall c (cE c n) x args
    | .Subscript a (.Slice none none (some (.UnaryOp .USub (.Constant (.int 1) _ _) _)) _) _ => (cE c n a).map .rev
    | .Subscript a (.Slice lo hi none _) _ => (cE c n a).bind fun u =>
        (cOpt (cE c n) lo).bind fun l => (cOpt (cE c n) hi).map fun h => .slc l.1 h.1 u l.2 h.2
    | .Subscript a i _ => (cE c n a).bind fun u => (cE c n i).map fun v => .sub u v
    | .ListComp elt [⟨tg, it, ifs, 0⟩] scope _ =>
        let own := ownOf c.N scope.names
        let c' : CE := { c with sc := scope }
        if blkC c.N c.sc scope own = true then
          (cI c (cE c n) it).bind fun i => (cT (slotW c') tg).bind fun t => (keepE (cE c' n elt)).bind fun u =>
            if pairy i t.2 = true ∧ (t.1.all fun j => (own.map (·.2)).contains j) = true then (match ifs with
            | [] => some (.comp (own.map (·.2)) t.1 t.2 i false .nil u)
            | [d] => (cE c' n d).map fun v => .comp (own.map (·.2)) t.1 t.2 i true v u
            | _ => none) else none
        else none
    | _ => none
end Mi

/-! M3.lean -/
namespace Mi
open PySem PySem.Spec PyProof.Rows L2

/-! ### how trees lie in the heap; B: addresses that may not be kept -/
mutual
inductive Rep (B : Addr → Prop) (H : Hp) : U → V → Prop
  | non : Rep B H .non .non
  | bl (b : Bool) : Rep B H (.bl b) (.bl b)
  | int (i : Int) : Rep B H (.int i) (.int i)
  | str (s : Str) : Rep B H (.str s) (.str s)
  | tup {a : Addr} {us : List U} {vs : List V} : H a = some (.tup vs) → Reps B H us vs → Rep B H (.tup us) (.ref a)
  | lst {a : Addr} {us : List U} {vs : List V} : H a = some (.lst vs) → ¬ B a → Reps B H us vs → Rep B H (.lst us) (.ref a)
inductive Reps (B : Addr → Prop) (H : Hp) : List U → List V → Prop
  | nil : Reps B H [] []
  | cons {u : U} {v : V} {us : List U} {vs : List V} : Rep B H u v → Reps B H us vs → Reps B H (u :: us) (v :: vs)
end
/-- kept over a step -/
structure Kp (B B' : Addr → Prop) (H H' : Hp) : Prop where
  l : ∀ b xs, H b = some (.lst xs) → ¬ B b → H' b = some (.lst xs) ∧ ¬ B' b
  t : ∀ b xs, H b = some (.tup xs) → H' b = some (.tup xs)
section
variable {B B' : Addr → Prop} {H H' : Hp}
mutual
theorem Rep.mono (k : Kp B B' H H') : ∀ {u : U} {v : V}, Rep B H u v → Rep B' H' u v
  | _, _, .non => .non
  | _, _, .bl b => .bl b
  | _, _, .int i => .int i
  | _, _, .str s => .str s
  | _, _, .tup h r => .tup (k.t _ _ h) (Reps.mono k r)
  | _, _, .lst h n r => .lst (k.l _ _ h n).1 (k.l _ _ h n).2 (Reps.mono k r)
theorem Reps.mono (k : Kp B B' H H') : ∀ {us : List U} {vs : List V}, Reps B H us vs → Reps B' H' us vs
  | _, _, .nil => .nil
  | _, _, .cons r t => .cons (Rep.mono k r) (Reps.mono k t)
end
theorem Kp.trans {B'' : Addr → Prop} {H'' : Hp} (a : Kp B B' H H') (b : Kp B' B'' H' H'') : Kp B B'' H H'' :=
  ⟨fun c xs h n => b.l c xs (a.l c xs h n).1 (a.l c xs h n).2, fun c xs h => b.t c xs (a.t c xs h)⟩
theorem Kp.refl : Kp B B H H := ⟨fun _ _ h n => ⟨h, n⟩, fun _ _ h => h⟩
theorem Kp.same (h : ∀ b o, H b = some o → H' b = some o) : Kp B B H H' := ⟨fun b xs e n => ⟨h b _ e, n⟩, fun b xs e => h b _ e⟩
theorem Kp.less (h : ∀ b, B' b → B b) : Kp B B' H H := ⟨fun b xs e n => ⟨e, fun z => n (h b z)⟩, fun b xs e => e⟩
theorem Reps.length {us : List U} {vs : List V} (r : Reps B H us vs) : us.length = vs.length := by
  induction us generalizing vs with
  | nil => cases r; rfl
  | cons u us ih => cases r with
    | cons _ t => simp [ih t]
theorem Reps.get {us : List U} {vs : List V} {i : Nat} {u : U} (r : Reps B H us vs) (h : us[i]? = some u) : ∃ v, vs[i]? = some v ∧ Rep B H u v := by
  induction us generalizing vs i with
  | nil => simp at h
  | cons x us ih => cases r with
    | cons a t => cases i with
      | zero => simp at h; subst h; exact ⟨_, rfl, a⟩
      | succ i =>
        obtain ⟨v, h1, h2⟩ := ih t (i := i) (by simpa using h)
        exact ⟨v, by simpa using h1, h2⟩
theorem Reps.app {us us' : List U} {vs vs' : List V} (r : Reps B H us vs) (r' : Reps B H us' vs') : Reps B H (us ++ us') (vs ++ vs') := by
  induction us generalizing vs with
  | nil => cases r; exact r'
  | cons u us ih => cases r with
    | cons a t => exact .cons a (ih t)
theorem Reps.set {us : List U} {vs : List V} {u : U} {v : V} (i : Nat) (r : Reps B H us vs) (x : Rep B H u v) : Reps B H (us.set i u) (vs.set i v) := by
  induction us generalizing vs i with
  | nil => cases r; exact .nil
  | cons y us ih => cases r with
    | cons a t => cases i with
      | zero => exact .cons x t
      | succ i => exact .cons a (ih i t)
theorem Reps.drop {us : List U} {vs : List V} (n : Nat) (r : Reps B H us vs) : Reps B H (us.drop n) (vs.drop n) := by
  induction n generalizing us vs with
  | zero => simpa using r
  | succ n ih => cases r with
    | nil => exact .nil
    | cons _ t => exact ih t
theorem Reps.take {us : List U} {vs : List V} (n : Nat) (r : Reps B H us vs) : Reps B H (us.take n) (vs.take n) := by
  induction n generalizing us vs with
  | zero => simpa using Reps.nil
  | succ n ih => cases r with
    | nil => exact .nil
    | cons a t => exact .cons a (ih t)
theorem Reps.rev {us : List U} {vs : List V} (r : Reps B H us vs) : Reps B H us.reverse vs.reverse := by
  induction us generalizing vs with
  | nil => cases r; exact .nil
  | cons u us ih => cases r with
    | cons a t => simpa using (ih t).app (.cons a .nil)
theorem Reps.repl {us : List U} {vs : List V} (n : Nat) (r : Reps B H us vs) : Reps B H (List.replicate n us).flatten (List.replicate n vs).flatten := by
  induction n with
  | zero => exact .nil
  | succ n ih => rw [List.replicate_succ, List.replicate_succ, List.flatten_cons, List.flatten_cons]; exact r.app ih
theorem Reps.nil_inv {vs : List V} (r : Reps B H [] vs) : vs = [] := by cases r; rfl
/-- flat values are what they are -/
def fv : U → V
  | .non => .non
  | .bl b => .bl b
  | .int i => .int i
  | .str s => .str s
  | _ => .non
theorem Rep.flat {u : U} {v : V} (r : Rep B H u v) (f : flat u = true) : v = fv u := by
  cases r with
  | tup => cases f
  | lst => cases f
  | _ => rfl
theorem Rep.ofFlat {u : U} (f : Mi.flat u = true) : Rep B H u (fv u) := by
  cases u with
  | tup => cases f
  | lst => cases f
  | non => exact .non
  | bl b => exact .bl b
  | int i => exact .int i
  | str s => exact .str s
theorem Reps.flat {us : List U} {vs : List V} (r : Reps B H us vs) (f : us.all Mi.flat = true) : vs = us.map fv := by
  induction us generalizing vs with
  | nil => cases r; rfl
  | cons u us ih => cases r with
    | cons a t =>
      rw [List.all_cons, Bool.and_eq_true] at f
      rw [a.flat f.1, ih t f.2]; rfl
theorem Reps.ofFlat {us : List U} (f : us.all Mi.flat = true) : Reps B H us (us.map fv) := by
  induction us with
  | nil => exact .nil
  | cons u us ih =>
    rw [List.all_cons, Bool.and_eq_true] at f
    exact .cons (Rep.ofFlat f.1) (ih f.2)
theorem Reps.nums {us : List U} {vs : List V} {ns : List Int} (r : Reps B H us vs) (h : nums us = some ns) : vs = ns.map V.int := by
  induction us generalizing vs ns with
  | nil => cases r; cases h; rfl
  | cons u us ih => cases r with
    | cons a t =>
      cases a with
      | int i =>
        simp only [Mi.nums, Option.map_eq_some_iff] at h
        obtain ⟨ms, h1, rfl⟩ := h
        rw [ih t h1]; rfl
      | _ => cases h
theorem Reps.ofNums (ns : List Int) : Reps B H (ns.map U.int) (ns.map V.int) := by
  induction ns with
  | nil => exact .nil
  | cons n ns ih => exact .cons (.int n) ih
theorem Reps.bls {us : List U} {vs : List V} {ns : List Bool} (r : Reps B H us vs) (h : bls us = some ns) : vs = ns.map V.bl := by
  induction us generalizing vs ns with
  | nil => cases r; cases h; rfl
  | cons u us ih => cases r with
    | cons a t =>
      cases a with
      | bl i =>
        simp only [Mi.bls, Option.map_eq_some_iff] at h
        obtain ⟨ms, h1, rfl⟩ := h
        rw [ih t h1]; rfl
      | _ => cases h
end

/-! ### a def's state -/
structure Wd where
  B0 : Addr → Prop
  H0 : Hp
  Hb : Hp
  ac : Option Addr
  ρ : Ev
  cs : Cs
  β : Nat → Addr
def Wd.blk (w : Wd) (b : Addr) : Prop := w.B0 b ∨ w.ac = some b ∨ ∃ (i : Nat) (us : List U), w.ρ[i]? = some (some (.own us)) ∧ b = w.β i
/-- a value that may be lent -/
def RepT (ac : Option Addr) (B : Addr → Prop) (H : Hp) (u : U) (v : V) : Prop :=
  Rep B H u v ∨ ∃ a us vs, u = .lst us ∧ v = .ref a ∧ ac ≠ some a ∧ H a = some (.lst vs) ∧ Reps B H us vs
structure SR (K : PySem.W.Frag) (w : Wd) (σ : L2.St) (H : Hp) : Prop where
  len : w.ρ.length = σ.length
  base : ∀ b o, w.H0 b = some o → w.ac ≠ some b → H b = some o
  live : ∀ b, w.B0 b → ∃ o, H b = some o
  hb : ∀ b o, w.Hb b = some o → w.ac ≠ some b → w.H0 b = some o
  acf : ∀ a, w.ac = some a → (w.Hb a = none ∧ w.H0 a = none) ∨ (w.B0 a ∧ ∃ xs, w.Hb a = some (.lst xs))
  cup : ∀ a, w.ac = some a → ∃ cv, w.cs = some cv ∧ cv.all Mi.flat = true ∧ H a = some (.lst (cv.map fv))
  nocup : w.ac = none → w.cs = none
  own : ∀ (i : Nat) (us : List U), w.ρ[i]? = some (some (.own us)) → σ[i]? = some (some (.ref (w.β i))) ∧ w.H0 (w.β i) = none ∧ (w.ac ≠ some (w.β i) ∧ ¬ w.B0 (w.β i)) ∧ ∃ vs, H (w.β i) = some (.lst vs) ∧ Reps w.blk H us vs
  inj : ∀ (i j : Nat) (us us' : List U), w.ρ[i]? = some (some (.own us)) → w.ρ[j]? = some (some (.own us')) → w.β i = w.β j → i = j
  fr : ∀ (i : Nat) (u : U), w.ρ[i]? = some (some (.fr u)) → ∃ v, σ[i]? = some (some v) ∧ Rep w.blk H u v
  bor : ∀ (i : Nat) (u : U), w.ρ[i]? = some (some (.bor u)) → ∃ v, σ[i]? = some (some v) ∧ RepT w.ac w.B0 w.Hb u v
  cupS : ∀ (i : Nat), w.ρ[i]? = some (some .cup) → ∃ a, w.ac = some a ∧ σ[i]? = some (some (.ref a))
  scr : ∀ (i : Nat) (us : List U), w.ρ[i]? = some (some (.scr us)) → ∃ (a : Addr) (ns : List Int), σ[i]? = some (some (.ref a)) ∧ us = ns.map U.int ∧ SqL K w.Hb a (ns.map V.int) ∧ ∀ o, w.Hb a = some o → w.ac ≠ some a

/-! ### one step of an expression: new objects, the cup changed -/
structure Nx (w : Wd) (H : Hp) (c : Cs) (H' : Hp) : Prop where
  k : ∀ b o, H b = some o → w.ac ≠ some b → H' b = some o
  cup : ∀ a, w.ac = some a → ∃ cv, c = some cv ∧ cv.all Mi.flat = true ∧ H' a = some (.lst (cv.map fv))
  nocup : w.ac = none → c = none
abbrev Wd.at (w : Wd) (c : Cs) : Wd := { w with cs := c }
section
variable {K : PySem.W.Frag} {w : Wd} {σ : L2.St} {H H' H'' : Hp} {c c' : Cs}
theorem SR.acb (s : SR K w σ H) {a : Addr} (h : w.ac = some a) : ∃ o, H a = some o := let ⟨_, _, _, e⟩ := s.cup a h; ⟨_, e⟩
theorem SR.blkLive (s : SR K w σ H) {b : Addr} (h : w.blk b) : ∃ o, H b = some o := by
  rcases h with h | h | ⟨i, us, h, rfl⟩
  · exact s.live b h
  · exact s.acb h
  · obtain ⟨_, _, _, vs, e, _⟩ := s.own i us h
    exact ⟨_, e⟩
theorem SR.refl (s : SR K w σ H) : Nx w H w.cs H := ⟨fun _ _ e _ => e, s.cup, s.nocup⟩
theorem Nx.trans (a : Nx w H c H') (b : Nx (w.at c) H' c' H'') : Nx w H c' H'' :=
  ⟨fun x o e n => b.k x o (a.k x o e n) n, b.cup, b.nocup⟩
theorem SR.same (s : SR K w σ H) (h : ∀ b o, H b = some o → H' b = some o) : Nx w H w.cs H' :=
  ⟨fun b o e _ => h b o e, fun a e => let ⟨cv, e1, e2, e3⟩ := s.cup a e; ⟨cv, e1, e2, h _ _ e3⟩, s.nocup⟩
theorem Nx.kp (s : SR K w σ H) (n : Nx w H c H') : Kp w.blk w.blk H H' :=
  ⟨fun b xs e nb => ⟨n.k b _ e fun z => nb (.inr (.inl z)), nb⟩, fun b xs e => n.k b _ e fun z => by
    obtain ⟨cv, _, _, e2⟩ := s.cup b z
    rw [e] at e2; cases e2⟩
theorem Nx.sr (n : Nx w H c H') (s : SR K w σ H) : SR K (w.at c) σ H' where
  len := s.len
  base := fun b o e q => n.k b o (s.base b o e q) q
  live := fun b h => by
    obtain ⟨o, e⟩ := s.live b h
    by_cases q : w.ac = some b
    · obtain ⟨cv, _, _, e2⟩ := n.cup b q
      exact ⟨_, e2⟩
    · exact ⟨o, n.k b o e q⟩
  hb := s.hb
  acf := s.acf
  cup := n.cup
  nocup := n.nocup
  own := fun i us e => let ⟨h1, h2, h3, vs, h4, h5⟩ := s.own i us e; ⟨h1, h2, h3, vs, n.k _ _ h4 h3.1, h5.mono (n.kp s)⟩
  inj := s.inj
  fr := fun i u e => let ⟨v, h1, h2⟩ := s.fr i u e; ⟨v, h1, h2.mono (n.kp s)⟩
  bor := s.bor
  cupS := s.cupS
  scr := s.scr
theorem SR.up0 (s : SR K w σ H) {b : Addr} {o : HO} (e : w.Hb b = some o) (h : w.ac ≠ some b) : H b = some o := s.base b o (s.hb b o e h) h
/-- from the entry's heap to the heap as it is -/
theorem SR.kp0 (s : SR K w σ H) : Kp w.B0 w.blk w.Hb H where
  l := fun b xs e nb => by
    have hac : w.ac ≠ some b := fun z => by
      rcases s.acf b z with q | q
      · rw [q.1] at e; cases e
      · exact nb q.1
    refine ⟨s.up0 e hac, ?_⟩
    rintro (h | h | ⟨i, us, h, rfl⟩)
    · exact nb h
    · exact hac h
    · have := s.hb _ _ e hac
      rw [(s.own i us h).2.1] at this; cases this
  t := fun b xs e => s.up0 e fun z => by
    rcases s.acf b z with q | q
    · rw [q.1] at e; cases e
    · obtain ⟨_, xs, e2⟩ := q
      rw [e] at e2; cases e2
end
end Mi

/-! M4.lean -/
namespace Mi
open PySem PySem.Spec PyProof.Rows L2

/-! ### outcomes -/
def Out (mg : Str → Option Value) (W : XK) (w : Wd) (H : Hp) {α : Type} (r : Res α) (Kc : α → Cs → Hp → Prop) : Prop := match r with
  | .ok a c => ∀ H', Nx w H c H' → Kc a c H'
  | .exc x c => ∀ H' C, Nx w H c H' → mg x = some (.ref C) → W (.ref C) none H'
  | .bad => False
section
variable {mg : Str → Option Value} {W : XK} {w : Wd} {H : Hp} {α β : Type} {Kc : α → Cs → Hp → Prop}
theorem Out.imp {K2 : α → Cs → Hp → Prop} {r : Res α} (h : Out mg W w H r Kc) (i : ∀ a c H', Nx w H c H' → Kc a c H' → K2 a c H') : Out mg W w H r K2 := by
  cases r with
  | ok a c => exact fun H' n => i a c H' n (h H' n)
  | exc x c => exact h
  | bad => exact h
theorem Out.bnd {m : M β} {f : β → M α} (h : Out mg W w H (Mi.bnd m f w.cs) Kc) : Out mg W w H (m w.cs) fun a c H1 => Out mg W (w.at c) H1 (f a c) Kc := by
  unfold Mi.bnd at h
  cases e : m w.cs with
  | ok a c =>
    rw [e] at h
    intro H1 n1
    show Out mg W (w.at c) H1 (f a c) Kc
    replace h : Out mg W w H (f a c) Kc := h
    cases e2 : f a c with
    | ok b c2 => rw [e2] at h; exact fun H2 n2 => h H2 (n1.trans n2)
    | exc x c2 => rw [e2] at h; exact fun H2 C n2 => h H2 C (n1.trans n2)
    | bad => rw [e2] at h; exact h
  | exc x c => rw [e] at h; exact h
  | bad => rw [e] at h; exact h
theorem Out.opt {o : Option α} {c : Cs} (h : Out mg W w H (Mi.opt o c) Kc) : ∃ a, o = some a ∧ ∀ H', Nx w H c H' → Kc a c H' := by
  cases o with
  | none => exact False.elim h
  | some a => exact ⟨a, rfl, h⟩
theorem Out.ret {a : α} {c : Cs} (h : Out mg W w H (Mi.ret a c) Kc) : ∀ H', Nx w H c H' → Kc a c H' := h
end

/-! ### what a value's address is -/
def RV (k : Cl) (w : Wd) (H H' : Hp) (u : U) (v : V) : Prop := match k with
  | .tr => RepT w.ac w.blk H' u v
  | .lv => Rep w.blk H' u v ∨ ∃ a us vs, u = .lst us ∧ v = .ref a ∧ w.ac ≠ some a ∧ H' a = some (.lst vs) ∧ Reps w.blk H' us vs ∧ ∀ (i : Nat) us', w.ρ[i]? = some (some (.own us')) → w.β i ≠ a
  | .any => Rep w.blk H' u v
  | .new => Rep w.blk H' u v ∧ ∀ us, u = .lst us → ∃ a, v = .ref a ∧ H a = none
section
variable {k : Cl} {w : Wd} {H H' H'' : Hp} {u : U} {v : V} {c : Cs} {K : PySem.W.Frag} {σ : L2.St} {B : Addr → Prop} {ac : Option Addr}
theorem RV.t (r : RV k w H H' u v) : RepT w.ac w.blk H' u v := by
  cases k with
  | tr => exact r
  | lv =>
    rcases r with r | ⟨a, us, vs, e1, e2, e3, e4, e5, _⟩
    · exact .inl r
    · exact .inr ⟨a, us, vs, e1, e2, e3, e4, e5⟩
  | any => exact .inl r
  | new => exact .inl r.1
theorem RV.rep (r : RV k w H H' u v) (h : k.kept = true) : Rep w.blk H' u v := by
  cases k with
  | tr => cases h
  | lv => cases h
  | any => exact r
  | new => exact r.1
theorem RepT.mono (r : RepT w.ac w.blk H' u v) (s : SR K w σ H') (n : Nx w H' c H'') : RepT w.ac w.blk H'' u v := by
  rcases r with r | ⟨a, us, vs, e1, e2, e3, e4, e5⟩
  · exact .inl (r.mono (n.kp s))
  · exact .inr ⟨a, us, vs, e1, e2, e3, n.k a _ e4 e3, e5.mono (n.kp s)⟩
theorem RV.mono (r : RV k w H H' u v) (s : SR K w σ H') (n : Nx w H' c H'') : RV k w H H'' u v := by
  cases k with
  | tr => exact RepT.mono r s n
  | lv =>
    rcases r with r | ⟨a, us, vs, e1, e2, e3, e4, e5, e6⟩
    · exact .inl (r.mono (n.kp s))
    · exact .inr ⟨a, us, vs, e1, e2, e3, n.k a _ e4 e3, e5.mono (n.kp s), e6⟩
  | any => exact Rep.mono (n.kp s) r
  | new => exact ⟨Rep.mono (n.kp s) r.1, r.2⟩
theorem RepT.int {i : Int} (r : RepT ac B H (.int i) v) : v = .int i := by
  rcases r with r | ⟨a, us, vs, e, _⟩
  · cases r; rfl
  · cases e
theorem RepT.flat (r : RepT ac B H u v) (f : Mi.flat u = true) : v = fv u := by
  rcases r with r | ⟨a, us, vs, e, _⟩
  · exact r.flat f
  · subst e; cases f
theorem RepT.bl {b : Bool} (r : RepT ac B H (.bl b) v) : v = .bl b := r.flat rfl
theorem RepT.lst {us : List U} (r : RepT ac B H (.lst us) v) : ∃ a vs, v = .ref a ∧ H a = some (.lst vs) ∧ Reps B H us vs := by
  rcases r with r | ⟨a, us, vs, e, e2, e3, e4, e5⟩
  · cases r with
    | lst h n t => exact ⟨_, _, rfl, h, t⟩
  · cases e; exact ⟨a, vs, e2, e4, e5⟩
theorem RepT.tup {us : List U} (r : RepT ac B H (.tup us) v) : ∃ a vs, v = .ref a ∧ H a = some (.tup vs) ∧ Reps B H us vs := by
  rcases r with r | ⟨a, us, vs, e, e2, e3, e4, e5⟩
  · cases r with
    | tup h t => exact ⟨_, _, rfl, h, t⟩
  · cases e
theorem Kp.upd {p : Addr} {o : HO} (h : H p = none) : Kp B B H (upd H p o) := Kp.same fun b u e => by rw [upd_ne (ne_of_none e h)]; exact e
/-- what is asked of an answer: its tree, at a heap where all stands; a list is new -/
def Ans (B : Addr → Prop) (H : Hp) (z : U) (Q : VK) : Prop :=
  ∀ H' t, (∀ b o, H b = some o → H' b = some o) → Rep B H' z t → (∀ us, z = .lst us → ∃ a, t = .ref a ∧ H a = none) → Q t H'
def Live (B : Addr → Prop) (H : Hp) : Prop := ∀ b, B b → ∃ o, H b = some o
theorem Live.no (l : Live B H) {p : Addr} (h : H p = none) : ¬ B p := fun z => by
  obtain ⟨o, e⟩ := l p z
  rw [h] at e; cases e
theorem Ans.flat {z : U} {Q : VK} (a : Ans B H z Q) (f : Mi.flat z = true) : Q (fv z) H := a H _ (fun _ _ e => e) (.ofFlat f) fun us e => by subst e; cases f
theorem Ans.lst {us : List U} {vs : List V} {Q : VK} (a : Ans B H (.lst us) Q) (l : Live B H) (r : Reps B H us vs) : ∀ p, H p = none → Q (.ref p) (L2.upd H p (.lst vs)) := fun p np =>
  a _ _ (fun b o e => by rw [upd_ne (ne_of_none e np)]; exact e) (.lst upd_same (l.no np) (r.mono (.upd np))) fun _ _ => ⟨p, rfl, np⟩
theorem Ans.tup {us : List U} {vs : List V} {Q : VK} (a : Ans B H (.tup us) Q) (r : Reps B H us vs) : ∀ p, H p = none → Q (.ref p) (L2.upd H p (.tup vs)) := fun p np =>
  a _ _ (fun b o e => by rw [upd_ne (ne_of_none e np)]; exact e) (.tup upd_same (r.mono (.upd np))) fun _ e => by cases e
theorem Ans.rep {z : U} {t : V} {Q : VK} (a : Ans B H z Q) (r : Rep B H z t) (h : isLst z = false) : Q t H := a H t (fun _ _ e => e) r fun us e => by subst e; cases h
/-- from an answer's wish to an outcome -/
theorem Out.ans {z : U} {Q : VK} {H0 : Hp} (s : SR K w σ H) (h0 : ∀ b o, H0 b = some o → ∃ o', H b = some o') (h : ∀ H', Nx w H w.cs H' → ∀ v, RV .new w H0 H' z v → Q v H') : Ans w.blk H z Q := fun H' t sm r nl =>
  h H' (s.same sm) t ⟨r, fun us e => by
    obtain ⟨a, e1, e2⟩ := nl us e
    refine ⟨a, e1, ?_⟩
    cases q : H0 a with
    | none => rfl
    | some o =>
      obtain ⟨o', e3⟩ := h0 a o q
      rw [e2] at e3; cases e3⟩
theorem Nx.there (n : Nx w H c H') (s : SR K w σ H) : ∀ b o, H b = some o → ∃ o', H' b = some o' := fun b o e => by
  by_cases q : w.ac = some b
  · obtain ⟨cv, _, _, e2⟩ := n.cup b q
    exact ⟨_, e2⟩
  · exact ⟨o, n.k b o e q⟩
theorem SR.liveB (s : SR K w σ H) : Live w.blk H := fun _ h => s.blkLive h
end

/-! ### operators by values -/
theorem sizeL : L = sizeLine := rfl
def rBop (o : Bop) : R2 := fun x y H Q => ∃ B ac u v z, Live B H ∧ RepT ac B H u x ∧ RepT ac B H v y ∧ bop o u v = some z ∧ Ans B H z Q
theorem Reps.ne_nil {B : Addr → Prop} {H : Hp} {us : List U} {vs : List V} (r : Reps B H us vs) (h : 0 < us.length) : vs ≠ [] := by
  intro e; subst e; cases r; simp at h
section
variable {X : Cx}
theorem op_cat2 {B : Addr → Prop} {H : Hp} {us us' : List U} {vs vs' : List V} {a a' : Addr} {Q : VK} (h1 : H a = some (.tup vs)) (h2 : H a' = some (.tup vs')) (r1 : Reps B H us vs) (r2 : Reps B H us' vs') (hz : us.length + us'.length ≤ L)
    (q : Ans B H (.tup (us ++ us')) Q) : rCatA X.K (.ref a) (.ref a') H Q := by
  refine ⟨a, a', vs, vs', rfl, rfl, SqT.of h1, SqT.of h2, by rw [← r1.length, ← r2.length]; exact hz, ?_, ?_, fun _ _ => q.tup (r1.app r2)⟩
  · intro e; subst e
    cases r1
    exact q.rep (.tup h2 r2) rfl
  · intro _ e; subst e
    cases r2
    rw [List.append_nil] at q
    exact q.rep (.tup h1 r1) rfl
theorem op_bop {op : Operator} {o : Bop} (h : bop? op = some o) : OpR X (binaryOp op) (rBop o) := by
  intro pins s σ H x y v u Q I rx ry hq
  obtain ⟨B, ac, a, b, z, lv, ra, rb, hz, q⟩ := hq
  cases op with
  | Add =>
    cases h
    cases a with
    | int i => cases b with
      | int j =>
        cases hz
        cases ra.int; cases rb.int
        exact op_add pins s σ H _ _ v u Q I rx ry ⟨i, j, rfl, rfl, q.flat rfl⟩
      | _ => cases hz
    | lst us => cases b with
      | lst us' =>
        simp only [bop] at hz
        split at hz
        · rename_i hl
          cases hz
          obtain ⟨p, vs, rfl, e1, r1⟩ := ra.lst
          obtain ⟨p', vs', rfl, e2, r2⟩ := rb.lst
          exact op_cat pins s σ H _ _ v u Q I rx ry ⟨p, p', vs, vs', rfl, rfl, e1, e2, by rw [← r1.length, ← r2.length]; exact hl, q.lst lv (r1.app r2)⟩
        · cases hz
      | _ => cases hz
    | tup us => cases b with
      | tup us' =>
        simp only [bop] at hz
        split at hz
        · rename_i hl
          cases hz
          obtain ⟨p, vs, rfl, e1, r1⟩ := ra.tup
          obtain ⟨p', vs', rfl, e2, r2⟩ := rb.tup
          exact op_catA pins s σ H _ _ v u Q I rx ry (op_cat2 e1 e2 r1 r2 hl q)
        · cases hz
      | _ => cases hz
    | _ => cases hz
  | Sub =>
    cases h
    cases a with
    | int i => cases b with
      | int j =>
        cases hz
        cases ra.int; cases rb.int
        exact op_sub pins s σ H _ _ v u Q I rx ry ⟨i, j, rfl, rfl, q.flat rfl⟩
      | _ => cases hz
    | _ => cases hz
  | Mult =>
    cases h
    cases a with
    | int i => cases b with
      | int j =>
        simp only [bop] at hz
        split at hz
        · rename_i hm
          cases hz
          cases ra.int; cases rb.int
          simp only [mulOk, Bool.or_eq_true, decide_eq_true_eq] at hm
          rcases hm with (hm | hm) | hm
          · exact op_mul pins s σ H _ _ v u Q I rx ry ⟨i, j, rfl, rfl, .inl (by omega), q.flat rfl⟩
          · exact op_mul pins s σ H _ _ v u Q I rx ry ⟨i, j, rfl, rfl, .inr (by omega), q.flat rfl⟩
          · exact op_mulW pins s σ H _ _ v u Q I rx ry ⟨i, j, rfl, rfl, hm, q.flat rfl⟩
        · cases hz
      | _ => cases hz
    | lst us => cases b with
      | int k =>
        simp only [bop] at hz
        split at hz
        · rename_i hl
          cases hz
          obtain ⟨p, vs, rfl, e1, r1⟩ := ra.lst
          cases rb.int
          exact op_rep pins s σ H _ _ v u Q I rx ry ⟨p, k, vs, rfl, rfl, e1, by omega, by omega, by rw [← r1.length]; exact hl.2.2, q.lst lv (r1.repl _)⟩
        · cases hz
      | _ => cases hz
    | tup us => cases b with
      | int k =>
        simp only [bop] at hz
        split at hz
        · rename_i hl
          cases hz
          obtain ⟨p, vs, rfl, e1, r1⟩ := ra.tup
          cases rb.int
          exact op_repT pins s σ H _ _ v u Q I rx ry ⟨p, k, vs, rfl, rfl, SqT.of e1, r1.ne_nil hl.1, hl.2.1, hl.2.2.1, by rw [← r1.length]; exact hl.2.2.2, q.tup (r1.repl _)⟩
        · cases hz
      | _ => cases hz
    | _ => cases hz
  | FloorDiv =>
    cases h
    cases a with
    | int i => cases b with
      | int j =>
        simp only [bop] at hz
        split at hz
        · rename_i hm
          cases hz
          cases ra.int; cases rb.int
          exact op_fdivW pins s σ H _ _ v u Q I rx ry ⟨i, j, rfl, rfl, hm, q.flat rfl⟩
        · cases hz
      | _ => cases hz
    | _ => cases hz
  | Mod =>
    cases h
    cases a with
    | int i => cases b with
      | int j =>
        simp only [bop] at hz
        split at hz
        · rename_i hm
          cases hz
          cases ra.int; cases rb.int
          exact op_mod pins s σ H _ _ v u Q I rx ry ⟨i, j, rfl, rfl, hm, q.flat rfl⟩
        · cases hz
      | _ => cases hz
    | _ => cases hz
  | Pow =>
    cases h
    cases a with
    | int i => cases b with
      | int j =>
        simp only [bop] at hz
        split at hz
        · rename_i hm
          cases hz
          cases ra.int; cases rb.int
          exact op_pow pins s σ H _ _ v u Q I rx ry ⟨i, j, rfl, rfl, ⟨hm.1, hm.2.1, hm.2.2⟩, q.flat rfl⟩
        · cases hz
      | _ => cases hz
    | _ => cases hz
  | _ => cases h
end
end Mi

/-! M5.lean -/
namespace Mi
open PySem PySem.Spec PyProof.Rows L2

/-! ### == of trees is == of data -/
mutual
def pd : U → PyData
  | .non => .none
  | .bl b => .bool b
  | .int i => .int i
  | .str s => .str s
  | .tup us => .tuple (pds us)
  | .lst us => .list (pds us)
def pds : List U → List PyData
  | [] => []
  | u :: us => pd u :: pds us
end
mutual
theorem eqv_pd : ∀ u v : U, PyData.eqv (pd u) (pd v) = ueq u v
  | .tup us, .tup vs => by simp only [pd, PyData.eqv, ueq]; exact eqvs_pd us vs
  | .lst us, .lst vs => by simp only [pd, PyData.eqv, ueq]; exact eqvs_pd us vs
  | .non, v => by cases v <;> simp [pd, PyData.eqv, ueq]
  | .bl b, v => by cases v <;> simp [pd, PyData.eqv, ueq]
  | .int i, v => by cases v <;> simp [pd, PyData.eqv, ueq]
  | .str s, v => by cases v <;> simp [pd, PyData.eqv, ueq]
  | .tup us, .non => by simp [pd, PyData.eqv, ueq]
  | .tup us, .bl _ => by simp [pd, PyData.eqv, ueq]
  | .tup us, .int _ => by simp [pd, PyData.eqv, ueq]
  | .tup us, .str _ => by simp [pd, PyData.eqv, ueq]
  | .tup us, .lst _ => by simp [pd, PyData.eqv, ueq]
  | .lst us, .non => by simp [pd, PyData.eqv, ueq]
  | .lst us, .bl _ => by simp [pd, PyData.eqv, ueq]
  | .lst us, .int _ => by simp [pd, PyData.eqv, ueq]
  | .lst us, .str _ => by simp [pd, PyData.eqv, ueq]
  | .lst us, .tup _ => by simp [pd, PyData.eqv, ueq]
theorem eqvs_pd : ∀ us vs : List U, PyData.eqvAll (pds us) (pds vs) = ueqs us vs
  | [], [] => by simp [pds, PyData.eqvAll, ueqs]
  | [], _ :: _ => by simp [pds, PyData.eqvAll, ueqs]
  | _ :: _, [] => by simp [pds, PyData.eqvAll, ueqs]
  | u :: us, v :: vs => by simp only [pds, PyData.eqvAll, ueqs]; rw [eqv_pd u v, eqvs_pd us vs]
end
mutual
theorem dep_pd : ∀ u : U, (pd u).depth = dep u
  | .non => by simp [pd, PyData.depth, dep]
  | .bl _ => by simp [pd, PyData.depth, dep]
  | .int _ => by simp [pd, PyData.depth, dep]
  | .str _ => by simp [pd, PyData.depth, dep]
  | .tup us => by simp only [pd, PyData.depth, dep]; rw [deps_pd us]
  | .lst us => by simp only [pd, PyData.depth, dep]; rw [deps_pd us]
theorem deps_pd : ∀ us : List U, PyData.depthAll (pds us) = deps us
  | [] => by simp [pds, PyData.depthAll, deps]
  | u :: us => by simp only [pds, PyData.depthAll, deps]; rw [dep_pd u, deps_pd us]
end
mutual
theorem sok_pd : ∀ u : U, (pd u).canLay0 = sok u
  | .non => by simp [pd, PyData.canLay0, sok]
  | .bl _ => by simp [pd, PyData.canLay0, sok]
  | .int _ => by simp [pd, PyData.canLay0, sok]
  | .str _ => by simp [pd, PyData.canLay0, sok]
  | .tup us => by simp only [pd, PyData.canLay0, sok]; rw [soks_pd us]
  | .lst us => by simp only [pd, PyData.canLay0, sok]; rw [soks_pd us]
theorem soks_pd : ∀ us : List U, PyData.canLayAll0 (pds us) = soks us
  | [] => by simp [pds, PyData.canLayAll0, soks]
  | u :: us => by simp only [pds, PyData.canLayAll0, soks]; rw [sok_pd u, soks_pd us]
end
theorem shaped_pd {u : U} (h : fine u = true) : SeqAt.shaped (pd u) = true := by
  simp only [fine, Bool.and_eq_true, decide_eq_true_eq] at h
  unfold SeqAt.shaped
  rw [sok_pd, dep_pd, h.2]
  simp only [Bool.true_and, decide_eq_true_eq]
  omega
section
variable {K : PySem.W.Frag} {B : Addr → Prop} {H : Hp} {ac : Option Addr}
mutual
theorem Rep.dp : ∀ {u : U} {v : V}, Rep B H u v → Dp K H v (pd u)
  | _, _, .non => .non
  | _, _, .bl b => .bl b
  | _, _, .int i => .int i
  | _, _, .str s => .str s
  | _, _, .tup h r => .tup (SqT.of h) (Reps.dp r)
  | _, _, .lst h n r => .lst (SqL.of h) (Reps.dp r)
theorem Reps.dp : ∀ {us : List U} {vs : List V}, Reps B H us vs → DpAll K H vs (pds us)
  | _, _, .nil => .nil
  | _, _, .cons r t => .cons (Rep.dp r) (Reps.dp t)
end
theorem RepT.dp {u : U} {v : V} (r : RepT ac B H u v) : Dp K H v (pd u) := by
  rcases r with r | ⟨a, us, vs, rfl, rfl, _, h, r⟩
  · exact r.dp
  · exact .lst (SqL.of h) r.dp
end
theorem any_pds (u : U) : ∀ us : List U, ((pds us).any fun z => PyData.eqv z (pd u)) = us.any fun z => ueq z u
  | [] => rfl
  | x :: xs => by
    show (PyData.eqv (pd x) (pd u) || _) = (ueq x u || _)
    rw [eqv_pd, any_pds u xs]
theorem flatV_fv {u : U} (h : flat u = true) : flatV (fv u) = true := by cases u <;> first | rfl | cases h
theorem eqV_fv {u v : U} (h : flat u = true) (h' : flat v = true) : eqV (fv u) (fv v) = ueq u v := by
  cases u <;> cases v <;> first | (cases h; done) | (cases h'; done) | rfl | (simp [fv, eqV, ueq])
theorem any_fv {u : U} (hu : flat u = true) : ∀ us : List U, us.all flat = true → inV (fv u) (us.map fv) = us.any fun z => ueq z u
  | [], _ => rfl
  | x :: xs, h => by
    rw [List.all_cons, Bool.and_eq_true] at h
    show (eqV (fv x) (fv u) || inV (fv u) (xs.map fv)) = (ueq x u || _)
    rw [eqV_fv h.1 hu, any_fv hu xs h.2]
theorem all_fv : ∀ us : List U, us.all flat = true → (us.map fv).all flatV = true
  | [], _ => rfl
  | x :: xs, h => by
    rw [List.all_cons, Bool.and_eq_true] at h
    rw [List.map_cons, List.all_cons, flatV_fv h.1, all_fv xs h.2]; rfl
def rCop (o : Cop) : R2 := fun x y H Q => ∃ B ac u v r, RepT ac B H u x ∧ RepT ac B H v y ∧ cop o u v = some r ∧ Q (.bl r) H
theorem RepT.isNon {ac : Option Addr} {B : Addr → Prop} {H : Hp} {u : U} {v : V} (r : RepT ac B H u v) : decide (v = V.non) = Mi.isNon u := by
  rcases r with r | ⟨a, us, vs, rfl, rfl, _⟩
  · cases r <;> rfl
  · rfl
section
variable {X : Cx}
theorem op_cop {op : CmpOp} {o : Cop} (hu : X.A.units + 65 < cLine) (h : cop? op = some o) : OpR X (compareOp op) (rCop o) := by
  intro pins s σ H x y v u Q I rx ry hq
  obtain ⟨B, ac, a, b, r, ra, rb, hz, q⟩ := hq
  cases op with
  | Eq =>
    cases h
    simp only [cop] at hz
    split at hz
    · rename_i hf
      cases hz
      simp only [Bool.and_eq_true] at hf
      refine op_eqD (by omega) pins s σ H _ _ v u Q I rx ry ⟨_, _, ra.dp, rb.dp, shaped_pd hf.1, shaped_pd hf.2, ?_⟩
      rw [eqv_pd]; exact q
    · cases hz
  | NotEq =>
    cases h
    simp only [cop] at hz
    split at hz
    · rename_i hf
      cases hz
      simp only [Bool.and_eq_true] at hf
      refine op_neD (by omega) pins s σ H _ _ v u Q I rx ry ⟨_, _, ra.dp, rb.dp, shaped_pd hf.1, shaped_pd hf.2, ?_⟩
      rw [eqv_pd]; exact q
    · cases hz
  | Lt =>
    cases h
    cases a <;> cases b <;> first | (cases hz; done) | skip
    cases hz
    cases ra.int; cases rb.int
    exact op_lt pins s σ H _ _ v u Q I rx ry ⟨_, _, rfl, rfl, q⟩
  | LtE =>
    cases h
    cases a <;> cases b <;> first | (cases hz; done) | skip
    cases hz
    cases ra.int; cases rb.int
    exact op_le pins s σ H _ _ v u Q I rx ry ⟨_, _, rfl, rfl, q⟩
  | Gt =>
    cases h
    cases a <;> cases b <;> first | (cases hz; done) | skip
    cases hz
    cases ra.int; cases rb.int
    exact op_gt pins s σ H _ _ v u Q I rx ry ⟨_, _, rfl, rfl, q⟩
  | GtE =>
    cases h
    cases a <;> cases b <;> first | (cases hz; done) | skip
    cases hz
    cases ra.int; cases rb.int
    exact op_ge pins s σ H _ _ v u Q I rx ry ⟨_, _, rfl, rfl, q⟩
  | Is =>
    cases h
    cases b with
    | non =>
      have e : r = Mi.isNon a := by cases a <;> (cases hz; rfl)
      subst e
      refine op_isN pins s σ H _ _ v u Q I rx ry ⟨rb.flat rfl, ?_⟩
      rw [ra.isNon]; exact q
    | bl k => cases a with
      | bl j =>
        cases hz
        cases ra.bl; cases rb.bl
        refine op_isBl pins s σ H _ _ v u Q I rx ry ⟨_, _, rfl, rfl, ?_⟩
        rw [← Bool.beq_eq_decide_eq]; exact q
      | _ => cases hz
    | _ => cases a <;> cases hz
  | IsNot =>
    cases h
    cases b with
    | non =>
      have e : r = !Mi.isNon a := by cases a <;> (cases hz; rfl)
      subst e
      refine op_notN pins s σ H _ _ v u Q I rx ry ⟨rb.flat rfl, ?_⟩
      rw [ra.isNon]; exact q
    | bl k => cases a with
      | bl j =>
        cases hz
        cases ra.bl; cases rb.bl
        refine op_notBl pins s σ H _ _ v u Q I rx ry ⟨_, _, rfl, rfl, ?_⟩
        rw [← Bool.beq_eq_decide_eq]; exact q
      | _ => cases hz
    | _ => cases a <;> cases hz
  | In =>
    cases h
    cases b with
    | lst us =>
      have hz' : (if (fine a && fine (.lst us)) = true then some (us.any fun z => ueq z a) else none) = some r := by cases a <;> exact hz
      split at hz'
      · rename_i hf
        cases hz'
        simp only [Bool.and_eq_true] at hf
        refine op_inD (by omega) pins s σ H _ _ v u Q I rx ry ⟨_, _, ra.dp, rb.dp, shaped_pd hf.1, shaped_pd hf.2, ?_⟩
        rw [any_pds]; exact q
      · cases hz'
    | tup us =>
      have hz' : (if (flat a && us.all flat) = true then some (us.any fun z => ueq z a) else none) = some r := by cases a <;> exact hz
      split at hz'
      · rename_i hf
        cases hz'
        simp only [Bool.and_eq_true] at hf
        obtain ⟨p, vs, rfl, e1, r1⟩ := rb.tup
        cases r1.flat hf.2
        cases ra.flat hf.1
        refine op_in_seq pins s σ H _ _ v u Q I rx ry ⟨p, _, rfl, .inr (SqT.of e1), flatV_fv hf.1, all_fv us hf.2, ?_⟩
        rw [if_neg Bool.false_ne_true, any_fv hf.1 us hf.2]; exact q
      · cases hz'
    | _ => cases a <;> cases hz
  | NotIn =>
    cases h
    cases b with
    | lst us =>
      have hz' : (if (fine a && fine (.lst us)) = true then some (!us.any fun z => ueq z a) else none) = some r := by cases a <;> exact hz
      split at hz'
      · rename_i hf
        cases hz'
        simp only [Bool.and_eq_true] at hf
        refine op_notInD (by omega) pins s σ H _ _ v u Q I rx ry ⟨_, _, ra.dp, rb.dp, shaped_pd hf.1, shaped_pd hf.2, ?_⟩
        rw [any_pds]; exact q
      · cases hz'
    | tup us =>
      have hz' : (if (flat a && us.all flat) = true then some (!us.any fun z => ueq z a) else none) = some r := by cases a <;> exact hz
      split at hz'
      · rename_i hf
        cases hz'
        simp only [Bool.and_eq_true] at hf
        obtain ⟨p, vs, rfl, e1, r1⟩ := rb.tup
        cases r1.flat hf.2
        cases ra.flat hf.1
        refine op_notIn_seq pins s σ H _ _ v u Q I rx ry ⟨p, _, rfl, .inr (SqT.of e1), flatV_fv hf.1, all_fv us hf.2, ?_⟩
        rw [if_pos rfl, any_fv hf.1 us hf.2]; exact q
      · cases hz'
    | _ => cases a <;> cases hz
end

/-! ### built-ins by values -/
def rBi (f : Bi) : List V → Hp → VK → Prop := fun xs H Q => ∃ B ac u v z, xs = [v] ∧ Live B H ∧ RepT ac B H u v ∧ bi f u = some z ∧ Ans B H z Q
theorem ins_perm (x : Int) : ∀ ys, (ins x ys).Perm (x :: ys)
  | [] => .refl _
  | y :: ys => by
    unfold ins
    split
    · exact .refl _
    · exact ((ins_perm x ys).cons y).trans (.swap x y ys)
theorem isort_perm : ∀ xs, (isort xs).Perm xs
  | [] => .refl _
  | x :: xs => (ins_perm x (isort xs)).trans ((isort_perm xs).cons x)
theorem ins_sorted (x : Int) : ∀ ys, ys.Pairwise (· ≤ ·) → (ins x ys).Pairwise (· ≤ ·)
  | [], _ => by simp [ins]
  | y :: ys, h => by
    unfold ins
    split
    · rename_i hxy
      refine List.pairwise_cons.mpr ⟨fun z hz => ?_, h⟩
      rcases List.mem_cons.mp hz with rfl | hz
      · exact hxy
      · exact Int.le_trans hxy ((List.pairwise_cons.mp h).1 z hz)
    · rename_i hxy
      refine List.pairwise_cons.mpr ⟨fun z hz => ?_, ins_sorted x ys (List.pairwise_cons.mp h).2⟩
      rcases List.mem_cons.mp ((ins_perm x ys).mem_iff.mp hz) with rfl | hz
      · omega
      · exact (List.pairwise_cons.mp h).1 z hz
theorem isort_sorted : ∀ xs, (isort xs).Pairwise (· ≤ ·)
  | [] => .nil
  | x :: xs => ins_sorted x _ (isort_sorted xs)
theorem sorted_eq : ∀ {xs ys : List Int}, xs.Perm ys → xs.Pairwise (· ≤ ·) → ys.Pairwise (· ≤ ·) → xs = ys := by
  intro xs ys p hx hy
  exact List.Perm.eq_of_pairwise (fun a b _ _ h1 h2 => Int.le_antisymm h1 h2) hx hy p
theorem lmax_spec : ∀ (xs : List Int) (m : Int), (lmax xs m = m ∨ lmax xs m ∈ xs) ∧ m ≤ lmax xs m ∧ ∀ y ∈ xs, y ≤ lmax xs m
  | [], m => ⟨.inl rfl, Int.le_refl _, fun _ h => absurd h (by simp)⟩
  | x :: xs, m => by
    obtain ⟨h1, h2, h3⟩ := lmax_spec xs (if m < x then x else m)
    show (lmax xs (if m < x then x else m) = m ∨ lmax xs (if m < x then x else m) ∈ x :: xs) ∧ m ≤ lmax xs (if m < x then x else m) ∧ ∀ y ∈ x :: xs, y ≤ lmax xs (if m < x then x else m)
    generalize lmax xs (if m < x then x else m) = z at h1 h2 h3
    split at h1 <;> split at h2 <;> first | omega | skip
    all_goals refine ⟨?_, by omega, fun y hy => ?_⟩
    all_goals first
      | (rcases h1 with rfl | h1 <;> simp_all; done)
      | (rcases List.mem_cons.mp hy with rfl | hy; omega; exact h3 y hy)
theorem lmin_spec : ∀ (xs : List Int) (m : Int), (lmin xs m = m ∨ lmin xs m ∈ xs) ∧ lmin xs m ≤ m ∧ ∀ y ∈ xs, lmin xs m ≤ y
  | [], m => ⟨.inl rfl, Int.le_refl _, fun _ h => absurd h (by simp)⟩
  | x :: xs, m => by
    obtain ⟨h1, h2, h3⟩ := lmin_spec xs (if x < m then x else m)
    show (lmin xs (if x < m then x else m) = m ∨ lmin xs (if x < m then x else m) ∈ x :: xs) ∧ lmin xs (if x < m then x else m) ≤ m ∧ ∀ y ∈ x :: xs, lmin xs (if x < m then x else m) ≤ y
    generalize lmin xs (if x < m then x else m) = z at h1 h2 h3
    split at h1 <;> split at h2 <;> first | omega | skip
    all_goals refine ⟨?_, by omega, fun y hy => ?_⟩
    all_goals first
      | (rcases h1 with rfl | h1 <;> simp_all; done)
      | (rcases List.mem_cons.mp hy with rfl | hy; omega; exact h3 y hy)
def biV : Bi → Value
  | .int => .type "int"
  | .list => .type "list"
  | .tuple => .type "tuple"
  | .len => .builtin "len"
  | .abs => .builtin "abs"
  | .sum => .builtin "sum"
  | .max => .builtin "max"
  | .min => .builtin "min"
  | .all => .builtin "all"
  | .sorted => .builtin "sorted"
section
variable {X : Cx}
theorem call_bi (hc : X.calm = true) (f : Bi) : CallR X (biV f) (rBi f) := by
  intro pins s σ H xs us Q I r hq
  obtain ⟨B, ac, u, v, z, rfl, lv, ru, hz, q⟩ := hq
  cases f with
  | int =>
    cases u with
    | int i => cases hz; cases ru.int; exact call_int1 pins s σ H _ us Q I r (.inl ⟨i, rfl, q.flat rfl⟩)
    | bl b => cases hz; cases ru.bl; exact call_int1 pins s σ H _ us Q I r (.inr ⟨b, rfl, q.flat rfl⟩)
    | _ => cases hz
  | len =>
    cases u with
    | tup as =>
      cases hz
      obtain ⟨p, vs, rfl, e1, r1⟩ := ru.tup
      refine call_len_seq pins s σ H _ us Q I r ⟨p, vs, rfl, .inr (SqT.of e1), ?_⟩
      rw [← r1.length]; exact q.flat rfl
    | lst as =>
      cases hz
      obtain ⟨p, vs, rfl, e1, r1⟩ := ru.lst
      refine call_len_seq pins s σ H _ us Q I r ⟨p, vs, rfl, .inl (SqL.of e1), ?_⟩
      rw [← r1.length]; exact q.flat rfl
    | _ => cases hz
  | abs =>
    cases u with
    | int i => cases hz; cases ru.int; exact call_abs pins s σ H _ us Q I r ⟨i, rfl, q.flat rfl⟩
    | _ => cases hz
  | sum =>
    cases u with
    | lst as =>
      simp only [bi, Option.map_eq_some_iff] at hz
      obtain ⟨ns, h1, rfl⟩ := hz
      obtain ⟨p, vs, rfl, e1, r1⟩ := ru.lst
      cases r1.nums h1
      exact cr_sum hc pins s σ H _ us Q I r ⟨p, ns, rfl, SqL.of e1, q.flat rfl⟩
    | _ => cases hz
  | max =>
    cases u with
    | lst as =>
      simp only [bi, Option.bind_eq_some_iff] at hz
      obtain ⟨ns, h1, hz⟩ := hz
      obtain ⟨p, vs, rfl, e1, r1⟩ := ru.lst
      cases r1.nums h1
      cases ns with
      | nil => cases hz
      | cons n ns =>
        cases hz
        refine cr_max hc pins s σ H _ us Q I r ⟨p, n :: ns, rfl, SqL.of e1, by simp, fun m hm hle => ?_⟩
        obtain ⟨g1, g2, g3⟩ := lmax_spec ns n
        have e : m = lmax ns n := by
          have a1 : lmax ns n ≤ m := hle _ (by rcases g1 with g | g <;> simp [g])
          have a2 : m ≤ lmax ns n := by
            rcases List.mem_cons.mp hm with rfl | hm
            · exact g2
            · exact g3 m hm
          omega
        subst e
        exact q.flat rfl
    | _ => cases hz
  | min =>
    cases u with
    | lst as =>
      simp only [bi, Option.bind_eq_some_iff] at hz
      obtain ⟨ns, h1, hz⟩ := hz
      obtain ⟨p, vs, rfl, e1, r1⟩ := ru.lst
      cases r1.nums h1
      cases ns with
      | nil => cases hz
      | cons n ns =>
        cases hz
        refine cr_min hc pins s σ H _ us Q I r ⟨p, n :: ns, rfl, SqL.of e1, by simp, fun m hm hle => ?_⟩
        obtain ⟨g1, g2, g3⟩ := lmin_spec ns n
        have e : m = lmin ns n := by
          have a1 : m ≤ lmin ns n := hle _ (by rcases g1 with g | g <;> simp [g])
          have a2 : lmin ns n ≤ m := by
            rcases List.mem_cons.mp hm with rfl | hm
            · exact g2
            · exact g3 m hm
          omega
        subst e
        exact q.flat rfl
    | _ => cases hz
  | all =>
    cases u with
    | lst as =>
      simp only [bi, Option.map_eq_some_iff] at hz
      obtain ⟨ns, h1, rfl⟩ := hz
      obtain ⟨p, vs, rfl, e1, r1⟩ := ru.lst
      cases r1.bls h1
      exact cr_all hc pins s σ H _ us Q I r ⟨p, ns, rfl, SqL.of e1, q.flat rfl⟩
    | _ => cases hz
  | list =>
    cases u with
    | tup as =>
      cases hz
      obtain ⟨p, vs, rfl, e1, r1⟩ := ru.tup
      exact call_list_of pins s σ H _ us Q I r ⟨p, vs, rfl, .inr (SqT.of e1), q.lst lv r1⟩
    | lst as =>
      cases hz
      obtain ⟨p, vs, rfl, e1, r1⟩ := ru.lst
      exact call_list_of pins s σ H _ us Q I r ⟨p, vs, rfl, .inl (SqL.of e1), q.lst lv r1⟩
    | _ => cases hz
  | tuple =>
    cases u with
    | tup as =>
      cases hz
      obtain ⟨p, vs, rfl, e1, r1⟩ := ru.tup
      exact call_tuple_of pins s σ H _ us Q I r ⟨p, vs, rfl, .inr ⟨SqT.of e1, q.rep (.tup e1 r1) rfl⟩⟩
    | lst as =>
      cases hz
      obtain ⟨p, vs, rfl, e1, r1⟩ := ru.lst
      exact call_tuple_of pins s σ H _ us Q I r ⟨p, vs, rfl, .inl ⟨SqL.of e1, q.tup r1⟩⟩
    | _ => cases hz
  | sorted =>
    cases u with
    | lst as =>
      simp only [bi, Option.map_eq_some_iff] at hz
      obtain ⟨ns, h1, rfl⟩ := hz
      obtain ⟨p, vs, rfl, e1, r1⟩ := ru.lst
      cases r1.nums h1
      refine cr_sortedI pins s σ H _ us Q I r ⟨p, ns, rfl, SqL.of e1, fun ns' p' pm sr np => ?_⟩
      have e : ns' = isort ns := sorted_eq (pm.trans (isort_perm ns).symm) sr (isort_sorted ns)
      subst e
      exact q.lst lv (.ofNums _) p' np
    | _ => cases hz
end
end Mi

/-! M6.lean -/
namespace Mi
open PySem PySem.Spec PyProof.Rows L2

theorem PE.imp {X : Cx} {e : Expr} {t t' : TE} (h : PE X e t) (i : ∀ σ H Q, t' σ H Q → t σ H Q) : PE X e t' := ⟨fun pins s σ H Q I hw => h.run pins s σ H Q I (i σ H Q hw)⟩
theorem PT.imp {X : Cx} {e : Expr} {t t' : TT} (h : PT X e t) (i : ∀ σ H Q, t' σ H Q → t σ H Q) : PT X e t' := ⟨fun pins s σ H Q I hw => h.run pins s σ H Q I (i σ H Q hw)⟩
theorem PW.imp {X : Cx} {e : Expr} {t t' : TT} (h : PW X e t) (i : ∀ σ H Q, t' σ H Q → t σ H Q) : PW X e t' := ⟨fun wh pins s σ H Q I hw => h.run wh pins s σ H Q I (i σ H Q hw)⟩
theorem PA.imp {X : Cx} {es : List Expr} {t t' : TA} (h : PA X es t) (i : ∀ σ H Q, t' σ H Q → t σ H Q) : PA X es t' := ⟨fun pos pins s σ H Q I hw => h.run pos pins s σ H Q I (i σ H Q hw)⟩

/-! ### own defs -/
inductive RTs (ac : Option Addr) (B : Addr → Prop) (H : Hp) : List U → List V → Prop
  | nil : RTs ac B H [] []
  | cons {u : U} {v : V} {us : List U} {vs : List V} : RepT ac B H u v → RTs ac B H us vs → RTs ac B H (u :: us) (v :: vs)
theorem RTs.mono {w : Wd} {H H' : Hp} {c : Cs} {K : PySem.W.Frag} {σ : L2.St} (s : SR K w σ H) (n : Nx w H c H') {us : List U} {vs : List V} (r : RTs w.ac w.blk H us vs) : RTs w.ac w.blk H' us vs := by
  induction r with
  | nil => exact .nil
  | cons a _ ih => exact .cons (a.mono s n) ih
theorem RepT.weak {ac : Option Addr} {B : Addr → Prop} {H : Hp} {u : U} {v : V} (r : RepT ac B H u v) : RepT none B H u v := by
  rcases r with r | ⟨a, us, vs, e1, e2, e3, e4, e5⟩
  · exact .inl r
  · exact .inr ⟨a, us, vs, e1, e2, (fun z => nomatch z), e4, e5⟩
theorem RTs.weak {ac : Option Addr} {B : Addr → Prop} {H : Hp} {us : List U} {vs : List V} (r : RTs ac B H us vs) : RTs none B H us vs := by
  induction r with
  | nil => exact .nil
  | cons a _ ih => exact .cons a.weak ih
theorem RTs.length {ac : Option Addr} {B : Addr → Prop} {H : Hp} {us : List U} {vs : List V} (r : RTs ac B H us vs) : us.length = vs.length := by
  induction r with
  | nil => rfl
  | cons _ _ ih => simp [ih]
/-- the fresh answer's address -/
def New (fr : Bool) (H : Hp) (u : U) (t : V) : Prop := fr = true → ∀ xs, u = .lst xs → ∃ a, t = .ref a ∧ H a = none
/-- what an own def promises -/
def spF (K : PySem.W.Frag) (mg : Str → Option Value) : Fs → Sp
  | .pure n fr P => fun vs H Q E => ∃ B us, us.length = n ∧ Live B H ∧ RTs none B H us vs ∧ match P us with
    | .ok u => ∀ H' t, (∀ b o, H b = some o → H' b = some o) → Rep B H' u t → New fr H u t → Q t H'
    | .exc x => ∀ H' C, (∀ b o, H b = some o → H' b = some o) → mg x = some (.ref C) → E (.ref C) none H'
    | .bad => False
  | .cupd n fr P => fun vs H Q E => ∃ B a us vs' cv u cv', vs = .ref a :: vs' ∧ us.length = n ∧ Live B H ∧ B a ∧ cv.all flat = true ∧ H a = some (.lst (cv.map fv)) ∧ RTs (some a) B H us vs' ∧ P cv us = some (u, cv') ∧
      ∀ H' t, (∀ b o, H b = some o → b ≠ a → H' b = some o) → cv'.all flat = true → H' a = some (.lst (cv'.map fv)) → Rep B H' u t → New fr H u t → Q t H'
  | .scr P => fun vs H Q E => ∃ (B : Addr → Prop) (a : Addr) (ns : List Int) (u : U), vs = [.ref a] ∧ Live B H ∧ SqL K H a (ns.map V.int) ∧ P (ns.map U.int) = some u ∧ ∀ H' t, (∀ b o, H b = some o → H' b = some o) → Rep B H' u t → New true H u t → Q t H'
structure Hv (X : Cx) (x : Str) (fs : Fs) : Prop where
  ex : ∃ (k : Nat) (f : Addr) (fd : FuncData) (ps : List Str), Room k X.A ∧ X.mg x = some (.ref f) ∧ PySem.W.keepIn X.K (.ref f) = true ∧ Binds X.K fd ps [] ∧ FnOk X.prog X.w X.K X.mg X.base (CX X.prog X.w) k f fd ps (spF X.K X.mg fs)
def kindOf : Fs → Nat
  | .pure _ _ _ => 0
  | .cupd _ _ _ => 1
  | .scr _ => 2
def blts : List Str := ["int", "bool", "tuple", "list", "str", "len", "abs", "sum", "max", "min", "all", "sorted", "range", "zip", "enumerate", "isinstance"]
/-- where our rules hold: the def's context, its names, what it calls; W: what is wanted of an exception -/
structure Gd (X : Cx) (c : CE) (Γ : Gm) (W : XK) : Prop where
  N : X.N = c.N
  nd : X.N.Nodup
  calm : X.calm = true
  sc : ∀ x k, c.sc.names.lookup x = some k → ∃ k', X.env.scope.names.lookup x = some k' ∧ (k' = k ∨ (k = .free ∧ k' = .cell))
  bt : ∀ x, x ∈ blts → X.mg x = none
  gi : ∀ x i, c.gi.lookup x = some i → ∃ t, X.mg x = some (.int i t)
  tk : Takes X fun cl d _ H => W cl d H
  un : X.A.units + 65 < cLine
  fns : ∀ x k j, fnIx x c.fns 0 = some (k, j) → ∃ fs, Γ[k]? = some fs ∧ kindOf fs = j ∧ Hv X x fs

/-! ### readings -/
section
variable (K : PySem.W.Frag) (mg : Str → Option Value) (W : XK) (Γ : Gm)
def tE (e : E) : TE := fun σ H Q => ∃ w, SR K w σ H ∧ Out mg W w H (ev Γ e w.ρ w.cs) fun u c H' => ∀ v, RV (cl Γ e) w H H' u v → Q v H'
def tT (e : E) : TT := fun σ H Q => ∃ w, SR K w σ H ∧ Out mg W w H (bnd (ev Γ e w.ρ) (fun u => opt (ofB u)) w.cs) fun b c H' => Q b H'
/-- arguments: lent -/
def tEs (e : E) : TA := fun σ H Q => ∃ w, SR K w σ H ∧ Out mg W w H (evs Γ e w.ρ w.cs) fun us c H' => ∀ vs, RTs w.ac w.blk H' us vs → Q vs H'
/-- items: kept -/
def tKs (e : E) : TA := fun σ H Q => ∃ w, SR K w σ H ∧ Out mg W w H (evs Γ e w.ρ w.cs) fun us c H' => ∀ vs, Reps w.blk H' us vs → Q vs H'
end
section
variable {K : PySem.W.Frag} {mg : Str → Option Value} {W : XK} {Γ : Gm} {w : Wd} {σ : L2.St} {H : Hp} {Q : VK}
theorem tE.of {e : E} {Kc : U → Cs → Hp → Prop} {Q' : VK} (s : SR K w σ H) (o : Out mg W w H (ev Γ e w.ρ w.cs) Kc) (h : ∀ u c H', Nx w H c H' → SR K (w.at c) σ H' → Kc u c H' → ∀ v, RV (cl Γ e) w H H' u v → Q' v H') : tE K mg W Γ e σ H Q' :=
  ⟨w, s, o.imp fun u c H' n k => h u c H' n (n.sr s) k⟩
theorem Out.of_eq {α : Type} {r r' : Res α} {Kc : α → Cs → Hp → Prop} (h : Out mg W w H r Kc) (e : r = r') : Out mg W w H r' Kc := e ▸ h
theorem cl_kept {Γ : Gm} : ∀ {e : E}, keptE e = true → (cl Γ e).kept = true
  | .var _, h => by cases h
  | .lvar _, h => by cases h
  | .ite c a b, h => by
    simp only [keptE, Bool.and_eq_true] at h
    have h1 := cl_kept (Γ := Γ) h.1
    have h2 := cl_kept (Γ := Γ) h.2
    show (Cl.meet (cl Γ a) (cl Γ b)).kept = true
    cases e1 : cl Γ a <;> cases e2 : cl Γ b <;> rw [e1] at h1 <;> rw [e2] at h2 <;> first | (cases h1; done) | (cases h2; done) | rfl
  | .nil, _ => rfl
  | .cons _ _, _ => rfl
  | .evar _, _ => rfl
  | .con _, _ => rfl
  | .bin _ _ _, _ => rfl
  | .neg _, _ => rfl
  | .not _, _ => rfl
  | .cmp _ _ _, _ => rfl
  | .cmp2 _ _ _ _ _, _ => rfl
  | .and _ _, _ => rfl
  | .or _ _, _ => rfl
  | .tup _, _ => rfl
  | .lst _, _ => rfl
  | .call k _, _ => by
    show (match Γ[k]? with | some (.pure _ true _) => Cl.new | _ => Cl.any).kept = true
    split <;> rfl
  | .callC k _ _, _ => by
    show (match Γ[k]? with | some (.cupd _ true _) => Cl.new | _ => Cl.any).kept = true
    split <;> rfl
  | .callS _ _, _ => rfl
  | .lscr _, _ => rfl
  | .b1 f _, _ => by cases f <;> rfl
  | .max2 _ _, _ => rfl
  | .min2 _ _, _ => rfl
  | .isi _ _, _ => rfl
  | .sub _ _, _ => rfl
  | .slc _ _ _ _ _, _ => rfl
  | .rev _, _ => rfl
  | .comp _ _ _ _ _ _ _, _ => rfl
  | .iseq _, _ => rfl
  | .rng1 _, _ => rfl
  | .rng2 _ _, _ => rfl
  | .rng3 _ _ _, _ => rfl
  | .zip _ _, _ => rfl
  | .enum _, _ => rfl

/-! ### names -/
theorem ixOf_get {x : Str} : ∀ {l : List Str} {n i : Nat}, ixOf x l n = some i → n ≤ i ∧ l[i - n]? = some x
  | [], _, _, h => by cases h
  | y :: ys, n, i, h => by
    unfold ixOf at h
    split at h
    · rename_i e
      cases h; subst e
      exact ⟨Nat.le_refl _, by simp⟩
    · obtain ⟨h1, h2⟩ := ixOf_get h
      refine ⟨by omega, ?_⟩
      rw [show i - n = (i - (n + 1)) + 1 by omega]
      simpa using h2
end
section
variable {X : Cx} {c : CE} {Γ : Gm} {W : XK}
theorem Gd.slot (g : Gd X c Γ W) {x : Str} {i : Nat} (h : slot c x = some i) : X.N[i]? = some x ∧ Vis X.env.scope x ∧ (x == ("__debug__" : Str)) = false ∧ (x == ("__classdict__" : Str)) = false := by
  unfold Mi.slot at h
  split at h
  · rename_i k hk
    split at h
    · rename_i hc
      obtain ⟨h1, h2⟩ := ixOf_get h
      obtain ⟨k', hk', hkk⟩ := g.sc x k hk
      refine ⟨by rw [g.N]; simpa using h2, ?_, hc.2.1, hc.2.2⟩
      rcases hkk with rfl | ⟨rfl, rfl⟩
      · cases k' with
        | «local» => exact .inl hk'
        | cell => exact .inr (.inl hk')
        | free => exact .inr (.inr hk')
        | globalExplicit => exact absurd hc.1 (by simp [isV])
        | globalImplicit => exact absurd hc.1 (by simp [isV])
      · exact .inr (.inl hk')
    · cases h
  · cases h
theorem Gd.slotW (g : Gd X c Γ W) {x : Str} {i : Nat} (h : slotW c x = some i) : X.N[i]? = some x ∧ Loc X.env.scope x := by
  unfold Mi.slotW at h
  split at h
  · rename_i k hk
    split at h
    · rename_i hc
      obtain ⟨h1, h2⟩ := ixOf_get h
      obtain ⟨k', hk', hkk⟩ := g.sc x k hk
      refine ⟨by rw [g.N]; simpa using h2, ?_⟩
      rcases hkk with rfl | ⟨rfl, rfl⟩
      · cases k' with
        | «local» => exact .inl hk'
        | cell => exact .inr hk'
        | free => exact absurd hc (by simp [isL])
        | globalExplicit => exact absurd hc (by simp [isL])
        | globalImplicit => exact absurd hc (by simp [isL])
      · exact absurd hc (by simp [isL])
    · cases h
  · cases h
theorem Gd.slotL (g : Gd X c Γ W) {x : Str} {i : Nat} (h : slotL c x = some i) : X.N[i]? = some x ∧ X.env.scope.names.lookup x = some .local := by
  unfold Mi.slotL at h
  split at h
  · rename_i k hk
    split at h
    · rename_i hc
      obtain ⟨h1, h2⟩ := ixOf_get h
      obtain ⟨k', hk', hkk⟩ := g.sc x k hk
      refine ⟨by rw [g.N]; simpa using h2, ?_⟩
      rcases hkk with rfl | ⟨rfl, rfl⟩
      · cases k' <;> first | exact hk' | exact absurd hc (by simp [isLocal])
      · exact absurd hc (by simp [isLocal])
    · cases h
  · cases h
theorem Gd.isG (g : Gd X c Γ W) {x : Str} (h : isG c x = true) : Gl X x := by
  unfold Mi.isG at h
  split at h
  · rename_i k hk
    obtain ⟨k', hk', hkk⟩ := g.sc x k hk
    rcases hkk with rfl | ⟨rfl, rfl⟩
    · cases k' with
      | globalImplicit => exact hk'
      | _ => cases h
    · cases h
  · cases h

/-! ### small expressions -/
variable {σ : L2.St} {H : Hp} {Q : VK}
abbrev Cx.tE (X : Cx) (W : XK) (Γ : Gm) (e : E) : TE := Mi.tE X.K X.mg W Γ e
theorem SR.look {K : PySem.W.Frag} {w : Wd} (s : SR K w σ H) {i : Nat} {u : U} (h : look w.ρ i = some u) : ∃ v, σ[i]? = some (some v) ∧ RepT w.ac w.blk H u v := by
  unfold Mi.look at h
  split at h
  · rename_i us e
    cases h
    obtain ⟨h1, h2, h3, vs, h4, h5⟩ := s.own i us e
    exact ⟨_, h1, .inr ⟨_, us, vs, rfl, rfl, h3.1, h4, h5⟩⟩
  · rename_i u' e
    cases h
    obtain ⟨v, h1, h2⟩ := s.bor i u e
    refine ⟨v, h1, ?_⟩
    rcases h2 with h2 | ⟨a, us, vs, rfl, rfl, h3, h4, h5⟩
    · exact .inl (h2.mono s.kp0)
    · exact .inr ⟨a, us, vs, rfl, rfl, h3, s.up0 h4 h3, h5.mono s.kp0⟩
  · rename_i u' e
    cases h
    obtain ⟨v, h1, h2⟩ := s.fr i u e
    exact ⟨v, h1, .inl h2⟩
  · cases h
theorem SR.keep {K : PySem.W.Frag} {w : Wd} (s : SR K w σ H) {i : Nat} {u : U} (h : keep w.ρ i = some u) : ∃ v, σ[i]? = some (some v) ∧ Rep w.blk H u v := by
  unfold Mi.keep at h
  split at h
  · rename_i u' e
    split at h
    · cases h
    · rename_i hl
      cases h
      obtain ⟨v, h1, h2⟩ := s.bor i u e
      refine ⟨v, h1, ?_⟩
      rcases h2 with h2 | ⟨a, us, vs, rfl, _⟩
      · exact h2.mono s.kp0
      · exact absurd rfl hl
  · rename_i u' e
    cases h
    obtain ⟨v, h1, h2⟩ := s.fr i u e
    exact ⟨v, h1, h2⟩
  · cases h
theorem pe_v (g : Gd X c Γ W) {x : Str} {i : Nat} {pos : Pos} (h : slot c x = some i) : PE X (.Name x pos) (Cx.tE X W Γ (.var i)) := by
  obtain ⟨h1, h2, h3, h4⟩ := g.slot h
  refine PE.imp (pe_var h1 h2 h3 h4) fun σ H Q ⟨w, s, o⟩ => ?_
  simp only [ev] at o
  obtain ⟨u, e, k⟩ := o.opt
  obtain ⟨v, e1, r⟩ := s.look e
  exact ⟨v, e1, k H s.refl v r⟩
theorem pe_ev (g : Gd X c Γ W) {x : Str} {i : Nat} {pos : Pos} (h : slot c x = some i) : PE X (.Name x pos) (Cx.tE X W Γ (.evar i)) := by
  obtain ⟨h1, h2, h3, h4⟩ := g.slot h
  refine PE.imp (pe_var h1 h2 h3 h4) fun σ H Q ⟨w, s, o⟩ => ?_
  simp only [ev] at o
  obtain ⟨u, e, k⟩ := o.opt
  obtain ⟨v, e1, r⟩ := s.keep e
  exact ⟨v, e1, k H s.refl v r⟩
theorem pe_lv (g : Gd X c Γ W) {x : Str} {i : Nat} {pos : Pos} (h : slot c x = some i) : PE X (.Name x pos) (Cx.tE X W Γ (.lvar i)) := by
  obtain ⟨h1, h2, h3, h4⟩ := g.slot h
  refine PE.imp (pe_var h1 h2 h3 h4) fun σ H Q ⟨w, s, o⟩ => ?_
  simp only [ev] at o
  obtain ⟨u, e, k⟩ := o.opt
  unfold lent at e
  split at e
  · rename_i u' e'
    cases e
    obtain ⟨v, h1, h2⟩ := s.bor i u e'
    refine ⟨v, h1, k H s.refl v ?_⟩
    rcases h2 with h2 | ⟨a, us, vs, rfl, rfl, h3, h4, h5⟩
    · exact .inl (h2.mono s.kp0)
    · refine .inr ⟨a, us, vs, rfl, rfl, h3, s.up0 h4 h3, h5.mono s.kp0, fun j us' hj e => ?_⟩
      have q := (s.own j us' hj).2.1
      rw [e, s.hb _ _ h4 h3] at q; cases q
  · rename_i u' e'
    cases e
    obtain ⟨v, h1, h2⟩ := s.fr i u e'
    exact ⟨v, h1, k H s.refl v (.inl h2)⟩
  · cases e
theorem out_con {u : U} (f : flat u = true) {Q : VK} (h : Cx.tE X W Γ (.con u) σ H Q) : Q (fv u) H := by
  obtain ⟨w, s, o⟩ := h
  exact o.ret H s.refl (fv u) ⟨.ofFlat f, fun us e => by subst e; cases f⟩
theorem pe_con {e : Expr} {u : U} (h : PE X e (tC (fv u))) (f : flat u = true) : PE X e (Cx.tE X W Γ (.con u)) := PE.imp h fun _ _ _ h => out_con f h
theorem pe_bin (g : Gd X c Γ W) {a b : Expr} {ea eb : E} {op : Operator} {o : Bop} {pos : Pos} (ho : bop? op = some o) (ha : PE X a (Cx.tE X W Γ ea)) (hb : PE X b (Cx.tE X W Γ eb)) : PE X (.BinOp a op b pos) (Cx.tE X W Γ (.bin o ea eb)) := by
  refine PE.imp (pe_op (op_bop ho) ha hb) fun σ H Q ⟨w, s, h⟩ => ?_
  simp only [ev] at h
  refine ⟨w, s, h.bnd.imp fun u c1 H1 n1 k1 x rx => ?_⟩
  have s1 := n1.sr s
  refine ⟨w.at c1, s1, k1.bnd.imp fun v c2 H2 n2 k2 y ry => ?_⟩
  have s2 := n2.sr s1
  obtain ⟨z, e, k3⟩ := k2.opt
  refine ⟨w.blk, w.ac, u, v, z, s2.liveB, RepT.mono (w := w.at c1) rx.t s1 n2, ry.t, e, ?_⟩
  exact Out.ans (w := (w.at c1).at c2) (H0 := H) s2 (fun b o e => by
    obtain ⟨o1, e1⟩ := n1.there s b o e
    exact n2.there s1 b o1 e1) fun H' n v r => k3 H' n v r
end
end Mi

/-! M7.lean -/
namespace Mi
open PySem PySem.Spec PyProof.Rows L2
section
variable {K : PySem.W.Frag} {mg : Str → Option Value} {W : XK} {Γ : Gm} {w : Wd} {σ : L2.St} {H : Hp} {Q : VK} {α : Type} {Kc : α → Cs → Hp → Prop}
theorem one {ea : E} {f : U → M α} {R : V → Hp → Prop} (s : SR K w σ H) (h : Out mg W w H (bnd (ev Γ ea w.ρ) f w.cs) Kc)
    (fin : ∀ u c1 H1 x, SR K (w.at c1) σ H1 → Nx w H c1 H1 → RV (cl Γ ea) w H H1 u x → Out mg W (w.at c1) H1 (f u c1) Kc → R x H1) : tE K mg W Γ ea σ H R :=
  ⟨w, s, h.bnd.imp fun u c1 H1 n1 k1 x rx => fin u c1 H1 x (n1.sr s) n1 rx k1⟩
theorem two {ea eb : E} {f : U → U → M α} {R : V → V → Hp → Prop} (s : SR K w σ H) (h : Out mg W w H (bnd (ev Γ ea w.ρ) (fun u => bnd (ev Γ eb w.ρ) fun v => f u v) w.cs) Kc)
    (fin : ∀ u v c2 H2 x y, SR K (w.at c2) σ H2 → Nx w H c2 H2 → RV (cl Γ ea) w H H2 u x → RV (cl Γ eb) w H H2 v y → Out mg W (w.at c2) H2 (f u v c2) Kc → R x y H2) : tE K mg W Γ ea σ H fun x H1 => tE K mg W Γ eb σ H1 fun y H2 => R x y H2 := by
  refine one s h fun u c1 H1 x s1 n1 rx k1 => ?_
  refine one s1 k1 fun v c2 H2 y s2 n2 ry k2 => ?_
  refine fin u v c2 H2 x y s2 (n1.trans n2) (RV.mono (w := w.at c1) rx s1 n2) ?_ k2
  cases e : cl Γ eb with
  | tr => rw [e] at ry; exact ry
  | lv => rw [e] at ry; exact ry
  | any => rw [e] at ry; exact ry
  | new =>
    rw [e] at ry
    refine ⟨ry.1, fun us e => ?_⟩
    obtain ⟨a, e1, e2⟩ := ry.2 us e
    refine ⟨a, e1, ?_⟩
    cases q : H a with
    | none => rfl
    | some o =>
      obtain ⟨o', e3⟩ := n1.there s a o q
      rw [e2] at e3; cases e3
theorem three {ea eb ed : E} {f : U → U → U → M α} {R : V → V → V → Hp → Prop} (s : SR K w σ H) (h : Out mg W w H (bnd (ev Γ ea w.ρ) (fun u => bnd (ev Γ eb w.ρ) fun v => bnd (ev Γ ed w.ρ) fun z => f u v z) w.cs) Kc)
    (fin : ∀ u v z c2 H2 x y t, SR K (w.at c2) σ H2 → Nx w H c2 H2 → RV (cl Γ ea) w H H2 u x → RV (cl Γ eb) w H H2 v y → RV (cl Γ ed) w H H2 z t → Out mg W (w.at c2) H2 (f u v z c2) Kc → R x y t H2) :
    tE K mg W Γ ea σ H fun x H1 => tE K mg W Γ eb σ H1 fun y H2 => tE K mg W Γ ed σ H2 fun t H3 => R x y t H3 := by
  refine two s h fun u v c2 H2 x y s2 n2 rx ry k2 => ?_
  refine one s2 k2 fun z c3 H3 t s3 n3 rt k3 => ?_
  refine fin u v z c3 H3 x y t s3 (n2.trans n3) (RV.mono (w := w.at c2) rx s2 n3) (RV.mono (w := w.at c2) ry s2 n3) ?_ k3
  cases e : cl Γ ed with
  | tr => rw [e] at rt; exact rt
  | lv => rw [e] at rt; exact rt
  | any => rw [e] at rt; exact rt
  | new =>
    rw [e] at rt
    refine ⟨rt.1, fun us e => ?_⟩
    obtain ⟨a, e1, e2⟩ := rt.2 us e
    refine ⟨a, e1, ?_⟩
    cases q : H a with
    | none => rfl
    | some o =>
      obtain ⟨o', e3⟩ := n2.there s a o q
      rw [e2] at e3; cases e3
/-- an answer that is flat -/
theorem fin_flat {z : U} {c : Cs} {H1 : Hp} (f : flat z = true) (s : SR K (w.at c) σ H1) (h : Out mg W (w.at c) H1 (ret z c) fun u c H' => ∀ v, RV .new w H H' u v → Q v H') : Q (fv z) H1 :=
  h.ret H1 s.refl (fv z) ⟨.ofFlat f, fun us e => by subst e; cases f⟩
theorem fin_ans {z : U} {c : Cs} {H1 : Hp} (s : SR K w σ H) (n : Nx w H c H1) (h : Out mg W (w.at c) H1 (ret z c) fun u c H' => ∀ v, RV .new w H H' u v → Q v H') : Ans w.blk H1 z Q :=
  Out.ans (w := w.at c) (H0 := H) (n.sr s) (fun b o e => n.there s b o e) fun H' n' v r => h.ret H' n' v r
theorem ofB_eq {u : U} {b : Bool} (h : ofB u = some b) : u = .bl b := by cases u <;> cases h; rfl
end
section
variable {X : Cx} {c : CE} {Γ : Gm} {W : XK} {σ : L2.St} {H : Hp} {Q : VK}
abbrev Cx.tT (X : Cx) (W : XK) (Γ : Gm) (e : E) : TT := Mi.tT X.K X.mg W Γ e
abbrev Cx.tEs (X : Cx) (W : XK) (Γ : Gm) (e : E) : TA := Mi.tEs X.K X.mg W Γ e
abbrev Cx.tKs (X : Cx) (W : XK) (Γ : Gm) (e : E) : TA := Mi.tKs X.K X.mg W Γ e
/-- a test from a value -/
theorem tT_of {e : E} {Q : Bool → Hp → Prop} (h : Cx.tT X W Γ e σ H Q) : tB (Cx.tE X W Γ e) σ H Q := by
  obtain ⟨w, s, o⟩ := h
  refine one s o fun u c1 H1 x s1 n1 rx k1 => ?_
  obtain ⟨b, e1, k⟩ := k1.opt
  cases ofB_eq e1
  exact ⟨b, rx.t.bl, k H1 s1.refl⟩
theorem pt_of {a : Expr} {ea : E} (ha : PE X a (Cx.tE X W Γ ea)) (he : ∀ whole, isTrue a X.env whole = (do let v ← whole; standAt a.pos; holding [v] (truthy v))) : PT X a (Cx.tT X W Γ ea) :=
  PT.imp (pt_val ha he) fun _ _ _ h => tT_of h
theorem pe_neg' {a : Expr} {ea : E} {pos : Pos} (ha : PE X a (Cx.tE X W Γ ea)) : PE X (.UnaryOp .USub a pos) (Cx.tE X W Γ (.neg ea)) := by
  refine PE.imp (pe_un un_neg ha) fun σ H Q ⟨w, s, o⟩ => ?_
  simp only [ev] at o
  refine one s o fun u c1 H1 x s1 n1 rx k1 => ?_
  cases u with
  | int i =>
    cases rx.t.int
    exact ⟨i, rfl, fin_flat rfl s1 k1⟩
  | _ => exact k1.elim
theorem pe_not' {a : Expr} {ea : E} {pos : Pos} (ha : PE X a (Cx.tE X W Γ ea)) : PE X (.UnaryOp .Not a pos) (Cx.tE X W Γ (.not ea)) := by
  refine PE.imp (L2.pe_not ha) fun σ H Q ⟨w, s, o⟩ => ?_
  simp only [ev] at o
  refine one s o fun u c1 H1 x s1 n1 rx k1 => ?_
  obtain ⟨b, e1, k⟩ := (Out.bnd (w := w.at c1) k1).opt
  cases ofB_eq e1
  exact ⟨b, rx.t.bl, fin_flat rfl s1 (k H1 s1.refl)⟩
theorem pt_not' {a : Expr} {ea : E} {pos : Pos} (ha : PT X a (Cx.tT X W Γ ea)) : PT X (.UnaryOp .Not a pos) (Cx.tT X W Γ (.not ea)) := by
  refine PT.imp (L2.pt_not ha) fun σ H Q ⟨w, s, o⟩ => ?_
  refine ⟨w, s, ?_⟩
  simp only [ev] at o
  have e : ∀ c, bnd (bnd (ev Γ ea w.ρ) fun u => bnd (opt (ofB u)) fun b => ret (U.bl (!b))) (fun u => opt (ofB u)) c = bnd (bnd (ev Γ ea w.ρ) fun u => opt (ofB u)) (fun b => ret (!b)) c := fun c => by
    unfold bnd
    cases ev Γ ea w.ρ c with
    | ok u c' => cases u <;> rfl
    | exc x c' => rfl
    | bad => rfl
  have o2 := o.of_eq (e _)
  exact o2.bnd.imp fun b c1 H1 n1 k1 => k1.ret H1 (n1.sr s).refl
theorem pe_cmp' (hu : X.A.units + 65 < cLine) {a b : Expr} {ea eb : E} {op : CmpOp} {o : Cop} {pos : Pos} (ho : cop? op = some o) (ha : PE X a (Cx.tE X W Γ ea)) (hb : PE X b (Cx.tE X W Γ eb)) (hm : behindInMarks op b = false) : PE X (.Compare a [op] [b] pos) (Cx.tE X W Γ (.cmp o ea eb)) := by
  refine PE.imp (pe_cmpR (op_cop hu ho) ha hb hm) fun σ H Q ⟨w, s, h⟩ => ?_
  simp only [ev] at h
  refine two s h fun u v c2 H2 x y s2 n2 rx ry k2 => ?_
  obtain ⟨r, e, k3⟩ := (Out.bnd (w := w.at c2) k2).opt
  exact ⟨w.blk, w.ac, u, v, r, rx.t, ry.t, e, fin_flat rfl s2 (k3 H2 s2.refl)⟩
theorem tT_bl {e : E} {R : V → Hp → Prop} {Q : Bool → Hp → Prop} (h : Cx.tT X W Γ e σ H Q) : tB (Cx.tE X W Γ e) σ H Q := tT_of h
theorem pt_cmp' (hu : X.A.units + 65 < cLine) {a b : Expr} {ea eb : E} {op : CmpOp} {o : Cop} {pos : Pos} (ho : cop? op = some o) (ha : PE X a (Cx.tE X W Γ ea)) (hb : PE X b (Cx.tE X W Γ eb)) (hm : behindInMarks op b = false) : PT X (.Compare a [op] [b] pos) (Cx.tT X W Γ (.cmp o ea eb)) := by
  refine PT.imp (pt_cmpR (op_cop hu ho) ha hb hm) fun σ H Q ⟨w, s, h⟩ => ?_
  simp only [ev] at h
  have e : ∀ c, bnd (bnd (ev Γ ea w.ρ) fun u => bnd (ev Γ eb w.ρ) fun v => bnd (opt (cop o u v)) fun r => ret (U.bl r)) (fun u => opt (ofB u)) c = bnd (ev Γ ea w.ρ) (fun u => bnd (ev Γ eb w.ρ) fun v => opt (cop o u v)) c := fun c => by
    unfold bnd
    cases ev Γ ea w.ρ c with
    | ok u c' => dsimp only; cases ev Γ eb w.ρ c' with
      | ok v c2 => dsimp only; cases cop o u v <;> rfl
      | exc x c' => rfl
      | bad => rfl
    | exc x c' => rfl
    | bad => rfl
  refine two s (h.of_eq (e _)) fun u v c2 H2 x y s2 n2 rx ry k2 => ?_
  obtain ⟨r, e, k3⟩ := k2.opt
  exact ⟨w.blk, w.ac, u, v, r, rx.t, ry.t, e, ⟨r, rfl, k3 H2 s2.refl⟩⟩
/-- a chain, by what is wanted of its answer -/
theorem chain_in (hu : X.A.units + 65 < cLine) {ea eb ed : E} {o o' : Cop} {w : Wd} (s : SR X.K w σ H) {R : Bool → Hp → Prop} {Kc : Bool → Cs → Hp → Prop}
    (h : Out X.mg W w H (bnd (ev Γ ea w.ρ) (fun u => bnd (ev Γ eb w.ρ) fun v => bnd (opt (cop o u v)) fun r => if r = true then bnd (ev Γ ed w.ρ) fun z => opt (cop o' v z) else ret false) w.cs) Kc)
    (fin : ∀ b c H', SR X.K (w.at c) σ H' → Nx w H c H' → Kc b c H' → R b H') (Q : VK) (hQ : ∀ b H', R b H' → Q (.bl b) H') : tChain (rCop o) (rCop o') (Cx.tE X W Γ ea) (Cx.tE X W Γ eb) (Cx.tE X W Γ ed) σ H Q := by
  refine two s h fun u v c2 H2 x y s2 n2 rx ry k2 => ?_
  obtain ⟨r, e, k3⟩ := (Out.bnd (w := w.at c2) k2).opt
  refine ⟨w.blk, w.ac, u, v, r, rx.t, ry.t, e, r, rfl, ?_⟩
  have k4 := k3 H2 s2.refl
  cases r with
  | false =>
    rw [if_neg Bool.false_ne_true]
    exact hQ _ _ (fin _ _ _ s2 n2 (k4.ret H2 s2.refl))
  | true =>
    rw [if_pos rfl]
    refine one s2 k4 fun z c3 H3 t s3 n3 rt k5 => ?_
    obtain ⟨r', e', k6⟩ := k5.opt
    exact ⟨w.blk, w.ac, v, z, r', (RV.mono (w := w.at c2) ry s2 n3).t, rt.t, e', hQ _ _ (fin _ _ _ s3 (n2.trans n3) (k6 H3 s3.refl))⟩
theorem pe_cmp2' (hu : X.A.units + 65 < cLine) {a b d : Expr} {ea eb ed : E} {op op' : CmpOp} {o o' : Cop} {pos : Pos} (ho : cop? op = some o) (ho' : cop? op' = some o') (ha : PE X a (Cx.tE X W Γ ea)) (hb : PE X b (Cx.tE X W Γ eb)) (hd : PE X d (Cx.tE X W Γ ed)) (hm : lastMarks [op, op'] [b, d] = false) :
    PE X (.Compare a [op, op'] [b, d] pos) (Cx.tE X W Γ (.cmp2 o o' ea eb ed)) := by
  refine PE.imp (pe_chain (op_cop hu ho) (op_cop hu ho') ha hb hd hm) fun σ H Q ⟨w, s, h⟩ => ?_
  simp only [ev] at h
  have e : ∀ c, bnd (ev Γ ea w.ρ) (fun u => bnd (ev Γ eb w.ρ) fun v => bnd (opt (cop o u v)) fun r => if r = true then bnd (ev Γ ed w.ρ) fun z => bnd (opt (cop o' v z)) fun r' => ret (U.bl r') else ret (U.bl false)) c
      = bnd (bnd (ev Γ ea w.ρ) fun u => bnd (ev Γ eb w.ρ) fun v => bnd (opt (cop o u v)) fun r => if r = true then bnd (ev Γ ed w.ρ) fun z => opt (cop o' v z) else ret false) (fun b => ret (U.bl b)) c := fun c => by
    unfold bnd
    cases ev Γ ea w.ρ c with
    | ok u c' => dsimp only; cases ev Γ eb w.ρ c' with
      | ok v c2 =>
        dsimp only
        cases cop o u v with
        | none => rfl
        | some r => cases r with
          | false => rfl
          | true =>
            dsimp only [opt, ret]
            rw [if_pos rfl, if_pos rfl]
            cases ev Γ ed w.ρ c2 with
            | ok z c3 => (try dsimp only); (try (cases cop o' v z <;> rfl))
            | exc x c' => rfl
            | bad => rfl
      | exc x c' => rfl
      | bad => rfl
    | exc x c' => rfl
    | bad => rfl
  exact chain_in hu s (h.of_eq (e _)).bnd (R := fun b H' => Q (.bl b) H') (fun b c H' s1 n1 k => fin_flat (z := .bl b) rfl s1 k) Q fun _ _ h => h
theorem pt_cmp2' (hu : X.A.units + 65 < cLine) {a b d : Expr} {ea eb ed : E} {op op' : CmpOp} {o o' : Cop} {pos : Pos} (ho : cop? op = some o) (ho' : cop? op' = some o') (ha : PE X a (Cx.tE X W Γ ea)) (hb : PE X b (Cx.tE X W Γ eb)) (hd : PE X d (Cx.tE X W Γ ed)) (hm : lastMarks [op, op'] [b, d] = false) :
    PT X (.Compare a [op, op'] [b, d] pos) (Cx.tT X W Γ (.cmp2 o o' ea eb ed)) := by
  refine PT.imp (pt_chain (op_cop hu ho) (op_cop hu ho') ha hb hd hm) fun σ H Q ⟨w, s, h⟩ => ?_
  simp only [ev] at h
  have e : ∀ c, bnd (bnd (ev Γ ea w.ρ) (fun u => bnd (ev Γ eb w.ρ) fun v => bnd (opt (cop o u v)) fun r => if r = true then bnd (ev Γ ed w.ρ) fun z => bnd (opt (cop o' v z)) fun r' => ret (U.bl r') else ret (U.bl false))) (fun u => opt (ofB u)) c
      = bnd (ev Γ ea w.ρ) (fun u => bnd (ev Γ eb w.ρ) fun v => bnd (opt (cop o u v)) fun r => if r = true then bnd (ev Γ ed w.ρ) fun z => opt (cop o' v z) else ret false) c := fun c => by
    unfold bnd
    cases ev Γ ea w.ρ c with
    | ok u c' => dsimp only; cases ev Γ eb w.ρ c' with
      | ok v c2 =>
        dsimp only
        cases cop o u v with
        | none => rfl
        | some r => cases r with
          | false => rfl
          | true =>
            dsimp only [opt, ret]
            rw [if_pos rfl, if_pos rfl]
            cases ev Γ ed w.ρ c2 with
            | ok z c3 => (try dsimp only); (try (cases cop o' v z <;> rfl))
            | exc x c' => rfl
            | bad => rfl
      | exc x c' => rfl
      | bad => rfl
    | exc x c' => rfl
    | bad => rfl
  exact chain_in hu s (h.of_eq (e _)) (R := fun b H' => Q b H') (fun b c H' s1 n1 k => k) _ fun b _ h => ⟨b, rfl, h⟩

/-! ### and, or, if -/
theorem pe_and' {a b : Expr} {rest : List Expr} {ea eb : E} {pos : Pos} (ha : PE X a (Cx.tE X W Γ ea)) (hb : PE X (.BoolOp .And (b :: rest) pos) (Cx.tE X W Γ eb)) : PE X (.BoolOp .And (a :: b :: rest) pos) (Cx.tE X W Γ (.and ea eb)) := by
  refine PE.imp (L2.pe_and ha hb) fun σ H Q ⟨w, s, h⟩ => ?_
  simp only [ev] at h
  refine one s h fun u c1 H1 x s1 n1 rx k1 => ?_
  obtain ⟨r, e, k2⟩ := (Out.bnd (w := w.at c1) k1).opt
  cases ofB_eq e
  refine ⟨r, rx.t.bl, ?_⟩
  have k3 := k2 H1 s1.refl
  cases r with
  | false => rw [if_neg Bool.false_ne_true]; exact fin_flat (z := .bl false) rfl s1 k3
  | true =>
    rw [if_pos rfl]
    refine one s1 k3 fun v c2 H2 y s2 n2 ry k4 => ?_
    obtain ⟨r', e', k5⟩ := (Out.bnd (w := w.at c2) k4).opt
    cases ofB_eq e'
    cases ry.t.bl
    exact fin_flat (z := .bl r') rfl s2 (k5 H2 s2.refl)
theorem pe_or' {a b : Expr} {rest : List Expr} {ea eb : E} {pos : Pos} (ha : PE X a (Cx.tE X W Γ ea)) (hb : PE X (.BoolOp .Or (b :: rest) pos) (Cx.tE X W Γ eb)) : PE X (.BoolOp .Or (a :: b :: rest) pos) (Cx.tE X W Γ (.or ea eb)) := by
  refine PE.imp (L2.pe_or ha hb) fun σ H Q ⟨w, s, h⟩ => ?_
  simp only [ev] at h
  refine one s h fun u c1 H1 x s1 n1 rx k1 => ?_
  obtain ⟨r, e, k2⟩ := (Out.bnd (w := w.at c1) k1).opt
  cases ofB_eq e
  refine ⟨r, rx.t.bl, ?_⟩
  have k3 := k2 H1 s1.refl
  cases r with
  | true => rw [if_pos rfl]; exact fin_flat (z := .bl true) rfl s1 k3
  | false =>
    rw [if_neg Bool.false_ne_true]
    refine one s1 k3 fun v c2 H2 y s2 n2 ry k4 => ?_
    obtain ⟨r', e', k5⟩ := (Out.bnd (w := w.at c2) k4).opt
    cases ofB_eq e'
    cases ry.t.bl
    exact fin_flat (z := .bl r') rfl s2 (k5 H2 s2.refl)
theorem and_eq (ea eb : E) (ρ : Ev) : ∀ c, bnd (bnd (ev Γ ea ρ) fun u => bnd (opt (ofB u)) fun r => if r = true then bnd (ev Γ eb ρ) fun v => bnd (opt (ofB v)) fun r' => ret (U.bl r') else ret (U.bl false)) (fun u => opt (ofB u)) c
    = bnd (bnd (ev Γ ea ρ) fun u => opt (ofB u)) (fun r => if r = true then bnd (ev Γ eb ρ) fun v => opt (ofB v) else ret false) c := fun c => by
  unfold bnd
  cases ev Γ ea ρ c with
  | ok u c' =>
    dsimp only
    cases ofB u with
    | none => rfl
    | some r => cases r with
      | false => rfl
      | true =>
        dsimp only [opt, ret]
        rw [if_pos rfl, if_pos rfl]
        cases ev Γ eb ρ c' with
        | ok z c3 => (try dsimp only); (try (cases ofB z <;> rfl))
        | exc x c' => rfl
        | bad => rfl
  | exc x c' => rfl
  | bad => rfl
theorem or_eq (ea eb : E) (ρ : Ev) : ∀ c, bnd (bnd (ev Γ ea ρ) fun u => bnd (opt (ofB u)) fun r => if r = true then ret (U.bl true) else bnd (ev Γ eb ρ) fun v => bnd (opt (ofB v)) fun r' => ret (U.bl r')) (fun u => opt (ofB u)) c
    = bnd (bnd (ev Γ ea ρ) fun u => opt (ofB u)) (fun r => if r = true then ret true else bnd (ev Γ eb ρ) fun v => opt (ofB v)) c := fun c => by
  unfold bnd
  cases ev Γ ea ρ c with
  | ok u c' =>
    dsimp only
    cases ofB u with
    | none => rfl
    | some r => cases r with
      | true => rfl
      | false =>
        dsimp only [opt, ret]
        rw [if_neg Bool.false_ne_true, if_neg Bool.false_ne_true]
        cases ev Γ eb ρ c' with
        | ok z c3 => (try dsimp only); (try (cases ofB z <;> rfl))
        | exc x c' => rfl
        | bad => rfl
  | exc x c' => rfl
  | bad => rfl
theorem pw_and' {a b : Expr} {rest : List Expr} {ea eb : E} {pos : Pos} (ha : PT X a (Cx.tT X W Γ ea)) (hb : PW X (.BoolOp .And (b :: rest) pos) (Cx.tT X W Γ eb)) : PW X (.BoolOp .And (a :: b :: rest) pos) (Cx.tT X W Γ (.and ea eb)) := by
  refine PW.imp (L2.pw_and ha hb) fun σ H Q ⟨w, s, h⟩ => ?_
  simp only [ev] at h
  have o := h.of_eq (and_eq ea eb w.ρ w.cs)
  refine ⟨w, s, o.bnd.imp fun r c1 H1 n1 k1 => ?_⟩
  have s1 := n1.sr s
  cases r with
  | false => exact k1.ret H1 s1.refl
  | true => exact ⟨w.at c1, s1, k1⟩
theorem pw_or' {a b : Expr} {rest : List Expr} {ea eb : E} {pos : Pos} (ha : PT X a (Cx.tT X W Γ ea)) (hb : PW X (.BoolOp .Or (b :: rest) pos) (Cx.tT X W Γ eb)) : PW X (.BoolOp .Or (a :: b :: rest) pos) (Cx.tT X W Γ (.or ea eb)) := by
  refine PW.imp (L2.pw_or ha hb) fun σ H Q ⟨w, s, h⟩ => ?_
  simp only [ev] at h
  have o := h.of_eq (or_eq ea eb w.ρ w.cs)
  refine ⟨w, s, o.bnd.imp fun r c1 H1 n1 k1 => ?_⟩
  have s1 := n1.sr s
  cases r with
  | true => exact k1.ret H1 s1.refl
  | false => exact ⟨w.at c1, s1, k1⟩
theorem RV.meetL {k k' : Cl} {w : Wd} {H H' : Hp} {u : U} {v : V} (r : RV k w H H' u v) : RV (k.meet k') w H H' u v := by
  cases k <;> cases k' <;> first | exact r | exact RV.t r | exact .inl r.1 | exact r.1 | exact .inl r
theorem RV.meetR {k k' : Cl} {w : Wd} {H H' : Hp} {u : U} {v : V} (r : RV k' w H H' u v) : RV (k.meet k') w H H' u v := by
  cases k <;> cases k' <;> first | exact r | exact RV.t r | exact .inl r.1 | exact r.1 | exact .inl r
theorem RV.from {k : Cl} {w : Wd} {c : Cs} {H H1 H' : Hp} {u : U} {v : V} {K : PySem.W.Frag} {σ : L2.St} (s : SR K w σ H) (n : Nx w H c H1) (r : RV k (w.at c) H1 H' u v) : RV k w H H' u v := by
  cases k with
  | tr => exact r
  | lv => exact r
  | any => exact r
  | new =>
    refine ⟨r.1, fun us e => ?_⟩
    obtain ⟨a, e1, e2⟩ := r.2 us e
    refine ⟨a, e1, ?_⟩
    cases q : H a with
    | none => rfl
    | some o =>
      obtain ⟨o', e3⟩ := n.there s a o q
      rw [e2] at e3; cases e3
theorem pe_ite' {t a b : Expr} {et ea eb : E} {pos : Pos} (ht : PT X t (Cx.tT X W Γ et)) (ha : PE X a (Cx.tE X W Γ ea)) (hb : PE X b (Cx.tE X W Γ eb)) : PE X (.IfExp t a b pos) (Cx.tE X W Γ (.ite et ea eb)) := by
  refine PE.imp (pe_ifExp ht ha hb) fun σ H Q ⟨w, s, h⟩ => ?_
  simp only [ev] at h
  have e : ∀ c, bnd (ev Γ et w.ρ) (fun u => bnd (opt (ofB u)) fun r => if r = true then ev Γ ea w.ρ else ev Γ eb w.ρ) c = bnd (bnd (ev Γ et w.ρ) fun u => opt (ofB u)) (fun r => if r = true then ev Γ ea w.ρ else ev Γ eb w.ρ) c := fun c => by
    unfold bnd
    cases ev Γ et w.ρ c with
    | ok u c' => rfl
    | exc x c' => rfl
    | bad => rfl
  refine ⟨w, s, (h.of_eq (e _)).bnd.imp fun r c1 H1 n1 k1 => ?_⟩
  have s1 := n1.sr s
  cases r with
  | true =>
    show Cx.tE X W Γ ea σ H1 Q
    exact ⟨w.at c1, s1, Out.imp (w := w.at c1) k1 fun u c' H' _ k v r => k v (RV.from s n1 (RV.meetL r))⟩
  | false =>
    show Cx.tE X W Γ eb σ H1 Q
    exact ⟨w.at c1, s1, Out.imp (w := w.at c1) k1 fun u c' H' _ k v r => k v (RV.from s n1 (RV.meetR r))⟩

/-! ### rows of expressions -/
theorem pa_nilT : PA X [] (Cx.tEs X W Γ .nil) := PA.imp pa_nil fun σ H Q ⟨w, s, h⟩ => h.ret H s.refl [] .nil
theorem pa_nilK : PA X [] (Cx.tKs X W Γ .nil) := PA.imp pa_nil fun σ H Q ⟨w, s, h⟩ => h.ret H s.refl [] .nil
theorem pa_consT {a : Expr} {as : List Expr} {ea es : E} (hs : starEach (a :: as) X.env = (false, eval a X.env) :: starEach as X.env) (ha : PE X a (Cx.tE X W Γ ea)) (hr : PA X as (Cx.tEs X W Γ es)) : PA X (a :: as) (Cx.tEs X W Γ (.cons ea es)) := by
  refine PA.imp (pa_cons ha hr hs) fun σ H Q ⟨w, s, h⟩ => ?_
  simp only [evs] at h
  refine one s h fun u c1 H1 x s1 n1 rx k1 => ?_
  refine ⟨w.at c1, s1, (Out.bnd (w := w.at c1) k1).imp fun us c2 H2 n2 k2 vs rs => ?_⟩
  have s2 := Nx.sr (w := w.at c1) n2 s1
  exact k2.ret H2 s2.refl (x :: vs) (.cons (RV.mono (w := w.at c1) rx s1 n2).t rs)
theorem pa_consK {a : Expr} {as : List Expr} {ea es : E} (hs : starEach (a :: as) X.env = (false, eval a X.env) :: starEach as X.env) (hk : keptE ea = true) (ha : PE X a (Cx.tE X W Γ ea)) (hr : PA X as (Cx.tKs X W Γ es)) : PA X (a :: as) (Cx.tKs X W Γ (.cons ea es)) := by
  refine PA.imp (pa_cons ha hr hs) fun σ H Q ⟨w, s, h⟩ => ?_
  simp only [evs] at h
  refine one s h fun u c1 H1 x s1 n1 rx k1 => ?_
  refine ⟨w.at c1, s1, (Out.bnd (w := w.at c1) k1).imp fun us c2 H2 n2 k2 vs rs => ?_⟩
  have s2 := Nx.sr (w := w.at c1) n2 s1
  exact k2.ret H2 s2.refl (x :: vs) (.cons ((RV.mono (w := w.at c1) rx s1 n2).rep (cl_kept hk)) rs)
theorem pe_tup' {es : List Expr} {ee : E} {x1 : Nat} {pos : Pos} (h : PA X es (Cx.tKs X W Γ ee)) : PE X (.Tuple es x1 pos) (Cx.tE X W Γ (.tup ee)) := by
  refine PE.imp (pe_tup h) fun σ H Q ⟨w, s, h⟩ => ?_
  simp only [ev] at h
  refine ⟨w, s, h.bnd.imp fun us c1 H1 n1 k1 vs rs => ?_⟩
  by_cases hl : us.length ≤ L
  · rw [if_pos hl] at k1
    exact ⟨by rw [← rs.length]; exact hl, (fin_ans s n1 k1).tup rs⟩
  · rw [if_neg hl] at k1
    exact k1.elim
theorem pe_lst' {es : List Expr} {ee : E} {pos : Pos} (h : PA X es (Cx.tKs X W Γ ee)) : PE X (.List es pos) (Cx.tE X W Γ (.lst ee)) := by
  refine PE.imp (pe_lst h) fun σ H Q ⟨w, s, h⟩ => ?_
  simp only [ev] at h
  refine ⟨w, s, h.bnd.imp fun us c1 H1 n1 k1 vs rs => ?_⟩
  by_cases hl : us.length ≤ L
  · rw [if_pos hl] at k1
    exact ⟨by rw [← rs.length]; exact hl, (fin_ans s n1 k1).lst (n1.sr s).liveB rs⟩
  · rw [if_neg hl] at k1
    exact k1.elim
end
end Mi

/-! M8.lean -/
namespace Mi
open PySem PySem.Spec PyProof.Rows L2
def NoStar : Expr → Prop
  | .Starred _ _ => False
  | _ => True
theorem star_cons {e : Expr} (h : NoStar e) (es : List Expr) (env : Env) : starEach (e :: es) env = (false, eval e env) :: starEach es env := by
  cases e <;> first | rfl | exact h.elim
theorem star_name (x : Str) (p : Pos) (es : List Expr) (env : Env) : starEach (.Name x p :: es) env = (false, eval (.Name x p) env) :: starEach es env := rfl
theorem star_any {pos : Pos} {env : Env} : ∀ {es : List Expr}, (∀ e ∈ es, NoStar e) → (backTo pos (starEach es env)).any (·.1) = false
  | [], _ => rfl
  | e :: es, h => by
    rw [star_cons (h e (by simp))]
    show (false || (backTo pos (starEach es env)).any (·.1)) = false
    rw [star_any fun x hx => h x (by simp [hx])]
    rfl
theorem blt_none {X : Cx} {c : CE} {Γ : Gm} {W : XK} (g : Gd X c Γ W) {x : Str} (h : x ∈ blts) : X.mg x = none := g.bt x h
section
variable {X : Cx} {c : CE} {Γ : Gm} {W : XK} {σ : L2.St} {H : Hp} {Q : VK}
theorem mem_blts (x : Str) (h : decide (x ∈ blts) = true) : x ∈ blts := of_decide_eq_true h

/-! ### calls of own defs -/
theorem vs_nil (vs : List V) : vs ++ [] = vs := List.append_nil vs
theorem RV.pureNew {k : Nat} {n : Nat} {fr : Bool} {P : List U → An} {es : E} {w : Wd} {H0 H H' : Hp} {u : U} {t : V} (hk : Γ[k]? = some (.pure n fr P)) (r : Rep w.blk H' u t) (nw : New fr H u t) (h0 : ∀ b o, H0 b = some o → ∃ o', H b = some o') : RV (cl Γ (.call k es)) w H0 H' u t := by
  show RV (match Γ[k]? with | some (.pure _ true _) => Cl.new | _ => Cl.any) w H0 H' u t
  rw [hk]
  cases fr with
  | false => exact r
  | true =>
    refine ⟨r, fun us e => ?_⟩
    obtain ⟨a, e1, e2⟩ := nw rfl us e
    refine ⟨a, e1, ?_⟩
    cases q : H0 a with
    | none => rfl
    | some o =>
      obtain ⟨o', e3⟩ := h0 a o q
      rw [e2] at e3; cases e3
theorem call_pure {k n : Nat} {fr : Bool} {P : List U → An} {es : E} (hk : Γ[k]? = some (.pure n fr P)) (h : Cx.tE X W Γ (.call k es) σ H Q) :
    Cx.tEs X W Γ es σ H fun vs H1 => spF X.K X.mg (.pure n fr P) (vs ++ []) H1 Q W := by
  obtain ⟨w, s, h⟩ := h
  simp only [ev] at h
  refine ⟨w, s, h.bnd.imp fun us c1 H1 n1 k1 vs rs => ?_⟩
  have s1 := n1.sr s
  rw [hk] at k1
  show spF X.K X.mg (.pure n fr P) (vs ++ []) H1 Q W
  rw [vs_nil]
  by_cases hn : us.length = n
  · replace k1 : Out X.mg W (w.at c1) H1 ((if us.length = n then ans (P us) else bad) c1) _ := k1
    rw [if_pos hn] at k1
    refine ⟨w.blk, us, hn, s1.liveB, rs.weak, ?_⟩
    cases e : P us with
    | ok u =>
      rw [e] at k1
      intro H' t sm r nw
      exact k1.ret H' (s1.same sm) t (RV.pureNew hk r nw fun b o e => n1.there s b o e)
    | exc x =>
      rw [e] at k1
      intro H' C sm hC
      exact k1 H' C (s1.same sm) hC
    | bad => rw [e] at k1; exact k1
  · replace k1 : Out X.mg W (w.at c1) H1 ((if us.length = n then ans (P us) else bad) c1) _ := k1
    rw [if_neg hn] at k1
    exact k1.elim
theorem passes (g : Gd X c Γ W) : Passes (CX X.prog X.w) X W := passes_call g.tk fun _ _ _ _ h => h
theorem pe_callP (g : Gd X c Γ W) {x : Str} {k n : Nat} {fr : Bool} {P : List U → An} {as : List Expr} {es : E} {p pos : Pos} (hG : Gl X x) (hdb : (x == ("__debug__" : Str)) = false) (hk : Γ[k]? = some (.pure n fr P)) (hv : Hv X x (.pure n fr P))
    (ha : PA X as (Cx.tEs X W Γ es)) (hs : ∀ e ∈ as, NoStar e) (h0 : as = [] → es = .nil) : PE X (.Call (.Name x p) as [] pos) (Cx.tE X W Γ (.call k es)) := by
  obtain ⟨lv, f, fd, ps, hr, hm, kp, hb, F⟩ := hv.ex
  cases as with
  | nil =>
    refine PE.imp (pe_call0 F hr hG hm kp hb .nil (passes g) hdb) fun σ H Q h => ?_
    cases h0 rfl
    obtain ⟨w, s, o⟩ := call_pure hk h
    exact o.ret H s.refl [] .nil
  | cons a as =>
    exact PE.imp (pe_call F hr hG hm kp hb .nil (passes g) ha hdb (star_cons (hs a (by simp)) as X.env) (star_any fun e he => hs e (by simp [he]))) fun σ H Q h => call_pure hk h

theorem RTs.weakA {a : Addr} {B : Addr → Prop} {H : Hp} {us : List U} {vs : List V} {ac : Option Addr} (e : ac = some a) (r : RTs ac B H us vs) : RTs (some a) B H us vs := e ▸ r
theorem RV.cupNew {k : Nat} {j n : Nat} {fr : Bool} {P : List U → List U → Option (U × List U)} {es : E} {w : Wd} {H0 H H' : Hp} {u : U} {t : V} (hk : Γ[k]? = some (.cupd n fr P)) (r : Rep w.blk H' u t) (nw : New fr H u t) (h0 : ∀ b o, H0 b = some o → ∃ o', H b = some o') : RV (cl Γ (.callC k j es)) w H0 H' u t := by
  show RV (match Γ[k]? with | some (.cupd _ true _) => Cl.new | _ => Cl.any) w H0 H' u t
  rw [hk]
  cases fr with
  | false => exact r
  | true =>
    refine ⟨r, fun us e => ?_⟩
    obtain ⟨a, e1, e2⟩ := nw rfl us e
    refine ⟨a, e1, ?_⟩
    cases q : H0 a with
    | none => rfl
    | some o =>
      obtain ⟨o', e3⟩ := h0 a o q
      rw [e2] at e3; cases e3
theorem pe_callC' (g : Gd X c Γ W) {x y : Str} {k n j : Nat} {fr : Bool} {P : List U → List U → Option (U × List U)} {as : List Expr} {es : E} {p q pos : Pos} (hG : Gl X x) (hdb : (x == ("__debug__" : Str)) = false) (hk : Γ[k]? = some (.cupd n fr P)) (hv : Hv X x (.cupd n fr P))
    (hy : slot c y = some j) (ha : PA X as (Cx.tEs X W Γ es)) (hs : ∀ e ∈ as, NoStar e) : PE X (.Call (.Name x p) (.Name y q :: as) [] pos) (Cx.tE X W Γ (.callC k j es)) := by
  obtain ⟨lv, f, fd, ps, hr, hm, kp, hb, F⟩ := hv.ex
  obtain ⟨h1, h2, h3, h4⟩ := g.slot hy
  refine PE.imp (pe_call F hr hG hm kp hb .nil (passes g) (pa_cons (pe_var h1 h2 h3 h4) ha (star_name _ _ as X.env)) hdb (star_name _ _ as X.env) (star_any hs)) fun σ H Q ⟨w, s, h⟩ => ?_
  simp only [ev] at h
  by_cases hc : isCup w.ρ j = true
  · rw [if_pos hc] at h
    have hj : w.ρ[j]? = some (some .cup) := by
      unfold isCup at hc
      split at hc
      · assumption
      · cases hc
    obtain ⟨a, e1, e2⟩ := s.cupS j hj
    refine ⟨_, e2, ⟨w, s, h.bnd.imp fun us c1 H1 n1 k1 vs rs => ?_⟩⟩
    have s1 := n1.sr s
    show spF X.K X.mg (.cupd n fr P) (V.ref a :: vs ++ []) H1 Q W
    rw [vs_nil]
    obtain ⟨cv, g1, g2, g3⟩ := s1.cup a e1
    have g1' : c1 = some cv := g1
    subst g1'
    simp only [hk] at k1
    by_cases hn : us.length = n
    · rw [if_pos hn] at k1
      cases e : P cv us with
      | none => rw [e] at k1; exact k1.elim
      | some r =>
        obtain ⟨u, cv'⟩ := r
        rw [e] at k1
        refine ⟨w.blk, a, us, vs, cv, u, cv', rfl, hn, s1.liveB, .inr (.inl e1), g2, g3, rs.weakA e1, e, fun H' t sm fl hH r nw => ?_⟩
        have nx : Nx (w.at (some cv)) H1 (some cv') H' := ⟨fun b o e n => sm b o e fun z => n (by rw [z]; exact e1), fun a' e' => by
          have : a' = a := Option.some.inj (e'.symm.trans e1)
          subst this
          exact ⟨cv', rfl, fl, hH⟩, fun z => by rw [e1] at z; cases z⟩
        exact k1 H' nx t (RV.cupNew hk r nw fun b o e => n1.there s b o e)
    · rw [if_neg hn] at k1
      exact k1.elim
  · rw [if_neg hc] at h
    exact h.elim
theorem pe_callS' (g : Gd X c Γ W) {x y : Str} {k j : Nat} {P : List U → Option U} {p q pos : Pos} (hG : Gl X x) (hdb : (x == ("__debug__" : Str)) = false) (hk : Γ[k]? = some (.scr P)) (hv : Hv X x (.scr P))
    (hy : slot c y = some j) : PE X (.Call (.Name x p) [.Name y q] [] pos) (Cx.tE X W Γ (.callS k j)) := by
  obtain ⟨lv, f, fd, ps, hr, hm, kp, hb, F⟩ := hv.ex
  obtain ⟨h1, h2, h3, h4⟩ := g.slot hy
  refine PE.imp (pe_call F hr hG hm kp hb .nil (passes g) (pa_cons (pe_var h1 h2 h3 h4) pa_nil (star_name _ _ [] X.env)) hdb (star_name _ _ [] X.env) (star_any (fun _ z => nomatch z))) fun σ H Q ⟨w, s, h⟩ => ?_
  simp only [ev] at h
  obtain ⟨us, e1, k1⟩ := h.bnd.opt
  have hj : w.ρ[j]? = some (some (.scr us)) := by
    unfold scrOf at e1
    split at e1
    · cases e1; assumption
    · cases e1
  obtain ⟨a, ns, e2, rfl, e3, e4⟩ := s.scr j us hj
  refine ⟨_, e2, ?_⟩
  have k2 := k1 H s.refl
  rw [hk] at k2
  obtain ⟨u, e5, k3⟩ := Out.opt k2
  refine ⟨w.blk, a, ns, u, rfl, s.liveB, ?_, e5, fun H' t sm r nw => ?_⟩
  · rcases e3 with (e3 | ⟨o, e3⟩) | e3
    · exact .inl (.inl (s.up0 e3 (e4 _ e3)))
    · exact .inl (.inr ⟨o, s.up0 e3 (e4 _ e3)⟩)
    · exact .inr e3
  · exact k3 H' (s.same sm) t ⟨r, fun us e => nw rfl us e⟩

/-! ### built-ins -/
theorem pe_lscr (g : Gd X c Γ W) {y : Str} {j : Nat} {p q pos : Pos} (hG : Gl X "list") (hy : slot c y = some j) : PE X (.Call (.Name "list" p) [.Name y q] [] pos) (Cx.tE X W Γ (.lscr j)) := by
  obtain ⟨h1, h2, h3, h4⟩ := g.slot hy
  refine PE.imp (pe_callTy call_list_of hG (blt_none g (mem_blts _ (by decide +kernel))) PyProof.Rows.boot_list (pa_cons (pe_var h1 h2 h3 h4) pa_nil (star_name _ _ [] X.env)) (by decide) (by decide) (star_name _ _ [] X.env) (star_any (fun _ z => nomatch z))) fun σ H Q ⟨w, s, h⟩ => ?_
  simp only [ev] at h
  obtain ⟨us, e1, k1⟩ := h.bnd.opt
  have hj : w.ρ[j]? = some (some (.scr us)) := by
    unfold scrOf at e1
    split at e1
    · cases e1; assumption
    · cases e1
  obtain ⟨a, ns, e2, rfl, e3, e4⟩ := s.scr j us hj
  show ∃ v, σ[j]? = some (some v) ∧ ∃ (p : Addr) (ys : List V), [v] = [V.ref p] ∧ (SqL X.K H p ys ∨ SqT X.K H p ys) ∧ ∀ (l : Addr), H l = none → Q (V.ref l) (upd H l (HO.lst ys))
  refine ⟨_, e2, a, ns.map V.int, rfl, .inl ?_, ?_⟩
  · rcases e3 with (e3 | ⟨o, e3⟩) | e3
    · exact .inl (.inl (s.up0 e3 (e4 _ e3)))
    · exact .inl (.inr ⟨o, s.up0 e3 (e4 _ e3)⟩)
    · exact .inr e3
  · exact (fin_ans (w := w) s s.refl (k1 H s.refl)).lst s.liveB (.ofNums ns)
theorem one_bi {f : Bi} {ea : E} (h : Cx.tE X W Γ (.b1 f ea) σ H Q) (hk : cl Γ (.b1 f ea) = .new) : tCB (rBi f) (tCons (Cx.tE X W Γ ea) tNil) σ H Q := by
  obtain ⟨w, s, h⟩ := h
  simp only [ev] at h
  refine one s h fun u c1 H1 x s1 n1 rx k1 => ?_
  obtain ⟨z, e, k2⟩ := k1.opt
  refine ⟨w.blk, w.ac, u, x, z, rfl, s1.liveB, rx.t, e, ?_⟩
  rw [hk] at k2
  exact Out.ans (w := w.at c1) (H0 := H) s1 (fun b o e => n1.there s b o e) fun H' n v r => k2 H' n v r
theorem pe_b1 (g : Gd X c Γ W) {x : Str} {f : Bi} {a : Expr} {ea : E} {p pos : Pos} (hG : Gl X x) (hb : bi1 x = some f) (ha : PE X a (Cx.tE X W Γ ea)) (hs : NoStar a) : PE X (.Call (.Name x p) [a] [] pos) (Cx.tE X W Γ (.b1 f ea)) := by
  have h1 := star_cons hs [] X.env
  have h2 : (backTo pos (starEach [] X.env)).any (·.1) = false := star_any (fun _ z => nomatch z)
  unfold bi1 at hb
  repeat' split at hb
  all_goals first | (cases hb; done) | skip
  all_goals rename_i hx
  all_goals subst hx
  all_goals cases hb
  all_goals have hm := fun (x : Str) (h : decide (x ∈ blts) = true) => blt_none g (mem_blts x h)
  · exact PE.imp (pe_callTy (call_bi g.calm .int) hG (hm _ (by decide +kernel)) PyProof.Rows.boot_int (pa_cons ha pa_nil h1) (by decide) (by decide) h1 h2) fun σ H Q h => one_bi h rfl
  · exact PE.imp (pe_callB (call_bi g.calm .len) hG (hm _ (by decide +kernel)) PySem.boot_len (pa_cons ha pa_nil h1) (by decide) (by decide) h1 h2) fun σ H Q h => one_bi h rfl
  · exact PE.imp (pe_callB (call_bi g.calm .abs) hG (hm _ (by decide +kernel)) (by decide +kernel) (pa_cons ha pa_nil h1) (by decide) (by decide) h1 h2) fun σ H Q h => one_bi h rfl
  · exact PE.imp (pe_callB (call_bi g.calm .sum) hG (hm _ (by decide +kernel)) (by decide +kernel) (pa_cons ha pa_nil h1) (by decide) (by decide) h1 h2) fun σ H Q h => one_bi h rfl
  · exact PE.imp (pe_callB (call_bi g.calm .max) hG (hm _ (by decide +kernel)) (by decide +kernel) (pa_cons ha pa_nil h1) (by decide) (by decide) h1 h2) fun σ H Q h => one_bi h rfl
  · exact PE.imp (pe_callB (call_bi g.calm .min) hG (hm _ (by decide +kernel)) (by decide +kernel) (pa_cons ha pa_nil h1) (by decide) (by decide) h1 h2) fun σ H Q h => one_bi h rfl
  · exact PE.imp (pe_callB (call_bi g.calm .all) hG (hm _ (by decide +kernel)) (by decide +kernel) (pa_cons ha pa_nil h1) (by decide) (by decide) h1 h2) fun σ H Q h => one_bi h rfl
  · exact PE.imp (pe_callTy (call_bi g.calm .list) hG (hm _ (by decide +kernel)) PyProof.Rows.boot_list (pa_cons ha pa_nil h1) (by decide) (by decide) h1 h2) fun σ H Q h => one_bi h rfl
  · exact PE.imp (pe_callTy (call_bi g.calm .tuple) hG (hm _ (by decide +kernel)) PyProof.Rows.boot_tuple (pa_cons ha pa_nil h1) (by decide) (by decide) h1 h2) fun σ H Q h => one_bi h rfl
  · exact PE.imp (pe_callB (call_bi g.calm .sorted) hG (hm _ (by decide +kernel)) (by decide +kernel) (pa_cons ha pa_nil h1) (by decide) (by decide) h1 h2) fun σ H Q h => one_bi h rfl
theorem pe_max2' (g : Gd X c Γ W) {a b : Expr} {ea eb : E} {p pos : Pos} (hG : Gl X "max") (ha : PE X a (Cx.tE X W Γ ea)) (hb : PE X b (Cx.tE X W Γ eb)) (hsa : NoStar a) (hsb : NoStar b) : PE X (.Call (.Name "max" p) [a, b] [] pos) (Cx.tE X W Γ (.max2 ea eb)) := by
  have h1 := star_cons hsa [b] X.env
  have h3 := star_cons hsb [] X.env
  refine PE.imp (pe_callB (call_max2 g.calm) hG (blt_none g (mem_blts _ (by decide +kernel))) (by decide +kernel) (pa_cons ha (pa_cons hb pa_nil h3) h1) (by decide) (by decide) h1 (star_any fun e he => by rw [List.mem_singleton.mp he]; exact hsb)) fun σ H Q ⟨w, s, h⟩ => ?_
  simp only [ev] at h
  refine two s h fun u v c2 H2 x y s2 n2 rx ry k2 => ?_
  cases u with
  | int i => cases v with
    | int j =>
      cases rx.t.int; cases ry.t.int
      exact ⟨i, j, rfl, fin_flat (z := .int _) rfl s2 k2⟩
    | _ => exact k2.elim
  | _ => exact k2.elim
theorem pe_min2' (g : Gd X c Γ W) {a b : Expr} {ea eb : E} {p pos : Pos} (hG : Gl X "min") (ha : PE X a (Cx.tE X W Γ ea)) (hb : PE X b (Cx.tE X W Γ eb)) (hsa : NoStar a) (hsb : NoStar b) : PE X (.Call (.Name "min" p) [a, b] [] pos) (Cx.tE X W Γ (.min2 ea eb)) := by
  have h1 := star_cons hsa [b] X.env
  have h3 := star_cons hsb [] X.env
  refine PE.imp (pe_callB (call_min2 g.calm) hG (blt_none g (mem_blts _ (by decide +kernel))) (by decide +kernel) (pa_cons ha (pa_cons hb pa_nil h3) h1) (by decide) (by decide) h1 (star_any fun e he => by rw [List.mem_singleton.mp he]; exact hsb)) fun σ H Q ⟨w, s, h⟩ => ?_
  simp only [ev] at h
  refine two s h fun u v c2 H2 x y s2 n2 rx ry k2 => ?_
  cases u with
  | int i => cases v with
    | int j =>
      cases rx.t.int; cases ry.t.int
      exact ⟨i, j, rfl, fin_flat (z := .int _) rfl s2 k2⟩
    | _ => exact k2.elim
  | _ => exact k2.elim

/-! ### isinstance -/
def tyS : Ty → String
  | .int => "int"
  | .bool => "bool"
  | .tuple => "tuple"
  | .list => "list"
  | .str => "str"
def tyU : U → String
  | .non => "NoneType"
  | .bl _ => "bool"
  | .int _ => "int"
  | .str _ => "str"
  | .tup _ => "tuple"
  | .lst _ => "list"
theorem kit_ok (u : U) (t : Ty) : kitB (tyU u) (tyS t) = some (isTy t u) := by
  have h : ∀ t : Ty, kitB "NoneType" (tyS t) = some (isTy t .non) ∧ kitB "bool" (tyS t) = some (isTy t (.bl true)) ∧ kitB "int" (tyS t) = some (isTy t (.int 0)) ∧ kitB "str" (tyS t) = some (isTy t (.str ⟨#[]⟩)) ∧ kitB "tuple" (tyS t) = some (isTy t (.tup [])) ∧ kitB "list" (tyS t) = some (isTy t (.lst [])) := by
    intro t
    cases t <;> decide +kernel
  obtain ⟨h1, h2, h3, h4, h5, h6⟩ := h t
  cases u with
  | non => exact h1
  | bl b => exact h2.trans (by cases t <;> rfl)
  | int i => exact h3.trans (by cases t <;> rfl)
  | str s => exact h4.trans (by cases t <;> rfl)
  | tup us => exact h5.trans (by cases t <;> rfl)
  | lst us => exact h6.trans (by cases t <;> rfl)
theorem RepT.tyx {ac : Option Addr} {B : Addr → Prop} {H : Hp} {K : PySem.W.Frag} {u : U} {v : V} (r : RepT ac B H u v) : TyX K H v (.type (tyU u)) := by
  rcases r with r | ⟨a, us, vs, rfl, rfl, _, h, _⟩
  · cases r with
    | non => exact .base .non
    | bl b => exact .base (.bl b)
    | int i => exact .base (.int i)
    | str s => exact .base (.str s)
    | tup h _ => exact .base (.tup h)
    | lst h _ _ => exact .base (.lst h)
  · exact .base (.lst h)
theorem pe_ty (g : Gd X c Γ W) {x : Str} {t : Ty} {p : Pos} (hG : Gl X x) (ht : ty? x = some t) : PE X (.Name x p) (tC (.ty (tyS t))) := by
  unfold ty? at ht
  repeat' split at ht
  all_goals first | (cases ht; done) | skip
  all_goals rename_i hx
  all_goals subst hx
  all_goals cases ht
  · exact pe_bltn hG (blt_none g (mem_blts _ (by decide +kernel))) PyProof.Rows.boot_int rfl (by decide) (by decide)
  · exact pe_bltn hG (blt_none g (mem_blts _ (by decide +kernel))) PyProof.Rows.boot_bool rfl (by decide) (by decide)
  · exact pe_bltn hG (blt_none g (mem_blts _ (by decide +kernel))) PyProof.Rows.boot_tuple rfl (by decide) (by decide)
  · exact pe_bltn hG (blt_none g (mem_blts _ (by decide +kernel))) PyProof.Rows.boot_list rfl (by decide) (by decide)
  · exact pe_bltn hG (blt_none g (mem_blts _ (by decide +kernel))) PyProof.Rows.boot_str rfl (by decide) (by decide)
theorem pe_isi' (g : Gd X c Γ W) {a : Expr} {y : Str} {ea : E} {t : Ty} {p q pos : Pos} (hG : Gl X "isinstance") (hy : Gl X y) (ht : ty? y = some t) (ha : PE X a (Cx.tE X W Γ ea)) (hsa : NoStar a) : PE X (.Call (.Name "isinstance" p) [a, .Name y q] [] pos) (Cx.tE X W Γ (.isi ea t)) := by
  have h1 := star_cons hsa [.Name y q] X.env
  have h3 := star_cons (e := .Name y q) trivial [] X.env
  refine PE.imp (pe_callB call_isi hG (blt_none g (mem_blts _ (by decide +kernel))) PyProof.Rows.boot_isinstance (pa_cons ha (pa_cons (pe_ty g hy ht) pa_nil h3) h1) (by decide) (by decide) h1 (star_any fun e he => by rw [List.mem_singleton.mp he]; trivial)) fun σ H Q ⟨w, s, h⟩ => ?_
  simp only [ev] at h
  refine one s h fun u c1 H1 x s1 n1 rx k1 => ?_
  exact ⟨x, .ty (tyS t), .type (tyU u), .type (tyS t), isTy t u, rfl, .ty _, rx.t.tyx, kit_ty (kit_ok u t), fin_flat (z := .bl _) rfl s1 k1⟩

/-! ### items, slices -/
theorem ix_eq (n : Nat) (i : Int) : ix n i = ixN n i := rfl
theorem at_some {us : List U} {i : Int} {u : U} {B : Addr → Prop} {H : Hp} {vs : List V} (r : Reps B H us vs) (h : at? us i = some u) : ∃ v, atI vs i = some v ∧ Rep B H u v := by
  unfold at? at h
  rw [Option.bind_eq_some_iff] at h
  obtain ⟨j, h1, h2⟩ := h
  obtain ⟨v, h3, h4⟩ := r.get h2
  refine ⟨v, ?_, h4⟩
  unfold atI
  rw [← r.length, ← ix_eq, h1]
  exact h3
def rSub : R2 := fun x y H Q => ∃ B ac u i z, RepT ac B H u x ∧ y = .int i ∧ subs u (.int i) = some z ∧ ∀ t, Rep B H z t → Q t H
theorem ix_sub : IxR X rSub := by
  intro value slice pins s σ H x y v u Q I rx ry h hs
  obtain ⟨B, ac, a, i, z, ra, rfl, hz, q⟩ := h
  cases a with
  | tup us =>
    obtain ⟨p, vs, rfl, e1, r1⟩ := ra.tup
    obtain ⟨t, h3, h4⟩ := at_some r1 hz
    exact ix_tup value slice pins s σ H _ _ v u Q I rx ry ⟨p, vs, i, t, rfl, rfl, SqT.of e1, h3, q t h4⟩ hs
  | lst us =>
    obtain ⟨p, vs, rfl, e1, r1⟩ := ra.lst
    obtain ⟨t, h3, h4⟩ := at_some r1 hz
    exact ix_list value slice pins s σ H _ _ v u Q I rx ry ⟨p, vs, i, t, rfl, rfl, SqL.of e1, h3, q t h4⟩ hs
  | _ => cases hz
theorem int_of {u : U} {a : U} {z : U} (h : subs a u = some z) : ∃ i, u = .int i := by
  cases a <;> cases u <;> first | exact ⟨_, rfl⟩ | cases h
theorem pe_sub' {a i : Expr} {ea ei : E} {pos : Pos} (ha : PE X a (Cx.tE X W Γ ea)) (hi : PE X i (Cx.tE X W Γ ei)) (hp : PlainIx i) (hn : ∀ ρ, isCupE ea ρ = false) : PE X (.Subscript a i pos) (Cx.tE X W Γ (.sub ea ei)) := by
  refine PE.imp (pe_ix ix_sub ha hi hp) fun σ H Q ⟨w, s, h⟩ => ?_
  simp only [ev, hn] at h
  refine two s h fun u v c2 H2 x y s2 n2 rx ry k2 => ?_
  obtain ⟨z, e, k3⟩ := k2.opt
  obtain ⟨i, rfl⟩ := int_of e
  exact ⟨w.blk, w.ac, u, i, z, rx.t, ry.t.int, e, fun t r => k3 H2 s2.refl t r⟩
theorem pe_subV (g : Gd X c Γ W) {y : Str} {j : Nat} {i : Expr} {ei : E} {p pos : Pos} (hy : slot c y = some j) (hi : PE X i (Cx.tE X W Γ ei)) (hp : PlainIx i) : PE X (.Subscript (.Name y p) i pos) (Cx.tE X W Γ (.sub (.var j) ei)) := by
  obtain ⟨h1, h2, h3, h4⟩ := g.slot hy
  refine PE.imp (pe_ix ix_sub (pe_var h1 h2 h3 h4) hi hp) fun σ H Q ⟨w, s, h⟩ => ?_
  simp only [ev, isCupE] at h
  by_cases hc : isCup w.ρ j = true
  · rw [hc] at h
    have hj : w.ρ[j]? = some (some .cup) := by
      unfold isCup at hc
      split at hc
      · assumption
      · cases hc
    obtain ⟨a, e1, e2⟩ := s.cupS j hj
    refine ⟨_, e2, one s h fun v c1 H1 y s1 n1 ry k1 => ?_⟩
    obtain ⟨cv, g1, g2, g3⟩ := s1.cup a e1
    have g1' : c1 = some cv := g1
    subst g1'
    cases v with
    | int k =>
      cases e : at? cv k with
      | none => simp only [e] at k1; exact k1.elim
      | some u =>
        simp only [e] at k1
        by_cases hf : flat u = true
        · rw [if_pos hf] at k1
          refine ⟨fun _ => False, none, .lst cv, k, u, .inl (.lst g3 (fun z => z) (.ofFlat g2)), ry.t.int, e, fun t r => ?_⟩
          rw [r.flat hf]
          exact k1 H1 s1.refl _ (.ofFlat hf)
        · rw [if_neg hf] at k1; exact k1.elim
    | _ => exact k1.elim
  · have hc' : isCup w.ρ j = false := by
      cases e : isCup w.ρ j with
      | true => exact absurd e hc
      | false => rfl
    rw [hc'] at h
    obtain ⟨u, e1, k1⟩ := h.bnd.opt
    obtain ⟨v, e2, rv⟩ := s.look e1
    refine ⟨v, e2, one s (k1 H s.refl) fun v' c1 H1 y s1 n1 ry k2 => ?_⟩
    obtain ⟨z, e, k3⟩ := k2.opt
    obtain ⟨i, rfl⟩ := int_of e
    exact ⟨w.blk, w.ac, u, i, z, RepT.mono rv s n1, ry.t.int, e, fun t r => k3 H1 s1.refl t r⟩
theorem sx_eq (n d : Nat) (o : Option Int) : HT.sIx n d o = sx n d o := by cases o <;> rfl
theorem Reps.cut {B : Addr → Prop} {H : Hp} {us : List U} {vs : List V} (r : Reps B H us vs) (lo hi : Option Int) : Reps B H (Mi.cut us lo hi) (cutV vs lo hi) := by
  unfold Mi.cut cutV
  simp only [sx_eq]
  rw [r.length]
  exact (r.drop _).take _
def rSlc : V → Option Int → Option Int → Hp → VK → Prop := fun x lo hi H Q => ∃ B ac u z, Live B H ∧ RepT ac B H u x ∧ slcs u lo hi = some z ∧ Ans B H z Q
theorem cut_all {us : List U} {lo hi : Option Int} (h : sx us.length 0 lo = 0 ∧ sx us.length us.length hi = us.length) : Mi.cut us lo hi = us := by
  unfold Mi.cut
  rw [h.1, h.2]
  simp
theorem sl_slc : SlR X rSlc := by
  intro pins s σ H x v vl vu lo hi sl Q I rx hs pl pu h
  obtain ⟨B, ac, u, z, lv, ru, hz, q⟩ := h
  cases u with
  | tup us =>
    cases hz
    obtain ⟨p, vs, rfl, e1, r1⟩ := ru.tup
    refine sl_tupA pins s σ H _ v vl vu lo hi sl Q I rx hs pl pu ⟨p, vs, rfl, SqT.of e1, fun hw => ?_, fun _ => q.tup (r1.cut lo hi)⟩
    simp only [sx_eq, ← r1.length] at hw
    rw [cut_all hw] at q
    exact q.rep (.tup e1 r1) rfl
  | lst us =>
    cases hz
    obtain ⟨p, vs, rfl, e1, r1⟩ := ru.lst
    exact sl_list pins s σ H _ v vl vu lo hi sl Q I rx hs pl pu ⟨p, vs, rfl, SqL.of e1, q.lst lv (r1.cut lo hi)⟩
  | _ => cases hz
end
end Mi

/-! M9.lean -/
namespace Mi
open PySem PySem.Spec PyProof.Rows L2
section
variable {X : Cx} {c : CE} {Γ : Gm} {W : XK} {σ : L2.St} {H : Hp} {Q : VK}
/-! ### slices -/
def tOpt (K : PySem.W.Frag) (mg : Str → Option Value) (W : XK) (Γ : Gm) (b : Bool) (e : E) : TO := fun σ H Q => ∃ w, SR K w σ H ∧ Out mg W w H (bnd (if b = true then ev Γ e w.ρ else ret .non) (fun x => opt (part b x)) w.cs) fun p c H' => Q p H'
theorem PO.imp {e : Option Expr} {t t' : TO} (h : PO X e t) (i : ∀ σ H Q, t' σ H Q → t σ H Q) : PO X e t' := ⟨fun pins s σ H Q I hw => h.run pins s σ H Q I (i σ H Q hw)⟩
theorem po_non : PO X none (tOpt X.K X.mg W Γ false .nil) := PO.imp po_none fun σ H Q ⟨w, s, o⟩ => by
  rw [if_neg Bool.false_ne_true] at o
  exact o H s.refl
theorem po_som {a : Expr} {ea : E} (ha : PE X a (Cx.tE X W Γ ea)) : PO X (some a) (tOpt X.K X.mg W Γ true ea) := PO.imp (po_some ha) fun σ H Q ⟨w, s, o⟩ => by
  rw [if_pos rfl] at o
  refine one s o fun u c1 H1 x s1 n1 rx k1 => ?_
  obtain ⟨p, e, k2⟩ := k1.opt
  cases u with
  | int i => cases e; exact ⟨i, rx.t.int, k2 H1 s1.refl⟩
  | _ => cases e
theorem pe_slc' {a : Expr} {lo hi : Option Expr} {ea el eh : E} {l h : Bool} {pos p2 : Pos} (ha : PE X a (Cx.tE X W Γ ea)) (hl : PO X lo (tOpt X.K X.mg W Γ l el)) (hh : PO X hi (tOpt X.K X.mg W Γ h eh)) : PE X (.Subscript a (.Slice lo hi none p2) pos) (Cx.tE X W Γ (.slc l h ea el eh)) := by
  refine PE.imp (pe_slice sl_slc ha hl hh) fun σ H Q ⟨w, s, o⟩ => ?_
  simp only [ev] at o
  refine one s o fun u c1 H1 x s1 n1 rx k1 => ?_
  refine ⟨w.at c1, s1, (Out.bnd (w := w.at c1) k1).imp fun p c2 H2 n2 k2 => ?_⟩
  have s2 := Nx.sr (w := w.at c1) n2 s1
  refine ⟨w.at c2, s2, (Out.bnd (w := w.at c2) k2).imp fun q c3 H3 n3 k3 => ?_⟩
  have s3 := Nx.sr (w := w.at c2) n3 s2
  obtain ⟨z, e, k4⟩ := Out.opt k3
  have n23 : Nx (w.at c1) H1 c3 H3 := Nx.trans (w := w.at c1) n2 n3
  exact ⟨w.blk, w.ac, u, z, s3.liveB, RepT.mono (w := w.at c1) rx.t s1 n23, e, Out.ans (w := w.at c3) (H0 := H) s3 (fun b o e => (n1.trans n23).there s b o e) fun H' n v r => k4 H' n v r⟩
theorem pe_rev' {a : Expr} {ea : E} {k : Nat} {p1 p2 p3 pos : Pos} (ha : PE X a (Cx.tE X W Γ ea)) : PE X (.Subscript a (.Slice none none (some (.UnaryOp .USub (.Constant (.int 1) k p1) p2)) p3) pos) (Cx.tE X W Γ (.rev ea)) := by
  refine PE.imp (pe_revL ha) fun σ H Q ⟨w, s, o⟩ => ?_
  simp only [ev] at o
  refine one s o fun u c1 H1 x s1 n1 rx k1 => ?_
  obtain ⟨z, e, k2⟩ := k1.opt
  cases u with
  | lst us =>
    cases e
    obtain ⟨p, vs, rfl, e1, r1⟩ := rx.t.lst
    exact ⟨p, vs, rfl, SqL.of e1, (Out.ans (w := w.at c1) (H0 := H) s1 (fun b o e => n1.there s b o e) fun H' n v r => k2 H' n v r).lst s1.liveB r1.rev⟩
  | _ => cases e

/-! ### what a for walks -/
/-- J walks the items us, wherever what is stable stands as in H1 -/
def Wk (S : Addr → Prop) (H1 : Hp) (B : Addr → Prop) (J : It) (us : List U) : Prop := ∀ H, (∀ b o, S b → H1 b = some o → H b = some o) → ∀ i,
  (i < us.length → J.go i H) ∧ (us.length ≤ i → J.stop i H) ∧
  ∀ x H', J.yld i H x H' → i < us.length → ∃ u, us[i]? = some u ∧ (∀ b o, H b = some o → H' b = some o) ∧ ∀ B', Kp B B' H1 H' → Rep B' H' u x
/-- what stays: in a comprehension all but the cup, in a loop no list of a name's own -/
def stb (m : Bool) (w : Wd) (b : Addr) : Prop := w.ac ≠ some b ∧ (m = false → ∀ (i : Nat) us, w.ρ[i]? = some (some (.own us)) → w.β i ≠ b)
def tI (K : PySem.W.Frag) (mg : Str → Option Value) (W : XK) (Γ : Gm) (m : Bool) (e : E) : TI := fun σ H R => ∃ w, SR K w σ H ∧ Out mg W w H (evi Γ e w.ρ w.cs) fun us c H1 => ∀ J, Wk (stb m w) H1 w.blk J us → R J H1
theorem PI.imp {tg e : Expr} {t t' : TI} (h : PI X tg e t) (i : ∀ σ H Q, t' σ H Q → t σ H Q) : PI X tg e t' := ⟨fun pins s σ H Q I hw => h.run pins s σ H Q I (i σ H Q hw)⟩
def iSeq (K : PySem.W.Frag) (tl : TE) : TI := fun σ H R => tl σ H fun x H1 => ∃ a, x = .ref a ∧ (((∃ xs, SqL K H1 a xs) ∧ R (Itl K a) H1) ∨ ((∃ xs, SqT K H1 a xs) ∧ R (Itt K a) H1))
theorem pi_seq {tg l : Expr} {tl : TE} (hl : PE X l tl) : PI X tg l (iSeq X.K tl) := by
  refine ⟨fun pins s σ H R I h => ?_⟩
  refine thn (hl.run pins s σ H _ I h) fun v s1 ⟨x, H1, I1, r1, q1⟩ => ?_
  obtain ⟨a, e, q⟩ := q1
  subst e
  cases r1
  rcases q with ⟨⟨xs, hq⟩, q⟩ | ⟨⟨xs, hq⟩, q⟩
  · obtain ⟨its, rv, p, hz⟩ := I1.list hq
    refine wpAny_pyIter_list p.isList ?_
    refine ⟨s1.heap.objs.size, [s1.heap.objs.size], _, _, H1, rfl, I1.kept (t' := s1.toks) fun b o e => Heap.get?_push_of_some _ e, turn_list a _, ⟨_, Heap.get?_push_size _ rfl, rfl, rfl⟩, fun b hb => ?_, q⟩
    have e : b = s1.heap.objs.size := by simpa using hb
    subst e
    exact I1.fpOk (Nat.le_refl _) (I1.hok.fresh (Nat.le_refl _))
  · obtain ⟨its, rv, p, hz⟩ := I1.tuple hq
    refine wpAny_pyIter_tuple (show s1.heap.IsTuple a its.toArray from p) ?_
    refine ⟨s1.heap.objs.size, [s1.heap.objs.size], _, _, H1, rfl, I1.kept (t' := s1.toks) fun b o e => Heap.get?_push_of_some _ e, turn_tuple a _, ⟨_, Heap.get?_push_size _ rfl, rfl, rfl⟩, fun b hb => ?_, q⟩
    have e : b = s1.heap.objs.size := by simpa using hb
    subst e
    exact I1.fpOk (Nat.le_refl _) (I1.hok.fresh (Nat.le_refl _))
theorem RV.seqL {K : PySem.W.Frag} {k : Cl} {w : Wd} {H0 H1 : Hp} {us : List U} {v : V} {m : Bool} (r : RV k w H0 H1 (.lst us) v) (hm : m = true ∨ k.walk = true) : ∃ a vs, v = .ref a ∧ H1 a = some (.lst vs) ∧ Reps w.blk H1 us vs ∧ stb m w a := by
  have ofRep : Rep w.blk H1 (.lst us) v → ∃ a vs, v = .ref a ∧ H1 a = some (.lst vs) ∧ Reps w.blk H1 us vs ∧ stb m w a := fun r => by
    cases r with
    | lst h n t => exact ⟨_, _, rfl, h, t, fun z => n (.inr (.inl z)), fun _ i us' e z => n (.inr (.inr ⟨i, us', e, z.symm⟩))⟩
  cases k with
  | tr =>
    rcases r with r | ⟨a, us', vs, e1, e2, e3, e4, e5⟩
    · exact ofRep r
    · cases e1
      refine ⟨a, vs, e2, e4, e5, e3, fun z => ?_⟩
      rcases hm with hm | hm
      · rw [z] at hm; cases hm
      · cases hm
  | lv =>
    rcases r with r | ⟨a, us', vs, e1, e2, e3, e4, e5, e6⟩
    · exact ofRep r
    · cases e1
      exact ⟨a, vs, e2, e4, e5, e3, fun _ => e6⟩
  | any => exact ofRep r
  | new => exact ofRep r.1
theorem stb_tup {K : PySem.W.Frag} {w : Wd} {c : Cs} {m : Bool} {a : Addr} {vs : List V} (s : SR K (w.at c) σ H) (h : H a = some (.tup vs)) : stb m w a := by
  refine ⟨fun z => ?_, fun _ i us e z => ?_⟩
  · obtain ⟨cv, _, _, e2⟩ := s.cup a z
    rw [h] at e2; cases e2
  · obtain ⟨_, _, _, vs', e2, _⟩ := s.own i us e
    have e3 : H (w.β i) = some (.lst vs') := e2
    rw [z, h] at e3; cases e3
theorem Kp.tupE {B B' : Addr → Prop} {H H' : Hp} {us : List U} {vs : List V} (k : Kp B B' H H') (r : Reps B H us vs) : Reps B' H' us vs := r.mono k
theorem wk_list {K : PySem.W.Frag} {S B : Addr → Prop} {H1 : Hp} {a : Addr} {us : List U} {vs : List V} (h : H1 a = some (.lst vs)) (hs : S a) (r : Reps B H1 us vs) : Wk S H1 B (Itl K a) us := by
  intro H hk i
  have e := hk a _ hs h
  refine ⟨fun hi => ?_, fun hi => ⟨vs, SqL.of e, by rw [← r.length]; exact hi⟩, fun x H' y hi => ?_⟩
  · obtain ⟨v, h1, _⟩ := r.get (List.getElem?_eq_getElem hi)
    exact ⟨vs, v, SqL.of e, h1⟩
  · obtain ⟨rfl, y⟩ := y
    obtain ⟨v, h1, h2⟩ := r.get (List.getElem?_eq_getElem hi)
    have hx := y vs (SqL.of e)
    rw [h1] at hx
    cases hx
    exact ⟨_, List.getElem?_eq_getElem hi, fun _ _ e => e, fun B' k => h2.mono k⟩
theorem wk_tup {K : PySem.W.Frag} {S B : Addr → Prop} {H1 : Hp} {a : Addr} {us : List U} {vs : List V} (h : H1 a = some (.tup vs)) (hs : S a) (r : Reps B H1 us vs) : Wk S H1 B (Itt K a) us := by
  intro H hk i
  have e := hk a _ hs h
  refine ⟨fun hi => ?_, fun hi => ⟨vs, SqT.of e, by rw [← r.length]; exact hi⟩, fun x H' y hi => ?_⟩
  · obtain ⟨v, h1, _⟩ := r.get (List.getElem?_eq_getElem hi)
    exact ⟨vs, v, SqT.of e, h1⟩
  · obtain ⟨rfl, y⟩ := y
    obtain ⟨v, h1, h2⟩ := r.get (List.getElem?_eq_getElem hi)
    have hx := y vs (SqT.of e)
    rw [h1] at hx
    cases hx
    exact ⟨_, List.getElem?_eq_getElem hi, fun _ _ e => e, fun B' k => h2.mono k⟩
theorem pi_iseq {m : Bool} {tg a : Expr} {ea : E} (ha : PE X a (Cx.tE X W Γ ea)) (hm : m = true ∨ (cl Γ ea).walk = true) : PI X tg a (tI X.K X.mg W Γ m (.iseq ea)) := by
  refine PI.imp (pi_seq ha) fun σ H R ⟨w, s, o⟩ => ?_
  simp only [evi] at o
  refine one s o fun u c1 H1 x s1 n1 rx k1 => ?_
  obtain ⟨us, e, k2⟩ := k1.opt
  cases u with
  | lst us' =>
    cases e
    obtain ⟨a, vs, rfl, e1, r1, st⟩ := RV.seqL (K := X.K) rx hm
    exact ⟨a, rfl, .inl ⟨⟨vs, SqL.of e1⟩, k2 H1 s1.refl _ (wk_list e1 st r1)⟩⟩
  | tup us' =>
    cases e
    obtain ⟨a, vs, rfl, e1, r1⟩ := rx.t.tup
    exact ⟨a, rfl, .inr ⟨⟨vs, SqT.of e1⟩, k2 H1 s1.refl _ (wk_tup e1 (stb_tup s1 e1) r1)⟩⟩
  | _ => cases e
theorem upTo_get {lo : Int} {n i : Nat} (h : i < n) : (upTo lo n)[i]? = some (.int (lo + i)) := by
  unfold upTo
  rw [List.getElem?_map, List.getElem?_range h]
  rfl
theorem wk_rng {S B : Addr → Prop} {H1 : Hp} {lo : Int} {n : Nat} : Wk S H1 B (Itr lo n) (upTo lo n) := by
  intro H hk i
  have hl : (upTo lo n).length = n := by simp [upTo]
  refine ⟨fun hi => ?_, fun hi => ?_, fun x H' y hi => ?_⟩
  · show i < n
    omega
  · show n ≤ i
    omega
  · obtain ⟨rfl, rfl⟩ := y
    exact ⟨_, upTo_get (by omega), fun _ _ e => e, fun B' k => .int _⟩
theorem in62_ok {i : Int} (h : in62 i = true) : -(2 ^ 62) ≤ i ∧ i < 2 ^ 62 := by
  have := of_decide_eq_true h
  omega
theorem pi_rng1' (g : Gd X c Γ W) {m : Bool} {tg a : Expr} {ea : E} {p pos : Pos} (hG : Gl X "range") (ha : PE X a (Cx.tE X W Γ ea)) (hs : NoStar a) : PI X tg (.Call (.Name "range" p) [a] [] pos) (tI X.K X.mg W Γ m (.rng1 ea)) := by
  have h1 := star_cons hs [] X.env
  refine PI.imp (pi_range1 hG (blt_none g (mem_blts _ (by decide +kernel))) (pa_cons ha pa_nil h1) h1) fun σ H R ⟨w, s, o⟩ => ?_
  simp only [evi] at o
  refine one s o fun u c1 H1 x s1 n1 rx k1 => ?_
  obtain ⟨us, e, k2⟩ := k1.opt
  cases u with
  | int j =>
    simp only [rng] at e
    split at e
    · rename_i hb
      cases e
      rw [Bool.and_eq_true] at hb
      cases rx.t.int
      refine ⟨j, rfl, (in62_ok hb.2).1, (in62_ok hb.2).2, ?_⟩
      have k3 := k2 H1 s1.refl (Itr 0 (j - 0).toNat) wk_rng
      rwa [Int.sub_zero] at k3
    · cases e
  | _ => cases e
theorem pi_rng2' (g : Gd X c Γ W) {m : Bool} {tg a b : Expr} {ea eb : E} {p pos : Pos} (hG : Gl X "range") (ha : PE X a (Cx.tE X W Γ ea)) (hb : PE X b (Cx.tE X W Γ eb)) (hsa : NoStar a) (hsb : NoStar b) : PI X tg (.Call (.Name "range" p) [a, b] [] pos) (tI X.K X.mg W Γ m (.rng2 ea eb)) := by
  have h1 := star_cons hsa [b] X.env
  have h2 := star_cons hsb [] X.env
  refine PI.imp (pi_range2 hG (blt_none g (mem_blts _ (by decide +kernel))) (pa_cons ha (pa_cons hb pa_nil h2) h1) (by rw [h1, h2]; rfl) h2) fun σ H R ⟨w, s, o⟩ => ?_
  simp only [evi] at o
  refine two s o fun u v c1 H1 x y s1 n1 rx ry k1 => ?_
  obtain ⟨us, e, k2⟩ := k1.opt
  cases u with
  | int i => cases v with
    | int j =>
      simp only [rng] at e
      split at e
      · rename_i hb
        cases e
        rw [Bool.and_eq_true] at hb
        cases rx.t.int; cases ry.t.int
        exact ⟨i, j, rfl, ⟨(in62_ok hb.1).1, (in62_ok hb.1).2, (in62_ok hb.2).1, (in62_ok hb.2).2⟩, k2 H1 s1.refl _ wk_rng⟩
      · cases e
    | _ => cases e
  | _ => cases e
theorem upBy_get {lo c : Int} {n i : Nat} (h : i < n) : (upBy lo c n)[i]? = some (.int (lo + i * c)) := by
  unfold upBy
  rw [List.getElem?_map, List.getElem?_range h]
  rfl
theorem wk_rngC {S B : Addr → Prop} {H1 : Hp} {lo c : Int} {n : Nat} : Wk S H1 B (Itc lo c n) (upBy lo c n) := by
  intro H hk i
  have hl : (upBy lo c n).length = n := by simp [upBy]
  refine ⟨fun hi => ?_, fun hi => ?_, fun x H' y hi => ?_⟩
  · show i < n
    omega
  · show n ≤ i
    omega
  · obtain ⟨rfl, rfl⟩ := y
    exact ⟨_, upBy_get (by omega), fun _ _ e => e, fun B' k => .int _⟩
theorem pi_rng3' (g : Gd X c Γ W) {m : Bool} {tg a b d : Expr} {ea eb ed : E} {p pos : Pos} (hG : Gl X "range") (ha : PE X a (Cx.tE X W Γ ea)) (hb : PE X b (Cx.tE X W Γ eb)) (hd : PE X d (Cx.tE X W Γ ed)) (hsa : NoStar a) (hsb : NoStar b) (hsd : NoStar d) :
    PI X tg (.Call (.Name "range" p) [a, b, d] [] pos) (tI X.K X.mg W Γ m (.rng3 ea eb ed)) := by
  have h1 := star_cons hsa [b, d] X.env
  have h2 := star_cons hsb [d] X.env
  have h3 := star_cons hsd [] X.env
  refine PI.imp (pi_range3 hG (blt_none g (mem_blts _ (by decide +kernel))) (pa_cons ha (pa_cons hb (pa_cons hd pa_nil h3) h2) h1) h1 (star_any fun e he => by
    rcases List.mem_cons.mp he with rfl | he
    · exact hsb
    · rw [List.mem_singleton.mp he]; exact hsd)) fun σ H R ⟨w, s, o⟩ => ?_
  simp only [evi] at o
  refine three s o fun u v z c1 H1 x y t s1 n1 rx ry rt k1 => ?_
  obtain ⟨us, e, k2⟩ := k1.opt
  cases u with
  | int i => cases v with
    | int j => cases z with
      | int k =>
        simp only [rngC] at e
        split at e
        · rename_i hb
          cases e
          simp only [Bool.and_eq_true, decide_eq_true_eq] at hb
          cases rx.t.int; cases ry.t.int; cases rt.t.int
          exact ⟨i, j, k, _, rfl, ⟨hb.1.1.1, hb.1.1.2, hb.1.2, hb.2⟩, k2 H1 s1.refl _ wk_rngC⟩
        · cases e
      | _ => cases e
    | _ => cases e
  | _ => cases e
/-- a pair laid by zip, enumerate -/
theorem rep_pair {B B' : Addr → Prop} {H1 H : Hp} {T : Addr} {u v : U} {x y : V} (ru : Rep B H1 u x) (rv : Rep B H1 v y) (k : Kp B B' H1 (upd H T (.tup [x, y]))) : Rep B' (upd H T (.tup [x, y])) (.tup [u, v]) (.ref T) :=
  .tup upd_same (.cons (ru.mono k) (.cons (rv.mono k) .nil))
theorem zip_get {us us' : List U} {i : Nat} (h : i < ((us.zip us').map fun p => U.tup [p.1, p.2]).length) : ∃ u v, us[i]? = some u ∧ us'[i]? = some v ∧ ((us.zip us').map fun p => U.tup [p.1, p.2])[i]? = some (.tup [u, v]) := by
  rw [List.length_map, List.length_zip] at h
  have h1 : i < us.length := by omega
  have h2 : i < us'.length := by omega
  refine ⟨us[i], us'[i], by simp [h1], by simp [h2], ?_⟩
  rw [List.getElem?_map, List.getElem?_eq_getElem (by rw [List.length_zip]; omega), List.getElem_zip]
  rfl
theorem wk_zip {K : PySem.W.Frag} {S B : Addr → Prop} {H1 : Hp} {a b : Addr} {us us' : List U} {vs vs' : List V} (h : H1 a = some (.lst vs)) (hs : S a) (r : Reps B H1 us vs) (h' : H1 b = some (.lst vs')) (hs' : S b) (r' : Reps B H1 us' vs') :
    Wk S H1 B (Itz K a b) ((us.zip us').map fun p => .tup [p.1, p.2]) := by
  intro H hk i
  have e := hk a _ hs h
  have e' := hk b _ hs' h'
  refine ⟨fun hi => ?_, fun hi => ?_, fun x H' y hi => ?_⟩
  · obtain ⟨u, v, g1, g2, g3⟩ := zip_get hi
    obtain ⟨x, h1, _⟩ := r.get g1
    obtain ⟨y, h2, _⟩ := r'.get g2
    exact ⟨vs, vs', x, y, SqL.of e, SqL.of e', h1, h2⟩
  · refine ⟨vs, vs', SqL.of e, SqL.of e', ?_⟩
    rw [List.length_map, List.length_zip] at hi
    rw [← r.length, ← r'.length]
    omega
  · obtain ⟨T, x', y', rfl, hT, rfl, q1, q2⟩ := y
    obtain ⟨u, v, g1, g2, g3⟩ := zip_get hi
    obtain ⟨x, h1, h2⟩ := r.get g1
    obtain ⟨y, h3, h4⟩ := r'.get g2
    have e1 := q1 vs (SqL.of e)
    have e2 := q2 vs' (SqL.of e')
    rw [h1] at e1; cases e1
    rw [h3] at e2; cases e2
    exact ⟨_, g3, fun b o e => by rw [upd_ne (ne_of_none e hT)]; exact e, fun B' k => rep_pair h2 h4 k⟩
theorem wk_zipT {K : PySem.W.Frag} {S B : Addr → Prop} {H1 : Hp} {a b : Addr} {us us' : List U} {vs vs' : List V} (h : H1 a = some (.tup vs)) (hs : S a) (r : Reps B H1 us vs) (h' : H1 b = some (.tup vs')) (hs' : S b) (r' : Reps B H1 us' vs') :
    Wk S H1 B (RZ.ItzT K a b) ((us.zip us').map fun p => .tup [p.1, p.2]) := by
  intro H hk i
  have e := hk a _ hs h
  have e' := hk b _ hs' h'
  refine ⟨fun hi => ?_, fun hi => ?_, fun x H' y hi => ?_⟩
  · obtain ⟨u, v, g1, g2, g3⟩ := zip_get hi
    obtain ⟨x, h1, _⟩ := r.get g1
    obtain ⟨y, h2, _⟩ := r'.get g2
    exact ⟨vs, vs', x, y, SqT.of e, SqT.of e', h1, h2⟩
  · refine ⟨vs, vs', SqT.of e, SqT.of e', ?_⟩
    rw [List.length_map, List.length_zip] at hi
    rw [← r.length, ← r'.length]
    omega
  · obtain ⟨T, x', y', rfl, hT, rfl, q1, q2⟩ := y
    obtain ⟨u, v, g1, g2, g3⟩ := zip_get hi
    obtain ⟨x, h1, h2⟩ := r.get g1
    obtain ⟨y, h3, h4⟩ := r'.get g2
    have e1 := q1 vs (SqT.of e)
    have e2 := q2 vs' (SqT.of e')
    rw [h1] at e1; cases e1
    rw [h3] at e2; cases e2
    exact ⟨_, g3, fun b o e => by rw [upd_ne (ne_of_none e hT)]; exact e, fun B' k => rep_pair h2 h4 k⟩
theorem pi_zip' (g : Gd X c Γ W) {m : Bool} {a b : Expr} {elts : List Expr} {kk : Nat} {ea eb : E} {p tpos pos : Pos} (hG : Gl X "zip") (ha : PE X a (Cx.tE X W Γ ea)) (hb : PE X b (Cx.tE X W Γ eb)) (hsa : NoStar a) (hsb : NoStar b)
    (hm : m = true ∨ ((cl Γ ea).walk = true ∧ (cl Γ eb).walk = true)) : PI X (.Tuple elts kk tpos) (.Call (.Name "zip" p) [a, b] [] pos) (tI X.K X.mg W Γ m (.zip ea eb)) := by
  have h1 := star_cons hsa [b] X.env
  have h2 := star_cons hsb [] X.env
  refine PI.imp (RZ.pi_zipA hG (blt_none g (mem_blts _ (by decide +kernel))) (pa_cons ha (pa_cons hb pa_nil h2) h1) h1 (star_any fun e he => by rw [List.mem_singleton.mp he]; exact hsb)) fun σ H R ⟨w, s, o⟩ => ?_
  simp only [evi] at o
  refine two s o fun u v c1 H1 x y s1 n1 rx ry k1 => ?_
  obtain ⟨us, e, k2⟩ := k1.opt
  cases u with
  | lst us1 => cases v with
    | lst us2 =>
      cases e
      obtain ⟨a, vs, rfl, e1, r1, st1⟩ := RV.seqL (K := X.K) (m := m) rx (hm.imp (fun z => z) (fun z => z.1))
      obtain ⟨b, vs', rfl, e2, r2, st2⟩ := RV.seqL (K := X.K) (m := m) ry (hm.imp (fun z => z) (fun z => z.2))
      exact ⟨a, b, vs, vs', rfl, .inl ⟨SqL.of e1, SqL.of e2, k2 H1 s1.refl _ (wk_zip e1 st1 r1 e2 st2 r2)⟩⟩
    | _ => cases e
  | tup us1 => cases v with
    | tup us2 =>
      cases e
      obtain ⟨a, vs, rfl, e1, r1⟩ := rx.t.tup
      obtain ⟨b, vs', rfl, e2, r2⟩ := ry.t.tup
      exact ⟨a, b, vs, vs', rfl, .inr ⟨SqT.of e1, SqT.of e2, k2 H1 s1.refl _ (wk_zipT e1 (stb_tup s1 e1) r1 e2 (stb_tup s1 e2) r2)⟩⟩
    | _ => cases e
  | _ => cases e
theorem enum_get : ∀ (us : List U) (k i : Nat), i < us.length → (enumF k us)[i]? = (us[i]?).map fun u => U.tup [.int ((k + i : Nat) : Int), u]
  | [], _, _, h => by simp at h
  | u :: us, k, 0, _ => by simp [enumF]
  | u :: us, k, i + 1, h => by
    have := enum_get us (k + 1) i (by simpa using h)
    simp only [enumF, List.getElem?_cons_succ, this]
    rw [show k + 1 + i = k + (i + 1) by omega]
theorem enum_len : ∀ (us : List U) (k : Nat), (enumF k us).length = us.length
  | [], _ => rfl
  | u :: us, k => by simp [enumF, enum_len us]
theorem wk_enum {K : PySem.W.Frag} {S B : Addr → Prop} {H1 : Hp} {a : Addr} {us : List U} {vs : List V} (h : H1 a = some (.lst vs)) (hs : S a) (r : Reps B H1 us vs) : Wk S H1 B (Ite K a) (enumF 0 us) := by
  intro H hk i
  have e := hk a _ hs h
  rw [enum_len]
  refine ⟨fun hi => ?_, fun hi => ⟨vs, SqL.of e, by rw [← r.length]; exact hi⟩, fun x H' y hi => ?_⟩
  · obtain ⟨v, h1, _⟩ := r.get (List.getElem?_eq_getElem hi)
    exact ⟨vs, v, SqL.of e, h1⟩
  · obtain ⟨T, x', rfl, hT, rfl, q1⟩ := y
    obtain ⟨v, h1, h2⟩ := r.get (List.getElem?_eq_getElem hi)
    have e1 := q1 vs (SqL.of e)
    rw [h1] at e1; cases e1
    refine ⟨.tup [.int i, us[i]], by rw [enum_get us 0 i hi, List.getElem?_eq_getElem hi]; simp, fun b o e => by rw [upd_ne (ne_of_none e hT)]; exact e, fun B' k => ?_⟩
    exact .tup upd_same (.cons (.int _) (.cons (h2.mono k) .nil))
theorem pi_enum' (g : Gd X c Γ W) {m : Bool} {a : Expr} {elts : List Expr} {kk : Nat} {ea : E} {p tpos pos : Pos} (hG : Gl X "enumerate") (ha : PE X a (Cx.tE X W Γ ea)) (hsa : NoStar a) (hm : m = true ∨ (cl Γ ea).walk = true) :
    PI X (.Tuple elts kk tpos) (.Call (.Name "enumerate" p) [a] [] pos) (tI X.K X.mg W Γ m (.enum ea)) := by
  have h1 := star_cons hsa [] X.env
  refine PI.imp (pi_enum hG (blt_none g (mem_blts _ (by decide +kernel))) (pa_cons ha pa_nil h1) h1) fun σ H R ⟨w, s, o⟩ => ?_
  simp only [evi] at o
  refine one s o fun u c1 H1 x s1 n1 rx k1 => ?_
  obtain ⟨us, e, k2⟩ := k1.opt
  cases u with
  | lst us1 =>
    cases e
    obtain ⟨a, vs, rfl, e1, r1, st1⟩ := RV.seqL (K := X.K) (m := m) rx hm
    exact ⟨a, vs, rfl, SqL.of e1, k2 H1 s1.refl _ (wk_enum e1 st1 r1)⟩
  | _ => cases e
end
end Mi

/-! M10.lean -/
namespace Mi
open PySem PySem.Spec PyProof.Rows L2
/-! ### targets -/
def gNames : List Nat → TGs
  | [] => gNil
  | i :: is => gCons (gName i) (gNames is)
def tG (K : PySem.W.Frag) (fl : Bool) (is : List Nat) : TG := match fl, is with
  | true, [i] => gName i
  | false, is => gTup K is.length (gNames is)
  | _, _ => fun _ _ _ _ => False
/-- slots that have changed: nothing, gone, or a value -/
structure Up (B : Addr → Prop) (H : Hp) (ρ : Ev) (σ : L2.St) (ρ' : Ev) (σ' : L2.St) : Prop where
  l : ρ'.length = ρ.length
  l' : σ'.length = σ.length
  at_ : ∀ i : Nat, (ρ'[i]? = ρ[i]? ∧ σ'[i]? = σ[i]?) ∨ ρ'[i]? = some none ∨ ∃ u v, ρ'[i]? = some (some (.fr u)) ∧ σ'[i]? = some (some v) ∧ Rep B H u v
theorem Up.refl {B : Addr → Prop} {H : Hp} {ρ : Ev} {σ : L2.St} : Up B H ρ σ ρ σ := ⟨rfl, rfl, fun _ => .inl ⟨rfl, rfl⟩⟩
theorem Up.trans {B : Addr → Prop} {H : Hp} {ρ ρ' ρ2 : Ev} {σ σ' σ2 : L2.St} (a : Up B H ρ σ ρ' σ') (b : Up B H ρ' σ' ρ2 σ2) : Up B H ρ σ ρ2 σ2 :=
  ⟨b.l.trans a.l, b.l'.trans a.l', fun i => by
    rcases b.at_ i with ⟨h1, h2⟩ | h | h
    · rcases a.at_ i with ⟨h3, h4⟩ | h3 | ⟨u, v, h3, h4, h5⟩
      · exact .inl ⟨h1.trans h3, h2.trans h4⟩
      · exact .inr (.inl (h1.trans h3))
      · exact .inr (.inr ⟨u, v, h1.trans h3, h2.trans h4, h5⟩)
    · exact .inr (.inl h)
    · exact .inr (.inr h)⟩
theorem Up.put {B : Addr → Prop} {H : Hp} {ρ : Ev} {σ : L2.St} {i : Nat} {u : U} {v : V} (hl : ρ.length = σ.length) (r : Rep B H u v) : Up B H ρ σ (Mi.put ρ i u) (σ.set i (some v)) := by
  refine ⟨by simp [Mi.put], by simp, fun j => ?_⟩
  by_cases e : i = j
  · subst e
    by_cases hi : i < ρ.length
    · refine .inr (.inr ⟨u, v, ?_, ?_, r⟩)
      · unfold Mi.put; rw [List.getElem?_set_self hi]
      · rw [List.getElem?_set_self (by omega)]
    · left
      constructor
      · unfold Mi.put; rw [List.set_eq_of_length_le (by omega)]
      · rw [List.set_eq_of_length_le (by omega)]
  · left
    unfold Mi.put
    rw [List.getElem?_set_ne e, List.getElem?_set_ne e]
    exact ⟨rfl, rfl⟩
theorem Up.wip {B : Addr → Prop} {H : Hp} {ρ : Ev} {σ : L2.St} (hl : ρ.length = σ.length) : ∀ is : List Nat, Up B H ρ σ (Mi.wip ρ is) (wipe σ is)
  | [] => .refl
  | i :: is => by
    have h := Up.wip (B := B) (H := H) hl is
    refine h.trans ?_
    show Up B H (Mi.wip ρ is) (wipe σ is) ((Mi.wip ρ is).set i none) ((wipe σ is).set i none)
    refine ⟨by simp, by simp, fun j => ?_⟩
    by_cases e : i = j
    · subst e
      by_cases hi : i < (Mi.wip ρ is).length
      · exact .inr (.inl (by rw [List.getElem?_set_self hi]))
      · left
        constructor
        · rw [List.set_eq_of_length_le (by omega)]
        · rw [List.set_eq_of_length_le (by rw [h.l', ← hl, ← h.l]; omega)]
    · left
      rw [List.getElem?_set_ne e, List.getElem?_set_ne e]
      exact ⟨rfl, rfl⟩
theorem puts_ok {B : Addr → Prop} {H : Hp} : ∀ {is : List Nat} {us : List U} {vs : List V} {ρ ρ' : Ev} {σ : L2.St}, ρ.length = σ.length → puts is us ρ = some ρ' → Reps B H us vs →
    ∃ σ', Up B H ρ σ ρ' σ' ∧ (∀ j : Nat, j ∉ is → ρ'[j]? = ρ[j]? ∧ σ'[j]? = σ[j]?) ∧ ∀ Q, Q σ' H → gNames is vs σ H Q
  | [], [], vs, ρ, ρ', σ, hl, h, r => by
    cases h; cases r
    exact ⟨σ, .refl, fun _ _ => ⟨rfl, rfl⟩, fun Q q => ⟨rfl, q⟩⟩
  | i :: is, u :: us, vs, ρ, ρ', σ, hl, h, r => by
    cases r with
    | @cons _ v _ vs a t =>
      have h1 := Up.put (i := i) hl a
      obtain ⟨σ', h2, h3, h4⟩ := puts_ok (σ := σ.set i (some v)) (h1.l.trans (hl.trans h1.l'.symm)) h t
      refine ⟨σ', h1.trans h2, fun j hj => ?_, fun Q q => ⟨v, vs, rfl, h4 Q q⟩⟩
      rw [List.mem_cons, not_or] at hj
      obtain ⟨h5, h6⟩ := h3 j hj.2
      rw [h5, h6]
      unfold Mi.put
      rw [List.getElem?_set_ne (fun z => hj.1 z.symm), List.getElem?_set_ne (fun z => hj.1 z.symm)]
      exact ⟨rfl, rfl⟩
  | [], _ :: _, _, _, _, _, _, h, _ => by cases h
  | _ :: _, [], _, _, _, _, _, h, _ => by cases h
theorem puts_len : ∀ {is : List Nat} {us : List U} {ρ ρ' : Ev}, puts is us ρ = some ρ' → is.length = us.length
  | [], [], _, _, _ => rfl
  | i :: is, u :: us, _, _, h => by simp [puts_len (is := is) (us := us) h]
  | [], _ :: _, _, _, h => by cases h
  | _ :: _, [], _, _, h => by cases h
theorem asg_ok {K : PySem.W.Frag} {B : Addr → Prop} {H : Hp} {tg : List Nat} {fl : Bool} {u : U} {v : V} {ρ ρ' : Ev} {σ : L2.St} (hl : ρ.length = σ.length) (h : asg tg fl u ρ = some ρ') (r : Rep B H u v) :
    ∃ σ', Up B H ρ σ ρ' σ' ∧ (∀ j : Nat, j ∉ tg → ρ'[j]? = ρ[j]? ∧ σ'[j]? = σ[j]?) ∧ ∀ Q, Q σ' H → tG K fl tg v σ H Q := by
  unfold asg at h
  split at h
  · cases h
    refine ⟨_, Up.put hl r, fun j hj => ?_, fun Q q => q⟩
    unfold Mi.put
    rw [List.getElem?_set_ne (fun z => hj (by simp [z])), List.getElem?_set_ne (fun z => hj (by simp [z]))]
    exact ⟨rfl, rfl⟩
  · rename_i is us
    cases r with
    | tup h1 rs =>
      obtain ⟨σ', h2, h3, h4⟩ := puts_ok hl h rs
      refine ⟨σ', h2, h3, fun Q q => ?_⟩
      have hn := puts_len h
      have : ∀ is : List Nat, tG K false is = gTup K is.length (gNames is) := fun is => by unfold tG; cases is <;> rfl
      rw [this]
      exact ⟨_, _, rfl, SqT.of h1, by rw [← rs.length, hn], h4 Q q⟩
  · cases h
theorem wip_at {is : List Nat} {ρ : Ev} {j : Nat} (h : j ∉ is) : (Mi.wip ρ is)[j]? = ρ[j]? := by
  induction is with
  | nil => rfl
  | cons i is ih =>
    rw [List.mem_cons, not_or] at h
    show ((Mi.wip ρ is).set i none)[j]? = ρ[j]?
    rw [List.getElem?_set_ne (fun z => h.1 z.symm), ih h.2]
theorem wipe_at {is : List Nat} {σ : L2.St} {j : Nat} (h : j ∉ is) : (wipe σ is)[j]? = σ[j]? := by
  induction is with
  | nil => rfl
  | cons i is ih =>
    rw [List.mem_cons, not_or] at h
    show ((wipe σ is).set i none)[j]? = σ[j]?
    rw [List.getElem?_set_ne (fun z => h.1 z.symm), ih h.2]
theorem wipe_in {is : List Nat} {σ : L2.St} {j : Nat} (h : j ∈ is) (hj : j < σ.length) : (wipe σ is)[j]? = some none := by
  induction is with
  | nil => cases h
  | cons i is ih =>
    show ((wipe σ is).set i none)[j]? = some none
    by_cases e : i = j
    · subst e; rw [List.getElem?_set_self (by rw [wipe_length]; exact hj)]
    · rw [List.getElem?_set_ne e]
      exact ih (by rcases List.mem_cons.mp h with z | z; exact absurd z.symm e; exact z)
/-- the wiped slots are the same -/
theorem wipe_same {is : List Nat} {σ σ' : L2.St} (hl : σ'.length = σ.length) (h : ∀ j, j ∉ is → σ'[j]? = σ[j]?) : wipe σ' is = wipe σ is := by
  apply List.ext_getElem?
  intro j
  by_cases hj : j ∈ is
  · by_cases hb : j < σ.length
    · rw [wipe_in hj hb, wipe_in hj (by omega)]
    · rw [List.getElem?_eq_none (by rw [wipe_length]; omega), List.getElem?_eq_none (by rw [wipe_length]; omega)]
  · rw [wipe_at hj, wipe_at hj, h j hj]
theorem noOwn_at {ρ : Ev} {is : List Nat} (h : noOwn ρ is = true) {i : Nat} {us : List U} (e : ρ[i]? = some (some (.own us))) : i ∉ is := fun z => by
  have := List.all_eq_true.mp h i z
  rw [e] at this
  cases this
section
variable {X : Cx} {K : PySem.W.Frag} {mg : Str → Option Value} {c : CE} {Γ : Gm} {W : XK} {σ σ' : L2.St} {H : Hp} {Q : VK} {w : Wd} {ρ' : Ev}
/-- own slots are as they were, or gone -/
theorem Up.own {B : Addr → Prop} {ρ : Ev} (u : Up B H ρ σ ρ' σ') {i : Nat} {us : List U} (e : ρ'[i]? = some (some (.own us))) : ρ[i]? = some (some (.own us)) ∧ σ'[i]? = σ[i]? := by
  rcases u.at_ i with ⟨h1, h2⟩ | h | ⟨_, _, h, _⟩
  · exact ⟨h1.symm.trans e, h2⟩
  · rw [e] at h; cases h
  · rw [e] at h; cases h
theorem Up.sr (s : SR K w σ H) (u : Up w.blk H w.ρ σ ρ' σ') : SR K { w with ρ := ρ' } σ' H := by
  have less : ∀ b, ({ w with ρ := ρ' } : Wd).blk b → w.blk b := fun b h => by
    rcases h with h | h | ⟨i, us, h, e⟩
    · exact .inl h
    · exact .inr (.inl h)
    · exact .inr (.inr ⟨i, us, (u.own h).1, e⟩)
  refine ⟨by show ρ'.length = σ'.length; rw [u.l, u.l']; exact s.len, s.base, s.live, s.hb, s.acf, s.cup, s.nocup, fun i us e => ?_, fun i j us us' e e' => s.inj i j us us' (u.own e).1 (u.own e').1, fun i a e => ?_, fun i a e => ?_, fun i e => ?_, fun i us e => ?_⟩
  · obtain ⟨h1, h2⟩ := u.own e
    obtain ⟨g1, g2, g3, vs, g4, g5⟩ := s.own i us h1
    exact ⟨h2.trans g1, g2, g3, vs, g4, g5.mono (Kp.less less)⟩
  · have e : ρ'[i]? = some (some (.fr a)) := e
    rcases u.at_ i with ⟨h1, h2⟩ | h | ⟨u', v, h, h', r⟩
    · obtain ⟨v, g1, g2⟩ := s.fr i a (h1.symm.trans e)
      exact ⟨v, h2.trans g1, g2.mono (Kp.less less)⟩
    · rw [e] at h; cases h
    · rw [e] at h; cases h
      exact ⟨v, h', r.mono (Kp.less less)⟩
  · have e : ρ'[i]? = some (some (.bor a)) := e
    rcases u.at_ i with ⟨h1, h2⟩ | h | ⟨u', v, h, h', r⟩
    · obtain ⟨v, g1, g2⟩ := s.bor i a (h1.symm.trans e)
      exact ⟨v, h2.trans g1, g2⟩
    · rw [e] at h; cases h
    · rw [e] at h; cases h
  · have e : ρ'[i]? = some (some .cup) := e
    rcases u.at_ i with ⟨h1, h2⟩ | h | ⟨u', v, h, h', r⟩
    · obtain ⟨a, g1, g2⟩ := s.cupS i (h1.symm.trans e)
      exact ⟨a, g1, h2.trans g2⟩
    · rw [e] at h; cases h
    · rw [e] at h; cases h
  · have e : ρ'[i]? = some (some (.scr us)) := e
    rcases u.at_ i with ⟨h1, h2⟩ | h | ⟨u', v, h, h', r⟩
    · obtain ⟨a, ns, g1, g2⟩ := s.scr i us (h1.symm.trans e)
      exact ⟨a, ns, h2.trans g1, g2⟩
    · rw [e] at h; cases h
    · rw [e] at h; cases h
/-- a further address that may not be kept: it was free when the state was as it is -/
theorem SR.pinAt {H' : Hp} {c : Cs} {D : Addr} {o : HO} (s : SR K w σ H) (n : Nx w H c H') (hD : H D = none) (hD' : H' D = some o) : SR K { w.at c with B0 := fun b => w.B0 b ∨ b = D } σ H' := by
  have t := n.sr s
  have kp : Kp w.blk ({ w.at c with B0 := fun b => w.B0 b ∨ b = D } : Wd).blk H H' := ⟨fun b xs e nb => ⟨(n.kp s).l b xs e nb |>.1, by
    rintro ((h | h) | h | h)
    · exact nb (.inl h)
    · rw [h, hD] at e; cases e
    · exact nb (.inr (.inl h))
    · exact nb (.inr (.inr h))⟩, (n.kp s).t⟩
  have old : ∀ b o, w.Hb b = some o → b ≠ D := fun b o e z => by
    by_cases q : w.ac = some b
    · obtain ⟨_, e2⟩ := s.acb q
      rw [z, hD] at e2; cases e2
    · have e2 := s.up0 e q
      rw [z, hD] at e2; cases e2
  have kp0 : Kp w.B0 (fun b => w.B0 b ∨ b = D) w.Hb w.Hb := ⟨fun b xs e nb => ⟨e, by
    rintro (h | h)
    · exact nb h
    · exact old b _ e h⟩, fun b xs e => e⟩
  refine ⟨t.len, t.base, fun b h => ?_, t.hb, fun a e => ?_, t.cup, t.nocup, fun i us e => ?_, t.inj, fun i u e => ?_, fun i u e => ?_, t.cupS, t.scr⟩
  · rcases h with h | h
    · exact t.live b h
    · exact ⟨o, h ▸ hD'⟩
  · rcases t.acf a e with h | ⟨h1, h2⟩
    · exact .inl h
    · exact .inr ⟨.inl h1, h2⟩
  · obtain ⟨g1, g2, ⟨g3, g3'⟩, vs, g4, g5⟩ := s.own i us e
    refine ⟨g1, g2, ⟨g3, ?_⟩, vs, n.k _ _ g4 g3, g5.mono kp⟩
    rintro (z | z)
    · exact g3' z
    · have g4 : H (w.β i) = some (.lst vs) := g4
      have z : w.β i = D := z
      rw [z, hD] at g4; cases g4
  · obtain ⟨v, h1, h2⟩ := s.fr i u e
    exact ⟨v, h1, h2.mono kp⟩
  · obtain ⟨v, h1, h2⟩ := s.bor i u e
    refine ⟨v, h1, ?_⟩
    rcases h2 with h2 | ⟨a, us, vs, e1, e2, e3, e4, e5⟩
    · exact .inl (h2.mono kp0)
    · exact .inr ⟨a, us, vs, e1, e2, e3, e4, e5.mono kp0⟩
end
end Mi

/-! M11.lean -/
namespace Mi
open PySem PySem.Spec PyProof.Rows L2
abbrev Fls : XK := fun _ _ _ => False
def compF (Γ : Gm) (own is : List Nat) (fl ifs : Bool) (ec eu : E) (ρ : Ev) (u : U) : M (Option U) := match asg is fl u (wip ρ own) with
  | some ρ' => bnd (if ifs = true then ev Γ ec ρ' else ret (.bl true)) fun t => bnd (opt (ofB t)) fun b => if b = true then bnd (ev Γ eu ρ') fun v => ret (some v) else ret none
  | none => bad
theorem compL_exc {f : U → M (Option U)} : ∀ {us acc : List U} {c c' : Cs} {x : Str}, compL f acc us c ≠ .exc x c'
  | [], acc, c, c', x, h => by cases h
  | u :: us, acc, c, c', x, h => by
    simp only [compL, bndN] at h
    split at h
    · rename_i o c2 e
      cases o with
      | none => exact compL_exc h
      | some v =>
        simp only at h
        split at h
        · exact compL_exc h
        · cases h
    · cases h
    · cases h
theorem bnd_ok {α β : Type} {m : M α} {f : α → M β} {c c' : Cs} {a : α} (h : m c = .ok a c') : bnd m f c = f a c' := by unfold bnd; rw [h]
theorem bnd_exc {α β : Type} {m : M α} {f : α → M β} {c c' : Cs} {x : Str} (h : m c = .exc x c') : bnd m f c = .exc x c' := by unfold bnd; rw [h]
theorem bnd_bad {α β : Type} {m : M α} {f : α → M β} {c : Cs} (h : m c = .bad) : bnd m f c = .bad := by unfold bnd; rw [h]
section
variable {X : Cx} {K : PySem.W.Frag} {mg : Str → Option Value} {c : CE} {Γ : Gm} {W : XK} {σ σ' : L2.St} {H : Hp} {Q : VK} {w : Wd}
theorem Kp.upd2 {B : Addr → Prop} {H : Hp} {D : Addr} {vs : List V} {o : HO} (h : H D = some (.lst vs)) (hB : B D) : Kp B B H (L2.upd H D o) :=
  ⟨fun b xs e nb => ⟨by rw [upd_ne (fun z => nb (by rw [z]; exact hB))]; exact e, nb⟩, fun b xs e => by
    rw [upd_ne (fun z => by rw [z, h] at e; cases e)]; exact e⟩
/-- the written test and element of a turn -/
theorem comp_turn {ifs : Bool} {ec eu : E} {w2 : Wd} {σ2 : L2.St} {H2 : Hp} {cc c4 : Cs} {o : Option U} (s : SR K w2 σ2 H2) (hcc : w2.cs = cc)
    (h : bnd (if ifs = true then ev Γ ec w2.ρ else ret (.bl true)) (fun t => bnd (opt (ofB t)) fun b => if b = true then bnd (ev Γ eu w2.ρ) fun v => ret (some v) else ret none) cc = .ok o c4) {R : V → Hp → Prop} {N : Hp → Prop}
    (hN : o = none → ∀ H', Nx w2 H2 c4 H' → N H') (hR : ∀ v, o = some v → ∀ H' y, Nx w2 H2 c4 H' → RV (cl Γ eu) w2 H2 H' v y → R y H') :
    (if ifs = true then Mi.tT K mg Fls Γ ec else tYes) σ2 H2 fun b H3 => if b = true then Mi.tE K mg Fls Γ eu σ2 H3 R else N H3 := by
  subst hcc
  have elt : ∀ (w3 : Wd) (H3 : Hp) (c3 : Cs), w3 = w2.at c3 → Nx w2 H2 c3 H3 → SR K w3 σ2 H3 → bnd (ev Γ eu w2.ρ) (fun v => ret (some v)) c3 = .ok o c4 → Mi.tE K mg Fls Γ eu σ2 H3 R := by
    intro w3 H3 c3 e3 n3 s3 h3
    subst e3
    unfold Mi.bnd at h3
    cases e : ev Γ eu w2.ρ c3 with
    | ok v c5 =>
      rw [e] at h3
      cases h3
      refine ⟨w2.at c3, s3, ?_⟩
      show Out mg Fls (w2.at c3) H3 (ev Γ eu w2.ρ c3) _
      rw [e]
      intro H' n' y ry
      exact hR v rfl H' y (n3.trans n') (RV.from s n3 ry)
    | exc x c' => rw [e] at h3; cases h3
    | bad => rw [e] at h3; cases h3
  cases ifs with
  | false =>
    rw [if_neg Bool.false_ne_true] at h
    rw [if_neg Bool.false_ne_true]
    show Mi.tE K mg Fls Γ eu σ2 H2 R
    exact elt w2 H2 w2.cs rfl s.refl s h
  | true =>
    rw [if_pos rfl] at h
    rw [if_pos rfl]
    refine ⟨w2, s, ?_⟩
    cases e : ev Γ ec w2.ρ w2.cs with
    | exc x c' => rw [bnd_exc e] at h; cases h
    | bad => rw [bnd_bad e] at h; cases h
    | ok t c3 =>
      rw [bnd_ok e] at h
      rw [bnd_ok e]
      cases eb : ofB t with
      | none => rw [eb, bnd_bad (m := opt none) rfl] at h; cases h
      | some b =>
        rw [eb, bnd_ok (m := opt (some b)) rfl] at h
        show Out mg Fls w2 H2 (ret b c3) _
        replace h : (if b = true then Mi.bnd (ev Γ eu w2.ρ) fun v => ret (some v) else ret none) c3 = .ok o c4 := h
        intro H3 n3
        cases b with
        | true =>
          rw [if_pos rfl] at h
          rw [if_pos rfl]
          exact elt (w2.at c3) H3 c3 rfl n3 (n3.sr s) h
        | false =>
          rw [if_neg Bool.false_ne_true] at h
          rw [if_neg Bool.false_ne_true]
          cases h
          exact hN rfl H3 n3
theorem pe_comp (hc : X.calm = true) (hN : X.N.Nodup) {elt tg it : Expr} {ifsE : List Expr} {scope : Scope} {own : List (Str × Nat)} {is : List Nat} {fl ifs : Bool} {ei ec eu : E} {pos : Pos}
    (hi : PI X tg it (tI X.K X.mg W Γ true ei)) (ok : BlkOk X.N X.env.scope scope own)
    (hg : ∀ (s : Shared) (H : Hp) (C : Addr) (cl : List (Str × Addr)) (fp : List Addr), PG (X.blk s H scope (compEnvC scope cl C X.env) fp) tg (tG X.K fl is))
    (ht : ∀ (s : Shared) (H : Hp) (C : Addr) (cl : List (Str × Addr)) (fp : List Addr), PTs (X.blk s H scope (compEnvC scope cl C X.env) fp) ifsE (if ifs = true then Mi.tT X.K X.mg Fls Γ ec else tYes))
    (he : ∀ (s : Shared) (H : Hp) (C : Addr) (cl : List (Str × Addr)) (fp : List Addr), PE (X.blk s H scope (compEnvC scope cl C X.env) fp) elt (Mi.tE X.K X.mg Fls Γ eu))
    (hk : keptE eu = true) (hsub : ∀ j ∈ is, j ∈ own.map (·.2)) (hfs : ∀ x, foldedSetIterable it X.env x = pure x) :
    PE X (.ListComp elt [⟨tg, it, ifsE, 0⟩] scope pos) (Cx.tE X W Γ (.comp (own.map (·.2)) is fl ei ifs ec eu)) ∧
    ∀ {i : Nat} {y : Str} {py : Pos} {spos : Pos}, X.N[i]? = some y → X.env.scope.names.lookup y = some .local → swapsWith (.ListComp elt [⟨tg, it, ifsE, 0⟩] scope pos) (some (.Name y py)) spos.line X.env = pure true →
      PS X (.Assign [.Name y py] (.ListComp elt [⟨tg, it, ifsE, 0⟩] scope pos) spos) (tAsg (Cx.tE X W Γ (.comp (own.map (·.2)) is fl ei ifs ec eu)) (gName i)) := by
  have main : ∀ σ H Q, Cx.tE X W Γ (.comp (own.map (·.2)) is fl ei ifs ec eu) σ H Q → tLc (tI X.K X.mg W Γ true ei) (tG X.K fl is) (if ifs = true then Mi.tT X.K X.mg Fls Γ ec else tYes) (Mi.tE X.K X.mg Fls Γ eu) (own.map (·.2)) σ H Q := by
    intro σ H Q ⟨w, s, o⟩
    simp only [ev] at o
    by_cases hno : noOwn w.ρ (own.map (·.2)) = false
    · rw [if_pos hno] at o; exact o.elim
    rw [if_neg hno] at o
    have hno : noOwn w.ρ (own.map (·.2)) = true := by cases e : noOwn w.ρ (own.map (·.2)) <;> first | rfl | exact absurd e hno
    refine ⟨w, s, o.bnd.imp fun items c1 H1 n1 k1 J wk => ?_⟩
    have s1 := n1.sr s
    have k2 := Out.bnd (w := w.at c1) k1
    change Out X.mg W (w.at c1) H1 (compL (compF Γ (own.map (·.2)) is fl ifs ec eu w.ρ) [] items c1) _ at k2
    cases hr : compL (compF Γ (own.map (·.2)) is fl ifs ec eu w.ρ) [] items c1 with
    | exc x c' => exact absurd hr compL_exc
    | bad => rw [hr] at k2; exact k2.elim
    | ok r c2 =>
      rw [hr] at k2
      have fin : ∀ H', Nx (w.at c1) H1 c2 H' → ∀ v, RV .new w H H' (.lst r) v → Q v H' := fun H' n v rv => (k2 H' n).ret H' (n.sr s1).refl v rv
      intro D hD
      -- all that stood ahead of the new list, the list, what is left to do
      refine ⟨fun i m H' => m = items.length - i ∧ i ≤ items.length ∧ ∃ acc vs cc, Nx (w.at c1) H1 cc H' ∧ H' D = some (.lst vs) ∧ Reps (fun b => w.blk b ∨ b = D) H' acc vs ∧ compL (compF Γ (own.map (·.2)) is fl ifs ec eu w.ρ) acc (items.drop i) cc = .ok r c2,
        ⟨_, rfl, Nat.zero_le _, [], [], c1, s1.same fun b o e => by rw [upd_ne (ne_of_none e hD)]; exact e, upd_same, .nil, hr⟩, ?_⟩
      rintro i m H' ⟨rfl, hi', acc, vs, cc, nx, hDv, ra, hcomp⟩
      have stable : ∀ b o, stb true w b → H1 b = some o → H' b = some o := fun b o st e => nx.k b o e st.1
      have s' : SR X.K (w.at cc) σ H' := nx.sr s1
      have acD : ∀ a, w.ac = some a → a ≠ D := fun a e z => by
        obtain ⟨_, e2⟩ := s1.acb (a := a) e
        rw [z, hD] at e2; cases e2
      by_cases hlt : i < items.length
      · refine .inr ⟨(wk H' stable i).1 hlt, fun H5 => ∃ acc vs cc, Nx (w.at c1) H1 cc H5 ∧ H5 D = some (.lst vs) ∧ Reps (fun b => w.blk b ∨ b = D) H5 acc vs ∧ compL (compF Γ (own.map (·.2)) is fl ifs ec eu w.ρ) acc (items.drop (i + 1)) cc = .ok r c2,
          fun H5 ⟨acc, vs, cc, h⟩ => ⟨_, by omega, rfl, hlt, acc, vs, cc, h⟩, fun x H2 hy => ?_⟩
        obtain ⟨u, hu, ext, rep⟩ := (wk H' stable i).2.2 x H2 hy hlt
        have hdrop : items.drop i = u :: items.drop (i + 1) := by
          rw [List.drop_eq_getElem_cons hlt]
          rw [List.getElem?_eq_getElem hlt] at hu
          cases hu; rfl
        rw [hdrop] at hcomp
        simp only [compL, bndN] at hcomp
        cases hf : compF Γ (own.map (·.2)) is fl ifs ec eu w.ρ u cc with
        | exc x c' => rw [hf] at hcomp; cases hcomp
        | bad => rw [hf] at hcomp; cases hcomp
        | ok ov c4 =>
          rw [hf] at hcomp
          unfold compF at hf
          cases hasg : asg is fl u (wip w.ρ (own.map (·.2))) with
          | none => rw [hasg] at hf; cases hf
          | some ρ2 =>
            rw [hasg] at hf
            replace hf : bnd (if ifs = true then ev Γ ec ρ2 else ret (.bl true)) (fun t => bnd (opt (ofB t)) fun b => if b = true then bnd (ev Γ eu ρ2) fun v => ret (some v) else ret none) cc = .ok ov c4 := hf
            have n12 : Nx (w.at c1) H1 cc H2 := nx.trans (s'.same ext)
            have hD2 : H2 D = some (.lst vs) := ext D _ hDv
            have sp := SR.pinAt (w := w.at c1) s1 n12 hD hD2
            have kB : Kp w.blk (fun b => w.blk b ∨ b = D) H1 H2 := ⟨fun b xs e nb => ⟨n12.k b _ e fun z => nb (.inr (.inl z)), fun z => z.elim nb fun z => by rw [z, hD] at e; cases e⟩, fun b xs e => n12.k b _ e fun z => by
              obtain ⟨cv, _, _, e2⟩ := s1.cup b z
              rw [e] at e2; cases e2⟩
            have ru := rep _ kB
            have toP : ∀ b, ({ (w.at c1).at cc with B0 := fun b => w.B0 b ∨ b = D } : Wd).blk b → w.blk b ∨ b = D := fun b h => by
              rcases h with (h | h) | h | h
              · exact .inl (.inl h)
              · exact .inr h
              · exact .inl (.inr (.inl h))
              · exact .inl (.inr (.inr h))
            have up1 : Up ({ (w.at c1).at cc with B0 := fun b => w.B0 b ∨ b = D } : Wd).blk H2 w.ρ σ (wip w.ρ (own.map (·.2))) (wipe σ (own.map (·.2))) := Up.wip s.len _
            obtain ⟨σ2, up2, same2, hq⟩ := asg_ok (K := X.K) (σ := wipe σ (own.map (·.2))) (by rw [up1.l, up1.l']; exact s.len) hasg (ru.mono (Kp.less toP))
            have up := up1.trans up2
            have sr2 := Up.sr sp up
            refine hq _ ⟨wipe_same (by rw [up.l']) fun j hj => ?_, ?_⟩
            · rw [(same2 j fun z => hj (hsub j z)).2, wipe_at hj]
            · -- what stays up to the turn's end
              have keepB : ∀ {H4 : Hp} {c5 : Cs}, Nx ({ ({ (w.at c1).at cc with B0 := fun b => w.B0 b ∨ b = D } : Wd) with ρ := ρ2 } : Wd) H2 c5 H4 → Kp (fun b => w.blk b ∨ b = D) (fun b => w.blk b ∨ b = D) H2 H4 := fun {H4 c5} n => ⟨fun b xs e nb => ⟨n.k b _ e fun z => nb (.inl (.inr (.inl z))), nb⟩, fun b xs e => n.k b _ e fun z => by
                obtain ⟨cv, _, _, e2⟩ := sp.cup b z
                rw [e] at e2; cases e2⟩
              have ra2 : Reps (fun b => w.blk b ∨ b = D) H2 acc vs := ra.mono (Kp.same ext)
              have ownSame : ∀ b, (w.blk b ∨ b = D) → ({ ({ (w.at c1).at cc with B0 := fun b => w.B0 b ∨ b = D } : Wd) with ρ := ρ2 } : Wd).blk b := fun b h => by
                rcases h with (h | h | ⟨i, us, h, e⟩) | h
                · exact .inl (.inl h)
                · exact .inr (.inl h)
                · refine .inr (.inr ⟨i, us, ?_, e⟩)
                  have ni := noOwn_at hno h
                  show ρ2[i]? = _
                  rw [(same2 i fun z => ni (hsub i z)).1, wip_at ni]
                  exact h
                · exact .inl (.inr h)
              refine comp_turn (w2 := { ({ (w.at c1).at cc with B0 := fun b => w.B0 b ∨ b = D } : Wd) with ρ := ρ2 }) sr2 rfl hf ?_ ?_
              · intro e H' n'
                subst e
                replace hcomp : compL (compF Γ (own.map (·.2)) is fl ifs ec eu w.ρ) acc (items.drop (i + 1)) c4 = .ok r c2 := hcomp
                refine ⟨acc, vs, c4, ⟨fun b o e nb => n'.k b o (n12.k b o e nb) nb, n'.cup, n'.nocup⟩, n'.k D _ hD2 (fun z => acD D z rfl), ra2.mono (keepB n'), hcomp⟩
              · intro v e H' y n' ry
                subst e
                replace hcomp : (if acc.length < L then compL (compF Γ (own.map (·.2)) is fl ifs ec eu w.ρ) (acc ++ [v]) (items.drop (i + 1)) else bad) c4 = .ok r c2 := hcomp
                have hD3 : H' D = some (.lst vs) := n'.k D _ hD2 fun z => acD D z rfl
                have hlen : acc.length < L := by
                  by_cases q : acc.length < L
                  · exact q
                  · rw [if_neg q] at hcomp; cases hcomp
                rw [if_pos hlen] at hcomp
                have ra3 := ra2.mono (keepB n')
                have ryk : Rep (fun b => w.blk b ∨ b = D) H' v y := (ry.rep (cl_kept hk)).mono (Kp.less ownSame)
                have kU : Kp (fun b => w.blk b ∨ b = D) (fun b => w.blk b ∨ b = D) H' (L2.upd H' D (.lst (vs ++ [y]))) := Kp.upd2 (B := fun b => w.blk b ∨ b = D) hD3 (Or.inr rfl)
                refine ⟨vs, hD3, by rw [← ra.length]; exact hlen, acc ++ [v], vs ++ [y], c4, ⟨fun b o e nb => ?_, fun a e => ?_, n'.nocup⟩, upd_same, (ra3.mono kU).app (.cons (ryk.mono kU) .nil), hcomp⟩
                · rw [upd_ne (ne_of_none e hD)]
                  exact n'.k b o (n12.k b o e nb) nb
                · obtain ⟨cv, e1, e2, e3⟩ := n'.cup a e
                  exact ⟨cv, e1, e2, by rw [upd_ne (acD a e)]; exact e3⟩
      · have e : i = items.length := by omega
        subst e
        refine .inl ⟨(wk H' stable items.length).2.1 (Nat.le_refl _), ?_⟩
        rw [List.drop_length] at hcomp
        cases hcomp
        refine fin H' nx _ ⟨.lst hDv (fun z => ?_) (ra.mono (Kp.less fun b h => .inl h)), fun us e => ⟨D, rfl, ?_⟩⟩
        · obtain ⟨_, e2⟩ := s1.blkLive (b := D) z
          rw [hD] at e2; cases e2
        · cases q : H D with
          | none => rfl
          | some o =>
            obtain ⟨_, e2⟩ := n1.there s D o q
            rw [hD] at e2; cases e2
  refine ⟨PE.imp (pe_lc hc hN hi ok hg ht he hfs) main, fun {i y py spos} hy hyl hsw => ?_⟩
  have h := ps_setLc (i := i) (spos := spos) (py := py) hc hN hy hyl hsw hi ok hg ht he hfs
  exact ⟨fun pins s σ H D I hw => h.run pins s σ H D I (main σ H _ hw)⟩
end
end Mi

/-! M12.lean -/
namespace Mi
open PySem PySem.Spec PyProof.Rows L2
def lvE : E → E
  | .var i => .lvar i
  | e => e
def lvI : E → E
  | .iseq a => .iseq (lvE a)
  | .zip a b => .zip (lvE a) (lvE b)
  | .enum a => .enum (lvE a)
  | e => e
structure Shp (e : Expr) : Prop where
  star : NoStar e
  ix : PlainIx e
  fold : ∀ env x, foldedSetIterable e env x = pure x
  mark : ∀ op, behindInMarks op e = false
structure Snd (X : Cx) (W : XK) (Γ : Gm) (e : Expr) (u : E) : Prop where
  pe : PE X e (Cx.tE X W Γ u)
  esc : PE X e (Cx.tE X W Γ (esc u))
  pt : PT X e (Cx.tT X W Γ u)
  pte : PT X e (Cx.tT X W Γ (Mi.esc u))
  lv : PE X e (Cx.tE X W Γ (lvE u))
theorem cE_shp {c : CE} : ∀ {n : Nat} {e : Expr} {u : E}, cE c n e = some u → Shp e
  | 0, _, _, h => by cases h
  | n + 1, e, u, h => by
    cases e
    case Starred => cases h
    case Set => cases h
    case Slice => cases h
    all_goals exact ⟨trivial, fun _ _ => rfl, fun _ _ => rfl, fun _ => rfl⟩
section
variable {X : Cx} {c : CE} {Γ : Gm} {W : XK}
theorem Snd.of {e : Expr} {u : E} (h : PE X e (Cx.tE X W Γ u)) (t : PT X e (Cx.tT X W Γ u)) (hn : Mi.esc u = u ∧ lvE u = u) : Snd X W Γ e u :=
  ⟨h, by rw [hn.1]; exact h, t, by rw [hn.1]; exact t, by rw [hn.2]; exact h⟩
theorem Snd.plain {e : Expr} {u : E} (h : PE X e (Cx.tE X W Γ u)) (he : ∀ whole, isTrue e X.env whole = (do let v ← whole; standAt e.pos; holding [v] (truthy v))) (hn : Mi.esc u = u ∧ lvE u = u) : Snd X W Γ e u :=
  .of h (pt_of h he) hn
abbrev SubOk (X : Cx) (W : XK) (Γ : Gm) (f : Expr → Option E) : Prop := ∀ a u, f a = some u → Snd X W Γ a u ∧ Shp a
theorem cArgs_T {f : Expr → Option E} (hf : SubOk X W Γ f) : ∀ {es : List Expr} {ee : E}, cArgs f es = some ee → PA X es (Cx.tEs X W Γ ee) ∧ (∀ e ∈ es, NoStar e) ∧ (es = [] → ee = .nil)
  | [], ee, h => by cases h; exact ⟨pa_nilT, ⟨fun e z => (nomatch z), fun _ => rfl⟩⟩
  | a :: r, ee, h => by
    simp only [cArgs, Option.bind_eq_some_iff, Option.map_eq_some_iff] at h
    obtain ⟨u, h1, us, h2, h5⟩ := h
    cases h5
    obtain ⟨s1, sh⟩ := hf a u h1
    obtain ⟨r1, r2, _⟩ := cArgs_T hf h2
    exact ⟨pa_consT (star_cons sh.star r X.env) s1.pe r1, fun e he => (List.mem_cons.mp he).elim (fun z => z ▸ sh.star) (r2 e), fun z => nomatch z⟩
theorem cArgs_K {f : Expr → Option E} (hf : SubOk X W Γ f) : ∀ {es : List Expr} {ee : E}, cArgs (fun e => keepE (f e)) es = some ee → PA X es (Cx.tKs X W Γ ee)
  | [], ee, h => by cases h; exact pa_nilK
  | a :: r, ee, h => by
    simp only [cArgs, Option.bind_eq_some_iff, Option.map_eq_some_iff] at h
    obtain ⟨u, h1, us, h2, h5⟩ := h
    cases h5
    simp only [keepE, Option.bind_eq_some_iff] at h1
    obtain ⟨v, h3, h4⟩ := h1
    split at h4
    · rename_i hk
      cases h4
      obtain ⟨s1, sh⟩ := hf a v h3
      exact pa_consK (star_cons sh.star r X.env) hk s1.esc (cArgs_K hf h2)
    · cases h4
theorem cCall_ok (g : Gd X c Γ W) {f : Expr → Option E} (hf : SubOk X W Γ f) {x : Str} {p pos : Pos} {args : List Expr} {u : E} (h : cCall c f x args = some u) :
    PE X (.Call (.Name x p) args [] pos) (Cx.tE X W Γ u) ∧ Mi.esc u = u ∧ lvE u = u := by
  unfold cCall at h
  split at h
  case isFalse => cases h
  case isTrue hx =>
  have hG := g.isG hx.1
  split at h
  · rename_i k y q r hfn
    simp only [Option.bind_eq_some_iff, Option.map_eq_some_iff] at h
    obtain ⟨j, hj, es, he, rfl⟩ := h
    obtain ⟨fs, h1, h2, h3⟩ := g.fns x k 1 hfn
    cases fs with
    | cupd m fr P =>
      obtain ⟨a1, a2, _⟩ := cArgs_T hf he
      exact ⟨pe_callC' g hG hx.2 h1 h3 hj a1 a2, rfl, rfl⟩
    | pure => cases h2
    | scr => cases h2
  · rename_i k hfn
    simp only [Option.map_eq_some_iff] at h
    obtain ⟨es, he, rfl⟩ := h
    obtain ⟨fs, h1, h2, h3⟩ := g.fns x k 0 hfn
    cases fs with
    | pure m fr P =>
      obtain ⟨a1, a2, a3⟩ := cArgs_T hf he
      exact ⟨pe_callP g hG hx.2 h1 h3 a1 a2 a3, rfl, rfl⟩
    | cupd => cases h2
    | scr => cases h2
  · rename_i k y q hfn
    simp only [Option.map_eq_some_iff] at h
    obtain ⟨j, hj, rfl⟩ := h
    obtain ⟨fs, h1, h2, h3⟩ := g.fns x k 2 hfn
    cases fs with
    | scr P => exact ⟨pe_callS' g hG hx.2 h1 h3 hj, rfl, rfl⟩
    | cupd => cases h2
    | pure => cases h2
  · cases h
  · rename_i a hfn
    have b1 : ∀ {a : Expr}, (bi1 x).bind (fun b => (f a).map fun e => E.b1 b e) = some u → PE X (.Call (.Name x p) [a] [] pos) (Cx.tE X W Γ u) ∧ Mi.esc u = u ∧ lvE u = u := by
      intro a h
      simp only [Option.bind_eq_some_iff, Option.map_eq_some_iff] at h
      obtain ⟨b, hb, e, he, rfl⟩ := h
      obtain ⟨s1, sh⟩ := hf _ _ he
      exact ⟨pe_b1 g hG hb s1.pe sh.star, rfl, rfl⟩
    split at h
    · rename_i y q
      split at h
      · rename_i hxy
        obtain ⟨rfl, rfl⟩ := hxy
        simp only [Option.map_eq_some_iff] at h
        obtain ⟨j, hj, rfl⟩ := h
        exact ⟨pe_lscr g hG hj, rfl, rfl⟩
      · exact b1 h
    · exact b1 h
  · rename_i a b hfn
    split at h
    · rename_i e
      subst e
      simp only [Option.bind_eq_some_iff, Option.map_eq_some_iff] at h
      obtain ⟨v1, h1, v2, h2, rfl⟩ := h
      obtain ⟨s1, sh1⟩ := hf _ _ h1
      obtain ⟨s2, sh2⟩ := hf _ _ h2
      exact ⟨pe_max2' g hG s1.pe s2.pe sh1.star sh2.star, rfl, rfl⟩
    · split at h
      · rename_i e
        subst e
        simp only [Option.bind_eq_some_iff, Option.map_eq_some_iff] at h
        obtain ⟨v1, h1, v2, h2, rfl⟩ := h
        obtain ⟨s1, sh1⟩ := hf _ _ h1
        obtain ⟨s2, sh2⟩ := hf _ _ h2
        exact ⟨pe_min2' g hG s1.pe s2.pe sh1.star sh2.star, rfl, rfl⟩
      · split at h
        · rename_i e
          subst e
          split at h
          · rename_i t q
            split at h
            · rename_i ht
              simp only [Option.bind_eq_some_iff, Option.map_eq_some_iff] at h
              obtain ⟨ty, h1, v1, h2, rfl⟩ := h
              obtain ⟨s1, sh1⟩ := hf _ _ h2
              exact ⟨pe_isi' g hG (g.isG ht) h1 s1.pe sh1.star, rfl, rfl⟩
            · cases h
          · cases h
        · cases h
  · cases h
theorem pt_ite' {t a b : Expr} {et ea eb : E} {pos : Pos} (ht : PT X t (Cx.tT X W Γ et)) (ha : PT X a (Cx.tT X W Γ ea)) (hb : PT X b (Cx.tT X W Γ eb)) : PT X (.IfExp t a b pos) (Cx.tT X W Γ (.ite et ea eb)) := by
  have h0 : PT X (.IfExp t a b pos) (fun σ H Q => Cx.tT X W Γ et σ H fun d H1 => if d = true then Cx.tT X W Γ ea σ H1 Q else Cx.tT X W Γ eb σ H1 Q) := by
    refine ⟨fun pins s σ H Q I h => ?_⟩
    show wpAny _ _ (isTrue t X.env (eval t X.env) >>= fun d => if d = true then isTrue a X.env (eval a X.env) else isTrue b X.env (eval b X.env)) _ _ _
    refine wpAny_bind (thn (ht.run pins s σ H _ I h) fun d s1 ⟨H1, I1, q1⟩ => ?_)
    cases d with
    | true => exact ha.run pins s1 σ H1 Q I1 q1
    | false => exact hb.run pins s1 σ H1 Q I1 q1
  refine PT.imp h0 fun σ H Q ⟨w, s, h⟩ => ?_
  simp only [ev] at h
  have e : ∀ c, bnd (bnd (ev Γ et w.ρ) fun u => bnd (opt (ofB u)) fun r => if r = true then ev Γ ea w.ρ else ev Γ eb w.ρ) (fun u => opt (ofB u)) c = bnd (bnd (ev Γ et w.ρ) fun u => opt (ofB u)) (fun r => bnd (if r = true then ev Γ ea w.ρ else ev Γ eb w.ρ) fun u => opt (ofB u)) c := fun c => by
    unfold bnd
    cases ev Γ et w.ρ c with
    | ok u c' =>
      dsimp only
      cases ofB u with
      | none => rfl
      | some b => cases b <;> rfl
    | exc x c' => rfl
    | bad => rfl
  refine ⟨w, s, (h.of_eq (e _)).bnd.imp fun r c1 H1 n1 k1 => ?_⟩
  have s1 := n1.sr s
  cases r with
  | true => exact ⟨w.at c1, s1, k1⟩
  | false => exact ⟨w.at c1, s1, k1⟩
theorem cAnd_ok {f : Expr → Option E} (hf : SubOk X W Γ f) {pos : Pos} : ∀ {vs : List Expr} {u : E}, cAnd f vs = some u → (PE X (.BoolOp .And vs pos) (Cx.tE X W Γ u) ∧ PW X (.BoolOp .And vs pos) (Cx.tT X W Γ u)) ∧ ((∃ a, vs = [a]) ∨ (Mi.esc u = u ∧ lvE u = u))
  | [], _, h => by cases h
  | [a], u, h => ⟨⟨pe_one (hf a u h).1.pe, pw_and1 (hf a u h).1.pt⟩, .inl ⟨a, rfl⟩⟩
  | a :: b :: r, u, h => by
    simp only [cAnd, Option.bind_eq_some_iff] at h
    obtain ⟨x, h1, y, h2, h3⟩ := h
    cases h3
    have i := cAnd_ok hf (pos := pos) h2
    exact ⟨⟨pe_and' (hf a x h1).1.pe i.1.1, pw_and' (hf a x h1).1.pt i.1.2⟩, .inr ⟨rfl, rfl⟩⟩
theorem cOr_ok {f : Expr → Option E} (hf : SubOk X W Γ f) {pos : Pos} : ∀ {vs : List Expr} {u : E}, cOr f vs = some u → (PE X (.BoolOp .Or vs pos) (Cx.tE X W Γ u) ∧ PW X (.BoolOp .Or vs pos) (Cx.tT X W Γ u)) ∧ ((∃ a, vs = [a]) ∨ (Mi.esc u = u ∧ lvE u = u))
  | [], _, h => by cases h
  | [a], u, h => ⟨⟨pe_one (hf a u h).1.pe, pw_or1 (hf a u h).1.pt⟩, .inl ⟨a, rfl⟩⟩
  | a :: b :: r, u, h => by
    simp only [cOr, Option.bind_eq_some_iff] at h
    obtain ⟨x, h1, y, h2, h3⟩ := h
    cases h3
    have i := cOr_ok hf (pos := pos) h2
    exact ⟨⟨pe_or' (hf a x h1).1.pe i.1.1, pw_or' (hf a x h1).1.pt i.1.2⟩, .inr ⟨rfl, rfl⟩⟩
theorem cOpt_ok {f : Expr → Option E} (hf : SubOk X W Γ f) {o : Option Expr} {b : Bool} {u : E} (h : cOpt f o = some (b, u)) : PO X o (tOpt X.K X.mg W Γ b u) := by
  cases o with
  | none => cases h; exact po_non
  | some a =>
    simp only [cOpt, Option.map_eq_some_iff] at h
    obtain ⟨v, h1, h2⟩ := h
    cases h2
    exact po_som (hf a _ h1).1.pe
/-- what a for walks -/
theorem cI_ok (g : Gd X c Γ W) {f : Expr → Option E} (hf : SubOk X W Γ f) {it tg : Expr} {i : E} {fl : Bool} (h : cI c f it = some i) (hp : pairy i fl = true) (ht : fl = false → ∃ es k p, tg = .Tuple es k p) :
    PI X tg it (tI X.K X.mg W Γ true i) ∧ (walkOk Γ (lvI i) = true → PI X tg it (tI X.K X.mg W Γ false (lvI i))) := by
  have seq : ∀ {a : Expr}, (f a).map E.iseq = some i → PI X tg a (tI X.K X.mg W Γ true i) ∧ (walkOk Γ (lvI i) = true → PI X tg a (tI X.K X.mg W Γ false (lvI i))) := by
    intro a h
    simp only [Option.map_eq_some_iff] at h
    obtain ⟨u, h1, rfl⟩ := h
    exact ⟨pi_iseq (hf _ _ h1).1.pe (.inl rfl), fun hw => pi_iseq (hf _ _ h1).1.lv (.inr hw)⟩
  unfold cI at h
  split at h
  · rename_i x p args q
    split at h
    · rename_i hx
      have hG := g.isG hx.1
      split at h
      · rename_i a
        split at h
        · rename_i e
          subst e
          simp only [Option.map_eq_some_iff] at h
          obtain ⟨u, h1, rfl⟩ := h
          obtain ⟨s1, sh1⟩ := hf _ _ h1
          exact ⟨pi_rng1' g hG s1.pe sh1.star, fun _ => pi_rng1' g hG s1.pe sh1.star⟩
        · split at h
          · rename_i e
            subst e
            simp only [Option.map_eq_some_iff] at h
            obtain ⟨u, h1, rfl⟩ := h
            obtain ⟨s1, sh1⟩ := hf _ _ h1
            cases fl with
            | true => cases hp
            | false =>
              obtain ⟨es, k, p', rfl⟩ := ht rfl
              exact ⟨pi_enum' g hG s1.pe sh1.star (.inl rfl), fun hw => pi_enum' g hG s1.lv sh1.star (.inr hw)⟩
          · exact seq h
      · rename_i a b
        split at h
        · rename_i e
          subst e
          simp only [Option.bind_eq_some_iff, Option.map_eq_some_iff] at h
          obtain ⟨u, h1, v, h2, rfl⟩ := h
          obtain ⟨s1, sh1⟩ := hf _ _ h1
          obtain ⟨s2, sh2⟩ := hf _ _ h2
          exact ⟨pi_rng2' g hG s1.pe s2.pe sh1.star sh2.star, fun _ => pi_rng2' g hG s1.pe s2.pe sh1.star sh2.star⟩
        · split at h
          · rename_i e
            subst e
            simp only [Option.bind_eq_some_iff, Option.map_eq_some_iff] at h
            obtain ⟨u, h1, v, h2, rfl⟩ := h
            obtain ⟨s1, sh1⟩ := hf _ _ h1
            obtain ⟨s2, sh2⟩ := hf _ _ h2
            cases fl with
            | true => cases hp
            | false =>
              obtain ⟨es, k, p', rfl⟩ := ht rfl
              refine ⟨pi_zip' g hG s1.pe s2.pe sh1.star sh2.star (.inl rfl), fun hw => pi_zip' g hG s1.lv s2.lv sh1.star sh2.star (.inr ?_)⟩
              have hw : ((cl Γ (lvE u)).walk && (cl Γ (lvE v)).walk) = true := hw
              rw [Bool.and_eq_true] at hw
              exact hw
          · cases h
      · rename_i a b d
        split at h
        · rename_i e
          subst e
          simp only [Option.bind_eq_some_iff, Option.map_eq_some_iff] at h
          obtain ⟨u, h1, v, h2, z, h3, rfl⟩ := h
          obtain ⟨s1, sh1⟩ := hf _ _ h1
          obtain ⟨s2, sh2⟩ := hf _ _ h2
          obtain ⟨s3, sh3⟩ := hf _ _ h3
          exact ⟨pi_rng3' g hG s1.pe s2.pe s3.pe sh1.star sh2.star sh3.star, fun _ => pi_rng3' g hG s1.pe s2.pe s3.pe sh1.star sh2.star sh3.star⟩
        · cases h
      · cases h
    · exact seq h
  · exact seq h
/-! ### a block -/
theorem lookup_blk {env : Env} {x : Str} : ∀ {names : List (Str × NameKind)} {k : NameKind}, names.lookup x = some k →
    ∃ k', (names.map fun (n, k) => if (k == NameKind.free && env.scope.kind == .function && env.kindOf n == some .cell) then (n, NameKind.cell) else (n, k)).lookup x = some k' ∧ (k' = k ∨ (k = .free ∧ k' = .cell))
  | [], _, h => by cases h
  | (n, k₀) :: r, k, h => by
    show ∃ k', List.lookup x ((if (k₀ == NameKind.free && env.scope.kind == .function && env.kindOf n == some .cell) = true then (n, NameKind.cell) else (n, k₀)) :: (r.map _)) = some k' ∧ _
    cases hx : x == n with
    | true =>
      simp only [List.lookup_cons, hx] at h
      cases h
      by_cases hc : (k₀ == NameKind.free && env.scope.kind == .function && env.kindOf n == some .cell) = true
      · rw [if_pos hc]
        simp only [List.lookup_cons, hx]
        simp only [Bool.and_eq_true, beq_iff_eq] at hc
        exact ⟨_, rfl, .inr ⟨hc.1.1, rfl⟩⟩
      · rw [if_neg hc]
        simp only [List.lookup_cons, hx]
        exact ⟨_, rfl, .inl rfl⟩
    | false =>
      simp only [List.lookup_cons, hx] at h
      by_cases hc : (k₀ == NameKind.free && env.scope.kind == .function && env.kindOf n == some .cell) = true
      · rw [if_pos hc]; simp only [List.lookup_cons, hx]; exact lookup_blk h
      · rw [if_neg hc]; simp only [List.lookup_cons, hx]; exact lookup_blk h
theorem Gd.blk (g : Gd X c Γ W) (s : Shared) (H : Hp) (scope : Scope) (cl : List (Str × Addr)) (C : Addr) (fp : List Addr) :
    Gd (X.blk s H scope (compEnvC scope cl C X.env) fp) { c with sc := scope } Γ Fls where
  N := g.N
  nd := g.nd
  calm := g.calm
  sc := fun x k h => lookup_blk h
  bt := g.bt
  gi := g.gi
  tk := fun _ _ ⟨_, _, _, _, _, _, _, _, _, _, _, _, _, _, _, _, w⟩ => w.elim
  un := g.un
  fns := fun x k j h => let ⟨fs, h1, h2, h3⟩ := g.fns x k j h; ⟨fs, h1, h2, ⟨h3.ex⟩⟩
/-- what a written name may be stored in -/
theorem names_pg {X : Cx} (hN : X.N.Nodup) {f : Str → Option Nat} (hf : ∀ x i, f x = some i → X.N[i]? = some x ∧ Loc X.env.scope x ∧ (X.fn x = true ∨ X.env.scope.names.lookup x = some .local)) :
    ∀ {es : List Expr} {is : List Nat}, names f es = some is → PGs X es (gNames is) ∧ es.length = is.length ∧ (assignEach es X.env).length = es.length ∧ (assignEach es X.env).findIdx? (·.1) = none
  | [], is, h => by cases h; exact ⟨pgs_nil, rfl, rfl, rfl⟩
  | e :: r, is, h => by
    unfold names at h
    split at h
    · cases ‹_ :: _ = []›
    · rename_i x p r' e1
      cases e1
      simp only [Option.bind_eq_some_iff, Option.map_eq_some_iff] at h
      obtain ⟨i, h1, is, h2, rfl⟩ := h
      obtain ⟨a1, a2, a3⟩ := hf x i h1
      obtain ⟨i1, i2, i3, i4⟩ := names_pg hN hf h2
      refine ⟨pgs_cons (pg_name hN a1 a2 a3) i1 rfl, by simp [i2], ?_, ?_⟩
      · show ((false, assign (.Name x p) X.env) :: assignEach r X.env).length = _
        simp [i3]
      · show ((false, assign (.Name x p) X.env) :: assignEach r X.env).findIdx? (·.1) = none
        simp [List.findIdx?_cons, i4]
    · cases h
theorem cT_pg {X : Cx} (hc : X.calm = true) (hN : X.N.Nodup) {f : Str → Option Nat} (hf : ∀ x i, f x = some i → X.N[i]? = some x ∧ Loc X.env.scope x ∧ (X.fn x = true ∨ X.env.scope.names.lookup x = some .local))
    {tg : Expr} {is : List Nat} {fl : Bool} (h : cT f tg = some (is, fl)) : PG X tg (tG X.K fl is) ∧ (fl = false → ∃ es k p, tg = .Tuple es k p) := by
  unfold cT at h
  split at h
  · simp only [Option.map_eq_some_iff] at h
    obtain ⟨i, h1, h2⟩ := h
    cases h2
    obtain ⟨a1, a2, a3⟩ := hf _ i h1
    exact ⟨pg_name hN a1 a2 a3, fun z => nomatch z⟩
  · simp only [Option.map_eq_some_iff] at h
    obtain ⟨is', h1, h2⟩ := h
    cases h2
    obtain ⟨i1, i2, i3, i4⟩ := names_pg hN hf h1
    refine ⟨?_, fun _ => ⟨_, _, _, rfl⟩⟩
    have : ∀ is : List Nat, tG X.K false is = gTup X.K is.length (gNames is) := fun is => by unfold tG; cases is <;> rfl
    rw [this]
    exact pg_tup hc i1 (by rw [i3, i2]) i4
  · cases h
theorem blk_store (g : Gd X c Γ W) (s : Shared) (H : Hp) (scope : Scope) (cl : List (Str × Addr)) (C : Addr) (fp : List Addr) {x : Str} {i : Nat} (h : slotW { c with sc := scope } x = some i) :
    (X.blk s H scope (compEnvC scope cl C X.env) fp).N[i]? = some x ∧ Loc (X.blk s H scope (compEnvC scope cl C X.env) fp).env.scope x ∧ ((X.blk s H scope (compEnvC scope cl C X.env) fp).fn x = true ∨ (X.blk s H scope (compEnvC scope cl C X.env) fp).env.scope.names.lookup x = some .local) := by
  have g' := g.blk s H scope cl C fp
  obtain ⟨h1, h2⟩ := g'.slotW h
  refine ⟨h1, h2, ?_⟩
  unfold Mi.slotW at h
  split at h
  · rename_i k hk
    split at h
    · rename_i hc
      have hk : scope.names.lookup x = some k := hk
      obtain ⟨k', hk', hkk⟩ := g'.sc x k hk
      cases k with
      | «local» =>
        rcases hkk with rfl | ⟨z, _⟩
        · exact .inr hk'
        · cases z
      | cell =>
        refine .inl ?_
        show (scope.names.lookup x == some .cell) = true
        rw [hk]; rfl
      | free => cases hc
      | globalExplicit => cases hc
      | globalImplicit => cases hc
    · cases h
  · cases h
theorem Gd.blkOk (g : Gd X c Γ W) {scope : Scope} {own : List (Str × Nat)} (h : blkC c.N c.sc scope own = true) : BlkOk X.N X.env.scope scope own := by
  have b := blkOk_by h
  refine ⟨b.kind, b.uniq, by rw [g.N]; exact b.ix, fun y hy e => ?_, by rw [g.N]; exact b.own⟩
  rcases b.free y hy e with q | q
  · obtain ⟨k', h1, h2⟩ := g.sc _ _ q
    rcases h2 with rfl | ⟨z, _⟩
    · exact .inl h1
    · cases z
  · obtain ⟨k', h1, h2⟩ := g.sc _ _ q
    rcases h2 with rfl | ⟨_, rfl⟩
    · exact .inr h1
    · exact .inl h1
end
end Mi

/-! M13.lean -/
namespace Mi
open PySem PySem.Spec PyProof.Rows L2
/-- a comprehension: as a value, as what a local is set to on one line -/
theorem comp_ok {X : Cx} {c : CE} {Γ : Gm} {W : XK} (g : Gd X c Γ W) {f f' : Expr → Option E} {elt tg it : Expr} {ifs : List Expr} {scope : Scope} {pos : Pos} {i : E} {t : List Nat × Bool} {u v : E} {b : Bool} (hf : SubOk X W Γ f)
    (hf' : ∀ (s : Shared) (H : Hp) (C : Addr) (cl : List (Str × Addr)) (fp : List Addr), SubOk (X.blk s H scope (compEnvC scope cl C X.env) fp) Fls Γ f')
    (hb : blkC c.N c.sc scope (ownOf c.N scope.names) = true) (hi : cI c f it = some i) (ht : cT (slotW { c with sc := scope }) tg = some t) (hu : keepE (f' elt) = some u) (hp : pairy i t.2 = true) (hs : (t.1.all fun j => ((ownOf c.N scope.names).map (·.2)).contains j) = true)
    (hc : (ifs = [] ∧ b = false) ∨ ∃ d, ifs = [d] ∧ b = true ∧ f' d = some v) :
    PE X (.ListComp elt [⟨tg, it, ifs, 0⟩] scope pos) (Cx.tE X W Γ (.comp ((ownOf c.N scope.names).map (·.2)) t.1 t.2 i b v u)) ∧
    ∀ {i0 : Nat} {y : Str} {py : Pos} {spos : Pos}, X.N[i0]? = some y → X.env.scope.names.lookup y = some .local → swapsWith (.ListComp elt [⟨tg, it, ifs, 0⟩] scope pos) (some (.Name y py)) spos.line X.env = pure true →
      PS X (.Assign [.Name y py] (.ListComp elt [⟨tg, it, ifs, 0⟩] scope pos) spos) (tAsg (Cx.tE X W Γ (.comp ((ownOf c.N scope.names).map (·.2)) t.1 t.2 i b v u)) (gName i0)) := by
  have hfold : ∀ x, foldedSetIterable it X.env x = pure x := by
    intro x
    cases it with
    | Set elts k p =>
      unfold cI at hi
      simp only [Option.map_eq_some_iff] at hi
      obtain ⟨z, h1, _⟩ := hi
      exact ((hf _ _ h1).2.fold _ _)
    | _ => rfl
  simp only [keepE, Option.bind_eq_some_iff] at hu
  obtain ⟨z, h3, h4⟩ := hu
  split at h4
  case isFalse => cases h4
  case isTrue hk =>
  cases h4
  have htup : t.2 = false → ∃ es k p, tg = .Tuple es k p := by
    intro e
    unfold cT at ht
    split at ht
    · simp only [Option.map_eq_some_iff] at ht
      obtain ⟨_, _, h2⟩ := ht
      rw [← h2] at e; cases e
    · exact ⟨_, _, _, rfl⟩
    · cases ht
  refine pe_comp g.calm g.nd (cI_ok g hf hi hp htup).1 (g.blkOk hb) (fun s H C cl fp => (cT_pg (g.blk s H scope cl C fp).calm (g.blk s H scope cl C fp).nd (fun x j hx => blk_store g s H scope cl C fp hx) ht).1) (fun s H C cl fp => ?_) (fun s H C cl fp => (hf' s H C cl fp _ _ h3).1.esc) hk (fun j hj => ?_) hfold
  · rcases hc with ⟨rfl, rfl⟩ | ⟨d, rfl, rfl, hd⟩
    · exact pts_nil
    · exact pts_one (hf' s H C cl fp _ _ hd).1.pt
  · have := List.all_eq_true.mp hs j hj
    exact List.contains_iff_mem.mp this
theorem cCall_nv {c : CE} {f : Expr → Option E} {x : Str} {args : List Expr} {j : Nat} (h : cCall c f x args = some (.var j)) : False := by
  unfold cCall at h
  have b1 : ∀ {a : Expr}, (bi1 x).bind (fun b => (f a).map fun e => E.b1 b e) = some (.var j) → False := by
    intro a h
    simp [Option.bind_eq_some_iff] at h
  repeat' (first | exact b1 h | (cases h; done) | (simp [Option.bind_eq_some_iff] at h; done) | split at h)
theorem cE_var {c : CE} : ∀ {n : Nat} {e : Expr} {j : Nat}, cE c n e = some (.var j) → ∃ y q, e = .Name y q ∧ slot c y = some j
  | 0, _, _, h => by cases h
  | n + 1, e, j, h => by
    unfold cE at h
    split at h
    · split at h
      · cases h; exact ⟨_, _, rfl, by assumption⟩
      · split at h
        · simp only [Option.map_eq_some_iff, reduceCtorEq, and_false, exists_false] at h
        · cases h
    all_goals first
      | (cases h; done)
      | exact (cCall_nv h).elim
      | (simp only [cAnd, cOr, Option.bind_eq_some_iff, Option.map_eq_some_iff, Option.some.injEq, reduceCtorEq, and_false, exists_false] at h; done)
      | skip
    rename_i elt tg it ifs scope p
    by_cases hb : blkC c.N c.sc scope (ownOf c.N scope.names) = true
    case neg => simp only [if_neg hb] at h; cases h
    simp only [if_pos hb, Option.bind_eq_some_iff] at h
    obtain ⟨i, hi, t, ht, u', hu, h⟩ := h
    split at h
    case isFalse => cases h
    split at h
    · cases h
    · simp only [Option.map_eq_some_iff, reduceCtorEq, and_false, exists_false] at h
    · cases h
theorem cE_ok {Γ : Gm} : ∀ {n : Nat} {X : Cx} {c : CE} {W : XK} {e : Expr} {u : E}, Gd X c Γ W → cE c n e = some u → Snd X W Γ e u
  | 0, _, _, _, _, _, _, h => by cases h
  | n + 1, X, c, W, e, u, g, h => by
    have hf : SubOk X W Γ (cE c n) := fun a v hv => ⟨cE_ok g hv, cE_shp hv⟩
    unfold cE at h
    split at h
    · rename_i x p
      split at h
      · rename_i i hi
        cases h
        have h1 := pe_v (Γ := Γ) g (pos := p) hi
        have h2 := pe_ev (Γ := Γ) g (pos := p) hi
        exact ⟨h1, h2, pt_of h1 fun _ => rfl, pt_of h2 fun _ => rfl, pe_lv g hi⟩
      · split at h
        · rename_i hx
          simp only [Option.map_eq_some_iff] at h
          obtain ⟨i, h1, rfl⟩ := h
          obtain ⟨t, ht⟩ := g.gi x i h1
          exact .plain (pe_con (u := .int i) (pe_glob (v := .int i) (g.isG hx.1) ht ⟨t, rfl⟩ hx.2) rfl) (fun _ => rfl) ⟨rfl, rfl⟩
        · cases h
    · cases h; exact .plain (pe_con (u := .int _) pe_int rfl) (fun _ => rfl) ⟨rfl, rfl⟩
    · cases h; exact .plain (pe_con (u := .bl _) pe_bl rfl) (fun _ => rfl) ⟨rfl, rfl⟩
    · cases h; exact .plain (pe_con (u := .non) pe_non rfl) (fun _ => rfl) ⟨rfl, rfl⟩
    · cases h; exact .plain (pe_con (u := .str _) pe_str rfl) (fun _ => rfl) ⟨rfl, rfl⟩
    · simp only [Option.bind_eq_some_iff, Option.map_eq_some_iff] at h
      obtain ⟨o, ho, v1, h1, v2, h2, rfl⟩ := h
      exact .plain (pe_bin g ho (cE_ok g h1).pe (cE_ok g h2).pe) (fun _ => rfl) ⟨rfl, rfl⟩
    · simp only [Option.map_eq_some_iff] at h
      obtain ⟨v1, h1, rfl⟩ := h
      exact .plain (pe_neg' (cE_ok g h1).pe) (fun _ => rfl) ⟨rfl, rfl⟩
    · simp only [Option.map_eq_some_iff] at h
      obtain ⟨v1, h1, rfl⟩ := h
      exact .of (pe_not' (cE_ok g h1).pe) (pt_not' (cE_ok g h1).pt) ⟨rfl, rfl⟩
    · simp only [Option.bind_eq_some_iff, Option.map_eq_some_iff] at h
      obtain ⟨o, ho, v1, h1, v2, h2, rfl⟩ := h
      exact .of (pe_cmp' g.un ho (cE_ok g h1).pe (cE_ok g h2).pe ((cE_shp h2).mark _)) (pt_cmp' g.un ho (cE_ok g h1).pe (cE_ok g h2).pe ((cE_shp h2).mark _)) ⟨rfl, rfl⟩
    · simp only [Option.bind_eq_some_iff, Option.map_eq_some_iff] at h
      obtain ⟨o, ho, o', ho', v1, h1, v2, h2, v3, h3, rfl⟩ := h
      exact .of (pe_cmp2' g.un ho ho' (cE_ok g h1).pe (cE_ok g h2).pe (cE_ok g h3).pe ((cE_shp h3).mark _)) (pt_cmp2' g.un ho ho' (cE_ok g h1).pe (cE_ok g h2).pe (cE_ok g h3).pe ((cE_shp h3).mark _)) ⟨rfl, rfl⟩
    · rename_i a b r p
      obtain ⟨⟨h1, h2⟩, h3⟩ := cAnd_ok hf (pos := p) h
      rcases h3 with ⟨a, h3⟩ | h3
      · cases h3
      · exact .of h1 h2.pt h3
    · rename_i a b r p
      obtain ⟨⟨h1, h2⟩, h3⟩ := cOr_ok hf (pos := p) h
      rcases h3 with ⟨a, h3⟩ | h3
      · cases h3
      · exact .of h1 h2.pt h3
    · simp only [Option.bind_eq_some_iff, Option.map_eq_some_iff] at h
      obtain ⟨v1, h1, v2, h2, v3, h3, rfl⟩ := h
      exact .of (pe_ite' (cE_ok g h1).pt (cE_ok g h2).esc (cE_ok g h3).esc) (pt_ite' (cE_ok g h1).pt (cE_ok g h2).pte (cE_ok g h3).pte) ⟨rfl, rfl⟩
    · simp only [Option.map_eq_some_iff] at h
      obtain ⟨v1, h1, rfl⟩ := h
      exact .plain (pe_tup' (cArgs_K hf h1)) (fun _ => rfl) ⟨rfl, rfl⟩
    · simp only [Option.map_eq_some_iff] at h
      obtain ⟨v1, h1, rfl⟩ := h
      exact .plain (pe_lst' (cArgs_K hf h1)) (fun _ => rfl) ⟨rfl, rfl⟩
    · obtain ⟨h1, h2⟩ := cCall_ok g hf h
      exact .plain h1 (fun _ => rfl) h2
    · simp only [Option.map_eq_some_iff] at h
      obtain ⟨v1, h1, rfl⟩ := h
      exact .plain (pe_rev' (cE_ok g h1).pe) (fun _ => rfl) ⟨rfl, rfl⟩
    · simp only [Option.bind_eq_some_iff, Option.map_eq_some_iff] at h
      obtain ⟨v1, h1, l, h2, hh, h3, rfl⟩ := h
      exact .plain (pe_slc' (cE_ok g h1).pe (cOpt_ok hf h2) (cOpt_ok hf h3)) (fun _ => rfl) ⟨rfl, rfl⟩
    · rename_i a i p _ _
      simp only [Option.bind_eq_some_iff, Option.map_eq_some_iff] at h
      obtain ⟨v1, h1, v2, h2, rfl⟩ := h
      refine .plain ?_ (fun _ => rfl) ⟨rfl, rfl⟩
      by_cases hv : ∃ j, v1 = .var j
      · obtain ⟨j, rfl⟩ := hv
        obtain ⟨y, q, rfl, hy⟩ := cE_var h1
        exact pe_subV g hy (cE_ok g h2).pe (cE_shp h2).ix
      · refine pe_sub' (cE_ok g h1).pe (cE_ok g h2).pe (cE_shp h2).ix fun ρ => ?_
        cases v1 <;> first | rfl | exact absurd ⟨_, rfl⟩ hv
    · rename_i elt tg it ifs scope p
      by_cases hb : blkC c.N c.sc scope (ownOf c.N scope.names) = true
      case neg => simp only [if_neg hb] at h; cases h
      simp only [if_pos hb, Option.bind_eq_some_iff] at h
      obtain ⟨i, hi, t, ht, u', hu, h⟩ := h
      split at h
      case isFalse => cases h
      case isTrue hp =>
      have hf' : ∀ (s : Shared) (H : Hp) (C : Addr) (cl : List (Str × Addr)) (fp : List Addr), SubOk (X.blk s H scope (compEnvC scope cl C X.env) fp) Fls Γ (cE { c with sc := scope } n) := fun s H C cl fp a v hv => ⟨cE_ok (g.blk s H scope cl C fp) hv, cE_shp hv⟩
      split at h
      · cases h
        exact .plain (comp_ok g hf hf' hb hi ht hu hp.1 hp.2 (.inl ⟨rfl, rfl⟩)).1 (fun _ => rfl) ⟨rfl, rfl⟩
      · rename_i d
        simp only [Option.map_eq_some_iff] at h
        obtain ⟨v, hv, rfl⟩ := h
        exact .plain (comp_ok g hf hf' hb hi ht hu hp.1 hp.2 (.inr ⟨d, rfl, rfl, hv⟩)).1 (fun _ => rfl) ⟨rfl, rfl⟩
      · cases h
    · cases h
end Mi

/-! M14.lean -/
namespace Mi
open PySem PySem.Spec PyProof.Rows L2
/-! ### trees at an address -/
section
variable {B B' : Addr → Prop} {H : Hp}
mutual
theorem Rep.det : ∀ {u u' : U} {v : V}, Rep B H u v → Rep B' H u' v → u = u'
  | _, _, _, .non, r => by cases r; rfl
  | _, _, _, .bl b, r => by cases r; rfl
  | _, _, _, .int i, r => by cases r; rfl
  | _, _, _, .str s, r => by cases r; rfl
  | _, _, _, .tup h r, r' => by
    cases r' with
    | tup h' t => rw [h] at h'; cases h'; rw [Reps.det r t]
    | lst h' _ t => rw [h] at h'; cases h'
  | _, _, _, .lst h n r, r' => by
    cases r' with
    | tup h' t => rw [h] at h'; cases h'
    | lst h' _ t => rw [h] at h'; cases h'; rw [Reps.det r t]
theorem Reps.det : ∀ {us us' : List U} {vs : List V}, Reps B H us vs → Reps B' H us' vs → us = us'
  | _, _, _, .nil, r => by cases r; rfl
  | _, _, _, .cons r t, r' => by
    cases r' with
    | cons a b => rw [Rep.det r a, Reps.det t b]
end
mutual
theorem Rep.avoid {a : Addr} {us0 : List U} {vs0 : List V} (ha : H a = some (.lst vs0)) (h0 : Reps B H us0 vs0) : ∀ {u : U} {v : V}, Rep B H u v → sizeOf u ≤ sizeOf us0 → Rep (fun b => B b ∨ b = a) H u v
  | _, _, .non, _ => .non
  | _, _, .bl b, _ => .bl b
  | _, _, .int i, _ => .int i
  | _, _, .str s, _ => .str s
  | _, _, .tup h r, z => .tup h (Reps.avoid ha h0 r (by simp at z; omega))
  | _, _, .lst h n r, z => by
    simp at z
    refine .lst h (fun q => q.elim n fun e => ?_) (Reps.avoid ha h0 r (by omega))
    subst e
    rw [ha] at h; cases h
    rw [Reps.det r h0] at z
    omega
theorem Reps.avoid {a : Addr} {us0 : List U} {vs0 : List V} (ha : H a = some (.lst vs0)) (h0 : Reps B H us0 vs0) : ∀ {us : List U} {vs : List V}, Reps B H us vs → sizeOf us ≤ sizeOf us0 → Reps (fun b => B b ∨ b = a) H us vs
  | _, _, .nil, _ => .nil
  | _, _, .cons r t, z => .cons (Rep.avoid ha h0 r (by simp at z; omega)) (Reps.avoid ha h0 t (by simp at z; omega))
end
end
theorem set_at {α : Type} {l : List α} {i j : Nat} {x y : α} (h : (l.set i x)[j]? = some y) : (j = i ∧ i < l.length ∧ y = x) ∨ (j ≠ i ∧ l[j]? = some y) := by
  by_cases e : i = j
  · subst e
    by_cases hi : i < l.length
    · rw [List.getElem?_set_self hi] at h; cases h
      exact .inl ⟨rfl, hi, rfl⟩
    · rw [List.getElem?_eq_none (by simp; omega)] at h; cases h
  · rw [List.getElem?_set_ne e] at h
    exact .inr ⟨fun z => e z.symm, h⟩
/-! ### how a state goes on -/
structure Tr (w w' : Wd) : Prop where
  b : w'.B0 = w.B0
  h : w'.H0 = w.H0
  hb : w'.Hb = w.Hb
  ac : w'.ac = w.ac ∨ (w.ac = none ∧ ∀ a, w'.ac = some a → w.H0 a = none)
theorem Tr.refl {w : Wd} : Tr w w := ⟨rfl, rfl, rfl, .inl rfl⟩
theorem Tr.trans {w w' w2 : Wd} (a : Tr w w') (b : Tr w' w2) : Tr w w2 := by
  refine ⟨b.b.trans a.b, b.h.trans a.h, b.hb.trans a.hb, ?_⟩
  rcases a.ac with e | ⟨e, h⟩
  · rcases b.ac with e2 | ⟨e2, h2⟩
    · exact .inl (e2.trans e)
    · exact .inr ⟨e ▸ e2, by rw [← a.h]; exact h2⟩
  · rcases b.ac with e2 | ⟨e2, h2⟩
    · exact .inr ⟨e, by rw [e2]; exact h⟩
    · exact .inr ⟨e, by rw [← a.h]; exact h2⟩
section
variable {K : PySem.W.Frag} {w w' : Wd} {σ σ' : L2.St} {H H' H1 : Hp} {c : Cs} {k : Cl} {u : U} {v : V}
def Wd.put (w : Wd) (b : Bool) (i : Nat) (u : U) (v : V) (c : Cs) : Wd := match b, u, v with
  | true, .lst us, .ref a => { w with ρ := w.ρ.set i (some (.own us)), cs := c, β := fun j => if j = i then a else w.β j }
  | _, u, _ => { w with ρ := w.ρ.set i (some (.fr u)), cs := c }
structure PutOk (K : PySem.W.Frag) (w w' : Wd) (b : Bool) (i : Nat) (u : U) (v : V) (c : Cs) (σ : L2.St) (H1 : Hp) : Prop where
  sr : SR K w' (σ.set i (some v)) H1
  ρ : w'.ρ = puto w.ρ b i u
  cs : w'.cs = c
  tr : Tr w w'
  ac : w'.ac = w.ac
  blk : ∀ x, w'.blk x → w.blk x ∨ (b = true ∧ isLst u = true ∧ v = .ref x)
theorem SR.putfr (s : SR K w σ H) (n : Nx w H c H1) (r : Rep w.blk H1 u v) {i : Nat} : SR K { w with ρ := w.ρ.set i (some (.fr u)), cs := c } (σ.set i (some v)) H1 ∧ ∀ x, ({ w with ρ := w.ρ.set i (some (.fr u)), cs := c } : Wd).blk x → w.blk x := by
  have s1 := n.sr s
  have up := Up.put (B := (w.at c).blk) (H := H1) (i := i) s1.len r
  refine ⟨Up.sr s1 up, fun x h => ?_⟩
  rcases h with h | h | ⟨j, us, h, e⟩
  · exact .inl h
  · exact .inr (.inl h)
  · rcases set_at h with ⟨_, _, z⟩ | ⟨_, z⟩
    · cases z
    · exact .inr (.inr ⟨j, us, z, e⟩)
theorem SR.putown (s : SR K w σ H) (n : Nx w H c H1) {us : List U} {a : Addr} (r : Rep w.blk H1 (.lst us) (.ref a)) (ha : H a = none) {i : Nat} :
    SR K { w with ρ := w.ρ.set i (some (.own us)), cs := c, β := fun j => if j = i then a else w.β j } (σ.set i (some (.ref a))) H1 ∧ ∀ x, ({ w with ρ := w.ρ.set i (some (.own us)), cs := c, β := fun j => if j = i then a else w.β j } : Wd).blk x → w.blk x ∨ x = a := by
  have s1 := n.sr s
  have less : ∀ x, ({ w with ρ := w.ρ.set i (some (.own us)), cs := c, β := fun j => if j = i then a else w.β j } : Wd).blk x → w.blk x ∨ x = a := fun x h => by
    rcases h with h | h | ⟨j, us, h, e⟩
    · exact .inl (.inl h)
    · exact .inl (.inr (.inl h))
    · rcases set_at h with ⟨z, _, _⟩ | ⟨z, h⟩
      · right; rw [e, z]; exact if_pos rfl
      · left; refine .inr (.inr ⟨j, us, h, ?_⟩); rw [e]; exact if_neg z
  have hac : w.ac ≠ some a := fun z => by
    obtain ⟨_, e⟩ := s.acb z
    rw [ha] at e; cases e
  have nblk : ¬ w.blk a := fun z => by
    obtain ⟨_, e⟩ := s.blkLive z
    rw [ha] at e; cases e
  have kp : Kp w.blk ({ w with ρ := w.ρ.set i (some (.own us)), cs := c, β := fun j => if j = i then a else w.β j } : Wd).blk H H1 := ⟨fun b xs e nb => ⟨((n.kp s).l b xs e nb).1, fun z => (less b z).elim nb fun z => by rw [z, ha] at e; cases e⟩, (n.kp s).t⟩
  cases r with
  | @lst _ _ vs h nb rs =>
  have rs' := (Reps.avoid h rs rs (Nat.le_refl _)).mono (Kp.less less)
  refine ⟨⟨by simp [s.len], s1.base, s1.live, s1.hb, s1.acf, s1.cup, s1.nocup, fun j us' e => ?_, fun j j' us1 us2 e1 e2 e3 => ?_, fun j u' e => ?_, fun j u' e => ?_, fun j e => ?_, fun j us' e => ?_⟩, less⟩
  · rcases set_at e with ⟨z, hi, e0⟩ | ⟨z, e⟩
    · subst z
      cases e0
      have hb : (if j = j then a else w.β j) = a := if_pos rfl
      refine ⟨?_, ?_, ⟨?_, ?_⟩, vs, ?_, rs'⟩
      · show (σ.set j _)[j]? = some (some (.ref (if j = j then a else w.β j)))
        rw [hb, List.getElem?_set_self (by rw [← s.len]; exact hi)]
      · show w.H0 (if j = j then a else w.β j) = none
        rw [hb]
        cases q : w.H0 a with
        | none => rfl
        | some o => rw [s.base a o q hac] at ha; cases ha
      · show w.ac ≠ some (if j = j then a else w.β j)
        rw [hb]; exact hac
      · show ¬ w.B0 (if j = j then a else w.β j)
        rw [hb]; exact fun z => nblk (.inl z)
      · show H1 (if j = j then a else w.β j) = _
        rw [hb]; exact h
    · obtain ⟨h1, h2, h3, vs', h4, h5⟩ := s.own j us' e
      have hb : (if j = i then a else w.β j) = w.β j := if_neg z
      show (σ.set i _)[j]? = some (some (.ref (if j = i then a else w.β j))) ∧ w.H0 (if j = i then a else w.β j) = none ∧ (w.ac ≠ some (if j = i then a else w.β j) ∧ ¬ w.B0 (if j = i then a else w.β j)) ∧ ∃ vs, H1 (if j = i then a else w.β j) = some (.lst vs) ∧ _
      rw [hb, List.getElem?_set_ne (fun q => z q.symm)]
      exact ⟨h1, h2, h3, vs', n.k _ _ h4 h3.1, h5.mono kp⟩
  · have e3 : (if j = i then a else w.β j) = (if j' = i then a else w.β j') := e3
    have ne : ∀ (m : Nat) (um : List U), w.ρ[m]? = some (some (.own um)) → w.β m ≠ a := fun m um hm z => by
      obtain ⟨_, _, _, vs', h4, _⟩ := s.own m um hm
      rw [z, ha] at h4; cases h4
    rcases set_at e1 with ⟨z1, _, _⟩ | ⟨z1, e1⟩ <;> rcases set_at e2 with ⟨z2, _, _⟩ | ⟨z2, e2⟩
    · rw [z1, z2]
    · rw [if_pos z1, if_neg z2] at e3
      exact absurd e3.symm (ne _ _ e2)
    · rw [if_neg z1, if_pos z2] at e3
      exact absurd e3 (ne _ _ e1)
    · rw [if_neg z1, if_neg z2] at e3
      exact s.inj _ _ _ _ e1 e2 e3
  · rcases set_at e with ⟨_, _, z⟩ | ⟨z, e⟩
    · cases z
    · obtain ⟨v', h1, h2⟩ := s.fr j u' e
      exact ⟨v', by rw [List.getElem?_set_ne (fun q => z q.symm)]; exact h1, h2.mono kp⟩
  · rcases set_at e with ⟨_, _, z⟩ | ⟨z, e⟩
    · cases z
    · obtain ⟨v', h1, h2⟩ := s.bor j u' e
      exact ⟨v', by rw [List.getElem?_set_ne (fun q => z q.symm)]; exact h1, h2⟩
  · rcases set_at e with ⟨_, _, z⟩ | ⟨z, e⟩
    · cases z
    · obtain ⟨a', h1, h2⟩ := s.cupS j e
      exact ⟨a', h1, by rw [List.getElem?_set_ne (fun q => z q.symm)]; exact h2⟩
  · rcases set_at e with ⟨_, _, z⟩ | ⟨z, e⟩
    · cases z
    · obtain ⟨a', ns, h1, h2⟩ := s.scr j us' e
      exact ⟨a', ns, by rw [List.getElem?_set_ne (fun q => z q.symm)]; exact h1, h2⟩
theorem SR.putn (s : SR K w σ H) (n : Nx w H c H1) (r : RV k w H H1 u v) (hk : k.kept = true) {i : Nat} : PutOk K w (w.put k.isNew i u v c) k.isNew i u v c σ H1 := by
  have plain : (k.isNew = false ∨ isLst u = false) → PutOk K w { w with ρ := w.ρ.set i (some (.fr u)), cs := c } k.isNew i u v c σ H1 ∧ w.put k.isNew i u v c = { w with ρ := w.ρ.set i (some (.fr u)), cs := c } := fun h => by
    obtain ⟨h1, h2⟩ := s.putfr n (r.rep hk) (i := i)
    refine ⟨⟨h1, ?_, rfl, ⟨rfl, rfl, rfl, .inl rfl⟩, rfl, fun x hx => .inl (h2 x hx)⟩, ?_⟩
    · rcases h with h | h
      · rw [h]; rfl
      · cases u <;> first | (cases h; done) | (cases k.isNew <;> rfl)
    · rcases h with h | h
      · rw [h]; rfl
      · cases u <;> first | (cases h; done) | (cases k.isNew <;> rfl)
  by_cases hn : k.isNew = false ∨ isLst u = false
  · obtain ⟨h1, h2⟩ := plain hn
    rw [h2]; exact h1
  · have h1 : k.isNew = true := by cases q : k.isNew <;> first | rfl | exact absurd (.inl q) hn
    have h2 : isLst u = true := by cases q : isLst u <;> first | rfl | exact absurd (.inr q) hn
    have hk : k = .new := by cases k <;> first | rfl | cases h1
    subst hk
    cases u with
    | lst us =>
      obtain ⟨r1, r2⟩ := r
      obtain ⟨a, rfl, ha⟩ := r2 us rfl
      obtain ⟨g1, g2⟩ := s.putown n r1 ha (i := i)
      exact ⟨g1, rfl, rfl, ⟨rfl, rfl, rfl, .inl rfl⟩, rfl, fun x hx => (g2 x hx).imp id fun z => ⟨rfl, rfl, by rw [z]⟩⟩
    | _ => cases h2
/-- the value of a first expression is put aside -/
theorem SR.pinv (s : SR K w σ H) (n : Nx w H c H1) (r : RV k w H H1 u v) : ∃ wp : Wd, SR K wp σ H1 ∧ wp.ρ = w.ρ ∧ wp.cs = c ∧ wp.ac = w.ac ∧ (∀ b, w.blk b → wp.blk b) ∧ ∀ b, k.isNew = true → isLst u = true → v = .ref b → wp.blk b := by
  by_cases hn : k.isNew = true ∧ isLst u = true
  · obtain ⟨h1, h2⟩ := hn
    have hk : k = .new := by cases k <;> first | rfl | cases h1
    subst hk
    cases u with
    | lst us =>
      obtain ⟨r1, r2⟩ := r
      obtain ⟨a, rfl, ha⟩ := r2 us rfl
      cases r1 with
      | lst h nb rs =>
        refine ⟨_, s.pinAt n ha h, rfl, rfl, rfl, fun b hb => ?_, fun b _ _ e => ?_⟩
        · rcases hb with hb | hb
          · exact .inl (.inl hb)
          · exact .inr hb
        · cases e; exact .inl (.inr rfl)
    | _ => cases h2
  · exact ⟨w.at c, n.sr s, rfl, rfl, rfl, fun b h => h, fun b h1 h2 => absurd ⟨h1, h2⟩ hn⟩
theorem RV.less (r : RV k w H H1 u v) (hk : k.kept = true) (h : ∀ b, w'.blk b → w.blk b) : RV k w' H H1 u v := by
  cases k with
  | tr => cases hk
  | lv => cases hk
  | any => exact Rep.mono (Kp.less h) r
  | new => exact ⟨Rep.mono (Kp.less h) r.1, r.2⟩
theorem Nx.of_ac (n : Nx w H c H1) (e : w'.ac = w.ac) : Nx w' H c H1 := ⟨by rw [e]; exact n.k, by rw [e]; exact n.cup, by rw [e]; exact n.nocup⟩
theorem Out.of_ac {mg : Str → Option Value} {W : XK} {α : Type} {Kc : α → Cs → Hp → Prop} {r : Res α} (h : Out mg W w H r Kc) (e : w'.ac = w.ac) : Out mg W w' H r Kc := by
  cases r with
  | ok a c => exact fun H' n => h H' (n.of_ac e.symm)
  | exc x c => exact fun H' C n => h H' C (n.of_ac e.symm)
  | bad => exact h
/-- a list of its own given away -/
theorem SR.frz (s : SR K w σ H) (i : Nat) : SR K { w with ρ := Mi.frz w.ρ i } σ H := by
  unfold Mi.frz
  split
  · rename_i us e
    obtain ⟨h1, h2, h3, vs, h4, h5⟩ := s.own i us e
    have less : ∀ x, ({ w with ρ := w.ρ.set i (some (.fr (.lst us))) } : Wd).blk x → w.blk x := fun x h => by
      rcases h with h | h | ⟨j, us, h, e⟩
      · exact .inl h
      · exact .inr (.inl h)
      · rcases set_at h with ⟨_, _, z⟩ | ⟨_, z⟩
        · cases z
        · exact .inr (.inr ⟨j, us, z, e⟩)
    have nb : ¬ ({ w with ρ := w.ρ.set i (some (.fr (.lst us))) } : Wd).blk (w.β i) := fun h => by
      rcases h with h | h | ⟨j, us', h, e'⟩
      · exact h3.2 h
      · exact h3.1 h
      · rcases set_at h with ⟨_, _, z⟩ | ⟨z1, z⟩
        · cases z
        · exact z1 (s.inj _ _ _ _ e z e').symm
    refine ⟨by simp [s.len], s.base, s.live, s.hb, s.acf, s.cup, s.nocup, fun j us' e => ?_, fun j j' us1 us2 e1 e2 e3 => ?_, fun j u' e => ?_, fun j u' e => ?_, fun j e => ?_, fun j us' e => ?_⟩
    · rcases set_at e with ⟨_, _, z⟩ | ⟨z, e⟩
      · cases z
      · obtain ⟨g1, g2, g3, vs', g4, g5⟩ := s.own j us' e
        exact ⟨g1, g2, g3, vs', g4, g5.mono (Kp.less less)⟩
    · rcases set_at e1 with ⟨_, _, z⟩ | ⟨_, e1⟩
      · cases z
      · rcases set_at e2 with ⟨_, _, z⟩ | ⟨_, e2⟩
        · cases z
        · exact s.inj _ _ _ _ e1 e2 e3
    · rcases set_at e with ⟨z, _, e0⟩ | ⟨z, e⟩
      · subst z
        cases e0
        exact ⟨_, h1, .lst h4 nb (h5.mono (Kp.less less))⟩
      · obtain ⟨v', g1, g2⟩ := s.fr j u' e
        exact ⟨v', g1, g2.mono (Kp.less less)⟩
    · rcases set_at e with ⟨_, _, z⟩ | ⟨z, e⟩
      · cases z
      · exact s.bor j u' e
    · rcases set_at e with ⟨_, _, z⟩ | ⟨z, e⟩
      · cases z
      · exact s.cupS j e
    · rcases set_at e with ⟨_, _, z⟩ | ⟨z, e⟩
      · cases z
      · exact s.scr j us' e
  · exact s
/-- a list of its own changed -/
theorem SR.setOwn (s : SR K w σ H) {i : Nat} {us us' : List U} {vs' : List V} (e : w.ρ[i]? = some (some (.own us))) (r : Reps w.blk H us' vs') : SR K { w with ρ := w.ρ.set i (some (.own us')) } σ (L2.upd H (w.β i) (.lst vs')) := by
  obtain ⟨h1, h2, h3, vs, h4, h5⟩ := s.own i us e
  have less : ∀ x, ({ w with ρ := w.ρ.set i (some (.own us')) } : Wd).blk x → w.blk x := fun x h => by
    rcases h with h | h | ⟨j, us2, h, e2⟩
    · exact .inl h
    · exact .inr (.inl h)
    · rcases set_at h with ⟨z, _, _⟩ | ⟨_, z⟩
      · subst z; exact .inr (.inr ⟨j, us, e, e2⟩)
      · exact .inr (.inr ⟨j, us2, z, e2⟩)
  have kp : Kp w.blk ({ w with ρ := w.ρ.set i (some (.own us')) } : Wd).blk H (L2.upd H (w.β i) (.lst vs')) := (Kp.upd2 (B := w.blk) h4 (.inr (.inr ⟨i, us, e, rfl⟩))).trans (Kp.less less)
  have ne : ∀ b o, w.H0 b = some o → b ≠ w.β i := fun b o q z => by rw [z, h2] at q; cases q
  refine ⟨by simp [s.len], fun b o q q2 => by rw [upd_ne (ne b o q)]; exact s.base b o q q2, fun b hb => ?_, s.hb, s.acf, fun a ea => ?_, s.nocup, fun j us2 ej => ?_, fun j j' us1 us2 e1 e2 e3 => ?_, fun j u' e' => ?_, fun j u' e' => ?_, fun j e' => ?_, fun j us2 e' => ?_⟩
  · obtain ⟨o, q⟩ := s.live b hb
    exact ⟨o, by rw [upd_ne (fun z => h3.2 (by rw [← z]; exact hb))]; exact q⟩
  · obtain ⟨cv, g1, g2, g3⟩ := s.cup a ea
    exact ⟨cv, g1, g2, by rw [upd_ne (fun z => h3.1 (by rw [← z]; exact ea))]; exact g3⟩
  · rcases set_at ej with ⟨z, _, z2⟩ | ⟨z, ej⟩
    · subst z; cases z2
      exact ⟨h1, h2, h3, vs', upd_same, r.mono kp⟩
    · obtain ⟨g1, g2, g3, vs2, g4, g5⟩ := s.own j us2 ej
      exact ⟨g1, g2, g3, vs2, by rw [upd_ne (fun q => z (s.inj _ _ _ _ ej e q))]; exact g4, g5.mono kp⟩
  · have old : ∀ (m : Nat) (um : List U), (w.ρ.set i (some (.own us')))[m]? = some (some (.own um)) → ∃ um', w.ρ[m]? = some (some (.own um')) := fun m um hm => by
      rcases set_at hm with ⟨z, _, _⟩ | ⟨_, z⟩
      · subst z; exact ⟨_, e⟩
      · exact ⟨_, z⟩
    obtain ⟨_, e1⟩ := old _ _ e1
    obtain ⟨_, e2⟩ := old _ _ e2
    exact s.inj _ _ _ _ e1 e2 e3
  · rcases set_at e' with ⟨_, _, z⟩ | ⟨_, e'⟩
    · cases z
    · obtain ⟨v', g1, g2⟩ := s.fr j u' e'
      exact ⟨v', g1, g2.mono kp⟩
  · rcases set_at e' with ⟨_, _, z⟩ | ⟨_, e'⟩
    · cases z
    · exact s.bor j u' e'
  · rcases set_at e' with ⟨_, _, z⟩ | ⟨_, e'⟩
    · cases z
    · exact s.cupS j e'
  · rcases set_at e' with ⟨_, _, z⟩ | ⟨_, e'⟩
    · cases z
    · exact s.scr j us2 e'
/-- the cup changed -/
theorem SR.setCup (s : SR K w σ H) {a : Addr} {cv : List U} (e : w.ac = some a) (f : cv.all Mi.flat = true) : SR K { w with cs := some cv } σ (L2.upd H a (.lst (cv.map fv))) := by
  obtain ⟨cv0, g1, g2, g3⟩ := s.cup a e
  have kp : Kp w.blk w.blk H (L2.upd H a (.lst (cv.map fv))) := Kp.upd2 g3 (.inr (.inl e))
  refine ⟨s.len, fun b o q q2 => ?_, fun b hb => ?_, s.hb, s.acf, fun a' ea => ?_, fun z => ?_, fun j us2 ej => ?_, s.inj, fun j u' e' => ?_, s.bor, s.cupS, s.scr⟩
  · rw [upd_ne (fun z => q2 (by rw [z]; exact e))]; exact s.base b o q q2
  · by_cases z : b = a
    · subst z; exact ⟨_, upd_same⟩
    · obtain ⟨o, q⟩ := s.live b hb
      exact ⟨o, by rw [upd_ne z]; exact q⟩
  · have ea : w.ac = some a' := ea
    rw [e] at ea; cases ea
    exact ⟨cv, rfl, f, upd_same⟩
  · have z : w.ac = none := z
    rw [e] at z; cases z
  · obtain ⟨h1, h2, h3, vs, h4, h5⟩ := s.own j us2 ej
    exact ⟨h1, h2, h3, vs, by rw [upd_ne (fun z => h3.1 (by rw [z]; exact e))]; exact h4, h5.mono kp⟩
  · obtain ⟨v', h1, h2⟩ := s.fr j u' e'
    exact ⟨v', h1, h2.mono kp⟩
end
end Mi

/-! M15.lean -/
namespace Mi
open PySem PySem.Spec PyProof.Rows L2
/-! ### readings of statements -/
def PostS (fr : Bool) (w : Wd) (D : Ends) (w' : Wd) (σ' : L2.St) (H' : Hp) : Fl → Prop
  | .nx ρ' => w'.ρ = ρ' → D.nx σ' H'
  | .bk ρ' => w'.ρ = ρ' → D.bk σ' H'
  | .ct ρ' => w'.ρ = ρ' → D.ct σ' H'
  | .rt u => ∀ v, Rep w.B0 H' u v → New fr w.H0 u v → D.rt v H'
def OutS (K : PySem.W.Frag) (mg : Str → Option Value) (W : XK) (fr : Bool) (w : Wd) (D : Ends) : Res Fl → Prop
  | .ok f c => ∀ w' σ' H', Tr w w' → SR K w' σ' H' → w'.cs = c → PostS fr w D w' σ' H' f
  | .exc x _ => ∀ H' C, (∀ b o, w.H0 b = some o → w.ac ≠ some b → H' b = some o) → mg x = some (.ref C) → W (.ref C) none H'
  | .bad => False
def tS (K : PySem.W.Frag) (mg : Str → Option Value) (W : XK) (Γ : Gm) (fr : Bool) (st : S) : TS := fun D σ H => ∃ w, SR K w σ H ∧ OutS K mg W fr w D (evS Γ st w.ρ w.cs)
theorem bnd_assoc {α β γ : Type} (m : M α) (f : α → M β) (g : β → M γ) (c : Cs) : bnd (bnd m f) g c = bnd m (fun a => bnd (f a) g) c := by
  unfold bnd
  cases m c <;> rfl
section
variable {K : PySem.W.Frag} {mg : Str → Option Value} {W : XK} {Γ : Gm} {fr : Bool} {w w' w1 : Wd} {σ σ' : L2.St} {H H' H1 Hr : Hp} {c : Cs} {D D' : Ends}
theorem OutS.tr {r : Res Fl} (t : Tr w w1) (h : OutS K mg W fr w D r) : OutS K mg W fr w1 D r := by
  cases r with
  | ok f c =>
    intro w' σ' H' t' s' hc
    have := h w' σ' H' (t.trans t') s' hc
    cases f with
    | nx ρ' => exact this
    | bk ρ' => exact this
    | ct ρ' => exact this
    | rt u => intro v r n; rw [t.b] at r; rw [t.h] at n; exact this v r n
  | exc x c =>
    intro H' C hk hm
    refine h H' C (fun b o e q => hk b o (by rw [t.h]; exact e) fun z => ?_) hm
    rcases t.ac with g | ⟨g, g2⟩
    · exact q (g ▸ z)
    · rw [g2 b z] at e; cases e
  | bad => exact h
theorem OutS.bnd {α : Type} {m : M α} {f : α → M Fl} (s : SR K w σ H) (h : OutS K mg W fr w D (Mi.bnd m f w.cs)) : Out mg W w H (m w.cs) fun a c _ => OutS K mg W fr (w.at c) D (f a c) := by
  cases e : m w.cs with
  | ok a c => rw [bnd_ok e] at h; exact fun H' n => OutS.tr (w := w) ⟨rfl, rfl, rfl, .inl rfl⟩ h
  | exc x c => rw [bnd_exc e] at h; exact fun H' C n hm => h H' C (fun b o e q => n.k b o (s.base b o e q) q) hm
  | bad => rw [bnd_bad e] at h; exact h
theorem OutS.eq {r r' : Res Fl} (h : OutS K mg W fr w D r) (e : r = r') : OutS K mg W fr w D r' := e ▸ h
/-- a step that has just ended -/
theorem OutS.now {f : Fl} (h : OutS K mg W fr w D (ret f c)) (t : Tr w w') (s : SR K w' σ' H') (e : w'.cs = c) : PostS fr w D w' σ' H' f := h w' σ' H' t s e
theorem OutS.fin {f : Fl} (h : OutS K mg W fr w D (ret f c)) (s : SR K w' σ' H') (t : Tr w w') (e : w'.cs = c) : PostS fr w D w' σ' H' f := h w' σ' H' t s e
/-! ### the heap ahead of a loop, without what the loop may change -/
structure Cut (w : Wd) (H1 Hr : Hp) : Prop where
  c1 : ∀ b, stb false w b → Hr b = H1 b
  c2 : ∀ b, ¬ stb false w b → Hr b = none
theorem cut_ex (w : Wd) (H1 : Hp) : ∃ Hr, Cut w H1 Hr := by
  have := fun b => Classical.propDecidable (stb false w b)
  exact ⟨fun b => if stb false w b then H1 b else none, ⟨fun b h => if_pos h, fun b h => if_neg h⟩⟩
theorem Cut.ac (q : Cut w H Hr) {b : Addr} (h : w.ac = some b) : Hr b = none := q.c2 b fun z => z.1 h
theorem Cut.own (q : Cut w H Hr) {i : Nat} {us : List U} (h : w.ρ[i]? = some (some (.own us))) : Hr (w.β i) = none := q.c2 _ fun z => z.2 rfl i us h rfl
theorem Cut.of (q : Cut w H Hr) {b : Addr} {o : HO} (h : Hr b = some o) : H b = some o ∧ stb false w b := by
  by_cases z : stb false w b
  · exact ⟨(q.c1 b z) ▸ h, z⟩
  · rw [q.c2 b z] at h; cases h
theorem Cut.base (q : Cut w H Hr) (s : SR K w σ H) {b : Addr} {o : HO} (h : w.H0 b = some o) (n : w.ac ≠ some b) : Hr b = some o := by
  rw [q.c1 b ⟨n, fun _ i us hi e => ?_⟩]
  · exact s.base b o h n
  · rw [← e, (s.own i us hi).2.1] at h; cases h
abbrev Wd.on (w : Wd) (Hr : Hp) : Wd := { w with H0 := Hr }
theorem Cut.sr (q : Cut w H Hr) (s : SR K w σ H) : SR K (w.on Hr) σ H where
  len := s.len
  base := fun b o e _ => (q.of e).1
  live := s.live
  hb := fun b o e n => q.base s (s.hb b o e n) n
  acf := fun a e => (s.acf a e).imp (fun h => ⟨h.1, q.ac e⟩) id
  cup := s.cup
  nocup := s.nocup
  own := fun i us e => let ⟨h1, _, h3⟩ := s.own i us e; ⟨h1, q.own e, h3⟩
  inj := s.inj
  fr := s.fr
  bor := s.bor
  cupS := s.cupS
  scr := s.scr
theorem Cut.none (q : Cut w H Hr) (s : SR K w σ H) {a : Addr} (e : Hr a = .none) (n : w.ac ≠ some a) : w.H0 a = .none := by
  cases z : w.H0 a with
  | none => rfl
  | some o => rw [q.base s z n] at e; cases e
theorem Cut.back (q : Cut w H Hr) (s : SR K w σ H) (t : Tr (w.on Hr) w') (s' : SR K w' σ' H') : SR K (w'.on w.H0) σ' H' ∧ Tr w (w'.on w.H0) := by
  have ac : ∀ b, w.ac = some b → w'.ac = some b := fun b e => by
    rcases t.ac with g | ⟨g, _⟩
    · exact g.trans e
    · rw [show w.ac = .none from g] at e; cases e
  have hr : w'.H0 = Hr := t.h
  have toH0 : ∀ a, Hr a = .none → w'.ac ≠ some a → w.H0 a = .none := fun a e n => q.none s e fun z => n (ac a z)
  refine ⟨⟨s'.len, fun b o e n => ?_, s'.live, fun b o e n => ?_, fun a e => ?_, s'.cup, s'.nocup, fun i us e => ?_, s'.inj, s'.fr, s'.bor, s'.cupS, s'.scr⟩, ⟨t.b, rfl, t.hb, ?_⟩⟩
  · exact s'.base b o (by rw [hr]; exact q.base s e fun z => n (ac b z)) n
  · have e : w'.Hb b = some o := e
    rw [t.hb] at e
    exact s.hb b o e fun z => n (ac b z)
  · rcases s'.acf a e with h | h
    · refine .inl ⟨h.1, ?_⟩
      by_cases z : w.ac = some a
      · rcases s.acf a z with g | g
        · exact g.2
        · have h1 := h.1
          rw [t.hb] at h1
          obtain ⟨_, xs, g⟩ := g
          rw [show w.Hb a = .none from h1] at g; cases g
      · exact q.none s (by rw [← hr]; exact h.2) z
    · exact .inr h
  · obtain ⟨h1, h2, h3, h4⟩ := s'.own i us e
    exact ⟨h1, toH0 _ (by rw [← hr]; exact h2) h3.1, h3, h4⟩
  · rcases t.ac with g | ⟨g, g2⟩
    · exact .inl g
    · refine .inr ⟨g, fun a e => q.none s (g2 a e) ?_⟩
      rw [show w.ac = .none from g]
      exact fun z => nomatch z
theorem New.of {fr : Bool} {H H' : Hp} {u : U} {v : V} (n : New fr H u v) (h : ∀ a, v = .ref a → isLst u = true → H a = none → H' a = none) : New fr H' u v := fun e xs ex =>
  let ⟨a, e1, e2⟩ := n e xs ex; ⟨a, e1, h a e1 (by rw [ex]; rfl) e2⟩
end
section
variable {X : Cx} {c : CE} {Γ : Gm} {W : XK} {fr : Bool} {σ : L2.St} {H : Hp} {D : Ends}
abbrev Cx.tS (X : Cx) (W : XK) (Γ : Gm) (fr : Bool) (st : S) : TS := Mi.tS X.K X.mg W Γ fr st
theorem PS.imp {st : Stmt} {t t' : TS} (h : PS X st t) (i : ∀ D σ H, t' D σ H → t D σ H) : PS X st t' := ⟨fun pins s σ H D I hw => h.run pins s σ H D I (i D σ H hw)⟩
theorem PSs.imp {st : List Stmt} {t t' : TS} (h : PSs X st t) (i : ∀ D σ H, t' D σ H → t D σ H) : PSs X st t' := ⟨fun pins s σ H D I hw => h.run pins s σ H D I (i D σ H hw)⟩
theorem r_nil (h : Cx.tS X W Γ fr .nil D σ H) : tNext D σ H := by
  obtain ⟨w, s, o⟩ := h
  exact o.now .refl s rfl rfl
theorem r_cons {a b : S} (h : Cx.tS X W Γ fr (.cons a b) D σ H) : tSeq (Cx.tS X W Γ fr a) (Cx.tS X W Γ fr b) D σ H := by
  obtain ⟨w, s, o⟩ := h
  refine ⟨w, s, ?_⟩
  simp only [evS] at o
  cases e : evS Γ a w.ρ w.cs with
  | ok f c =>
    rw [bnd_ok e] at o
    intro w' σ' H' t s' hc
    cases f with
    | nx ρ' =>
      intro hρ
      exact ⟨w', s', by rw [hρ, hc]; exact OutS.tr t o⟩
    | bk ρ' => exact o w' σ' H' t s' hc
    | ct ρ' => exact o w' σ' H' t s' hc
    | rt u => exact o w' σ' H' t s' hc
  | exc x c => rw [bnd_exc e] at o; exact o
  | bad => rw [bnd_bad e] at o; exact o
theorem r_frz {i : Nat} {a : S} (h : Cx.tS X W Γ fr (.cons (.frz i) a) D σ H) : Cx.tS X W Γ fr a D σ H := by
  obtain ⟨w, s, o⟩ := h
  exact ⟨{ w with ρ := Mi.frz w.ρ i }, s.frz i, OutS.tr (w := w) ⟨rfl, rfl, rfl, .inl rfl⟩ o⟩
theorem r_set {i : Nat} {e : E} (hk : keptE e = true) (h : Cx.tS X W Γ fr (.set i e) D σ H) : tAsg (Cx.tE X W Γ e) (gName i) D σ H := by
  obtain ⟨w, s, o⟩ := h
  simp only [evS] at o
  refine ⟨w, s, (o.bnd s).imp fun u c H1 n k v r => ?_⟩
  have p := s.putn n r (cl_kept hk) (i := i)
  exact OutS.now (w := w.at c) k (Tr.trans (w' := w) ⟨rfl, rfl, rfl, .inl rfl⟩ p.tr) p.sr p.cs p.ρ
theorem r_unp {is : List Nat} {e : E} (hk : keptE e = true) (h : Cx.tS X W Γ fr (.unp is e) D σ H) : tAsg (Cx.tE X W Γ e) (tG X.K false is) D σ H := by
  obtain ⟨w, s, o⟩ := h
  simp only [evS] at o
  refine ⟨w, s, (o.bnd s).imp fun u c H1 n k v r => ?_⟩
  have s1 := n.sr s
  cases ha : asg is false u w.ρ with
  | none => rw [ha] at k; exact k.elim
  | some ρ' =>
    rw [ha] at k
    obtain ⟨σ', up, _, hq⟩ := asg_ok (K := X.K) (σ := σ) s.len ha (r.rep (cl_kept hk))
    exact hq _ (OutS.now (w := w.at c) k (w' := { (w.at c) with ρ := ρ' }) ⟨rfl, rfl, rfl, .inl rfl⟩ (Up.sr s1 up) rfl rfl)
theorem r_par {i j : Nat} {a b : E} (ha : keptE a = true) (hb : keptE b = true) (h : Cx.tS X W Γ fr (.par i j a b) D σ H) : tPar i j (tCons (Cx.tE X W Γ a) (tCons (Cx.tE X W Γ b) tNil)) D σ H := by
  obtain ⟨w, s, o⟩ := h
  simp only [evS] at o
  refine ⟨w, s, (o.bnd s).imp fun u c H1 n k x rx => ?_⟩
  obtain ⟨wp, sp, p1, p2, p3, p4, p5⟩ := s.pinv n rx
  have q1 := s.putn n rx (cl_kept ha) (i := i)
  refine ⟨wp, sp, ?_⟩
  rw [p1, p2]
  refine Out.of_ac (w := w.at c) ?_ p3
  refine (OutS.bnd (w := w.at c) (n.sr s) k).imp fun u2 c2 H2 n2 k2 y ry => ⟨x, y, rfl, ?_⟩
  have n2' : Nx (w.put (cl Γ a).isNew i u x c) H1 c2 H2 := n2.of_ac q1.ac
  have q2 := q1.sr.putn n2' (RV.less ry (cl_kept hb) fun b hb => (q1.blk b hb).elim (p4 b) fun ⟨e1, e2, e3⟩ => p5 b e1 e2 e3) (cl_kept hb) (i := j)
  exact OutS.now (w := (w.at c).at c2) k2 (Tr.trans (w' := w) ⟨rfl, rfl, rfl, .inl rfl⟩ (q1.tr.trans q2.tr)) q2.sr q2.cs (q2.ρ.trans (by rw [q1.ρ]))
theorem r_par3 {i j l : Nat} {a b d : E} (ha : keptE a = true) (hb : keptE b = true) (hd : keptE d = true) (h : Cx.tS X W Γ fr (.par3 i j l a b d) D σ H) : tPar3 i j l (tCons (Cx.tE X W Γ a) (tCons (Cx.tE X W Γ b) (tCons (Cx.tE X W Γ d) tNil))) D σ H := by
  obtain ⟨w, s, o⟩ := h
  simp only [evS] at o
  refine ⟨w, s, (o.bnd s).imp fun u c H1 n k x rx => ?_⟩
  obtain ⟨wp, sp, p1, p2, p3, p4, p5⟩ := s.pinv n rx
  have q1 := s.putn n rx (cl_kept ha) (i := i)
  refine ⟨wp, sp, ?_⟩
  rw [p1, p2]
  refine Out.of_ac (w := w.at c) ?_ p3
  refine (OutS.bnd (w := w.at c) (n.sr s) k).imp fun u2 c2 H2 n2 k2 y ry => ?_
  have n2p : Nx wp H1 c2 H2 := n2.of_ac p3
  have n2' : Nx (w.put (cl Γ a).isNew i u x c) H1 c2 H2 := n2.of_ac q1.ac
  have q2 := q1.sr.putn n2' (RV.less ry (cl_kept hb) fun b hb => (q1.blk b hb).elim (p4 b) fun ⟨e1, e2, e3⟩ => p5 b e1 e2 e3) (cl_kept hb) (i := j)
  obtain ⟨wq, sq, r1, r2, r3, r4, r5⟩ := sp.pinv n2p ry
  refine ⟨wq, sq, ?_⟩
  rw [r1, r2, p1]
  refine Out.of_ac (w := (w.at c).at c2) ?_ (r3.trans p3)
  refine (OutS.bnd (w := (w.at c).at c2) (n2.sr (n.sr s)) k2).imp fun u3 c3 H3 n3 k3 z rz => ⟨x, y, z, rfl, ?_⟩
  have n3' : Nx ((w.put (cl Γ a).isNew i u x c).put (cl Γ b).isNew j u2 y c2) H2 c3 H3 := n3.of_ac (q2.ac.trans q1.ac)
  have q3 := q2.sr.putn n3' (RV.less rz (cl_kept hd) fun b hb => (q2.blk b hb).elim (fun h => r4 b ((q1.blk b h).elim (p4 b) fun ⟨e1, e2, e3⟩ => p5 b e1 e2 e3)) fun ⟨e1, e2, e3⟩ => r5 b e1 e2 e3) (cl_kept hd) (i := l)
  exact OutS.now (w := ((w.at c).at c2).at c3) k3 (Tr.trans (w' := w) ⟨rfl, rfl, rfl, .inl rfl⟩ (q1.tr.trans (q2.tr.trans q3.tr))) q3.sr q3.cs (q3.ρ.trans (by rw [q2.ρ, q1.ρ]))
abbrev tName (i : Nat) : TE := fun σ H Q => ∃ v, σ[i]? = some (some v) ∧ Q v H
theorem slots (ρ : Ev) (i : Nat) : (∃ us, ρ[i]? = some (some (.own us))) ∨ (∃ u, ρ[i]? = some (some (.bor u))) ∨ (∃ u, ρ[i]? = some (some (.fr u))) ∨ ρ[i]? = some (some .cup) ∨ (∃ us, ρ[i]? = some (some (.scr us))) ∨ ρ[i]? = some none ∨ ρ[i]? = none := by
  cases h : ρ[i]? with
  | none => exact .inr (.inr (.inr (.inr (.inr (.inr rfl)))))
  | some q => cases q with
    | none => exact .inr (.inr (.inr (.inr (.inr (.inl rfl)))))
    | some q => cases q with
      | own us => exact .inl ⟨us, rfl⟩
      | bor u => exact .inr (.inl ⟨u, rfl⟩)
      | fr u => exact .inr (.inr (.inl ⟨u, rfl⟩))
      | cup => exact .inr (.inr (.inr (.inl rfl)))
      | scr us => exact .inr (.inr (.inr (.inr (.inl ⟨us, rfl⟩))))
theorem r_seti {i : Nat} {k e : E} (hk : keptE e = true) (h : Cx.tS X W Γ fr (.seti i k e) D σ H) : tAsg (Cx.tE X W Γ e) (gSub (tName i) (Cx.tE X W Γ k) rSetL) D σ H := by
  obtain ⟨w, s, o⟩ := h
  simp only [evS] at o
  rcases slots w.ρ i with ⟨us, hi⟩ | ⟨us, hi⟩ | ⟨us, hi⟩ | hi | ⟨us, hi⟩ | hi | hi <;> simp only [hi] at o
  case inr.inl => exact o.elim
  case inr.inr.inl => exact o.elim
  case inr.inr.inr.inr.inl => exact o.elim
  case inr.inr.inr.inr.inr.inl => exact o.elim
  case inr.inr.inr.inr.inr.inr => exact o.elim
  · skip
    refine ⟨w, s, (o.bnd s).imp fun u c1 H1 n1 k1 v rv => ?_⟩
    have s1 := n1.sr s
    refine ⟨_, (s.own i us hi).1, w.at c1, s1, (OutS.bnd (w := w.at c1) s1 k1).imp fun z c2 H2 n2 k2 zv rz => ?_⟩
    have s2 := n2.sr s1
    cases z with
    | int m =>
      cases hx : ix us.length m with
      | none => simp only [hx] at k2; exact k2.elim
      | some j =>
        simp only [hx] at k2
        obtain ⟨h1, h2, h3, vs, h4, h5⟩ := s2.own i us hi
        have r2 : Rep w.blk H2 u v := (rv.rep (cl_kept hk)).mono (n2.kp s1)
        refine ⟨_, vs, m, j, rfl, rz.t.int, h4, by rw [← h5.length]; exact hx, ?_⟩
        exact OutS.fin (w := (w.at c1).at c2) k2 (s2.setOwn hi (h5.set j r2)) ⟨rfl, rfl, rfl, .inl rfl⟩ rfl rfl
    | _ => exact k2.elim
  · obtain ⟨a, ha, hs⟩ := s.cupS i hi
    refine ⟨w, s, (o.bnd s).imp fun u c1 H1 n1 k1 v rv => ?_⟩
    have s1 := n1.sr s
    refine ⟨_, hs, w.at c1, s1, (OutS.bnd (w := w.at c1) s1 k1).imp fun z c2 H2 n2 k2 zv rz => ?_⟩
    have s2 := n2.sr s1
    obtain ⟨cv, e1, e2, e3⟩ := s2.cup a ha
    have e1 : c2 = some cv := e1
    subst e1
    cases z with
    | int m =>
      cases hx : ix cv.length m with
      | none => simp only [hx] at k2; exact k2.elim
      | some j =>
        simp only [hx] at k2
        split at k2
        · rename_i hf
          refine ⟨a, cv.map fv, m, j, rfl, rz.t.int, e3, by rw [List.length_map]; exact hx, ?_⟩
          have ev : v = fv u := rv.t.flat hf
          have fl : (cv.set j u).all Mi.flat = true := by
            rw [List.all_eq_true]
            intro y hy
            rcases List.mem_or_eq_of_mem_set hy with h | h
            · exact List.all_eq_true.mp e2 y h
            · rw [h]; exact hf
          have q := s2.setCup ha fl
          rw [List.map_set, ← ev] at q
          exact OutS.fin (w := (w.at c1).at (some cv)) (c := some (cv.set j u)) k2 q ⟨rfl, rfl, rfl, .inl rfl⟩ rfl rfl
        · exact k2.elim
    | _ => exact k2.elim
theorem r_app {i : Nat} {e : E} (hk : keptE e = true) (h : Cx.tS X W Γ fr (.app i e) D σ H) : tDrop (tBM X.K "list" rAppend (tName i) (tCons (Cx.tE X W Γ e) tNil)) D σ H := by
  obtain ⟨w, s, o⟩ := h
  simp only [evS] at o
  rcases slots w.ρ i with ⟨us, hi⟩ | ⟨us, hi⟩ | ⟨us, hi⟩ | hi | ⟨us, hi⟩ | hi | hi <;> simp only [hi] at o
  · obtain ⟨h1, h2, h3, vs, h4, h5⟩ := s.own i us hi
    refine ⟨_, h1, .inl ⟨rfl, _, .inl (.inl h4)⟩, w, s, (o.bnd s).imp fun u c1 H1 n1 k1 v rv => ?_⟩
    have s1 := n1.sr s
    obtain ⟨h1, h2, h3, vs, h4, h5⟩ := s1.own i us hi
    by_cases hl : us.length < L
    · rw [if_pos hl] at k1
      refine ⟨_, vs, v, rfl, rfl, h4, by rw [← h5.length]; exact hl, ?_⟩
      exact OutS.fin (w := w.at c1) k1 (s1.setOwn hi (h5.app (.cons (rv.rep (cl_kept hk)) .nil))) ⟨rfl, rfl, rfl, .inl rfl⟩ rfl rfl
    · rw [if_neg hl] at k1; exact k1.elim
  all_goals exact o.elim
theorem r_drop {e : E} (h : Cx.tS X W Γ fr (.drop e) D σ H) : tDrop (Cx.tE X W Γ e) D σ H := by
  obtain ⟨w, s, o⟩ := h
  simp only [evS] at o
  exact ⟨w, s, (o.bnd s).imp fun u c1 H1 n1 k1 v rv => OutS.now (w := w.at c1) k1 .refl (n1.sr s) rfl rfl⟩
theorem SR.no0 {K : PySem.W.Frag} {w : Wd} {a : Addr} (s : SR K w σ H) (h : H a = none) : w.H0 a = none := by
  cases q : w.H0 a with
  | none => rfl
  | some o =>
    by_cases z : w.ac = some a
    · obtain ⟨_, e⟩ := s.acb z
      rw [h] at e; cases e
    · rw [s.base a o q z] at h; cases h
theorem r_ret {e : E} (hk : keptE e = true) (hf : fr = true → (cl Γ e).isNew = true) (h : Cx.tS X W Γ fr (.ret e) D σ H) : tRet (Cx.tE X W Γ e) D σ H := by
  obtain ⟨w, s, o⟩ := h
  simp only [evS] at o
  refine ⟨w, s, (o.bnd s).imp fun u c1 H1 n1 k1 v rv => OutS.now (w := w.at c1) k1 .refl (n1.sr s) rfl v ((rv.rep (cl_kept hk)).mono (Kp.less fun b h => .inl h)) fun e1 xs ex => ?_⟩
  have h1 := hf e1
  have hc : cl Γ e = .new := by cases q : cl Γ e <;> rw [q] at h1 <;> first | rfl | cases h1
  rw [hc] at rv
  obtain ⟨a, e2, e3⟩ := rv.2 xs ex
  exact ⟨a, e2, s.no0 e3⟩
theorem r_retv {i : Nat} (h : Cx.tS X W Γ fr (.retv i) D σ H) : tRet (tName i) D σ H := by
  obtain ⟨w, s, o⟩ := h
  simp only [evS] at o
  have le : ∀ b, w.B0 b → w.blk b := fun b h => .inl h
  have nl : ∀ {u : U} {v : V}, isLst u = false → New fr w.H0 u v := fun h _ xs e => by rw [e] at h; cases h
  rcases slots w.ρ i with ⟨us, hi⟩ | ⟨u, hi⟩ | ⟨u, hi⟩ | hi | ⟨us, hi⟩ | hi | hi <;> simp only [hi] at o
  case inr.inr.inl =>
    by_cases hl : isLst u = true
    · rw [if_pos hl] at o; exact o.elim
    · rw [if_neg hl] at o
      obtain ⟨v, h1, h2⟩ := s.fr i u hi
      exact ⟨v, h1, o.now .refl s rfl _ (h2.mono (Kp.less le)) (nl (by cases q : isLst u <;> first | rfl | exact absurd q hl))⟩
  · obtain ⟨h1, h2, h3, vs, h4, h5⟩ := s.own i us hi
    exact ⟨_, h1, o.now .refl s rfl _ (.lst h4 h3.2 (h5.mono (Kp.less le))) fun _ xs e => ⟨_, rfl, h2⟩⟩
  · by_cases hl : isLst u = true
    · rw [if_pos hl] at o; exact o.elim
    · rw [if_neg hl] at o
      obtain ⟨v, h1, h2⟩ := s.bor i u hi
      have hl : isLst u = false := by cases q : isLst u <;> first | rfl | exact absurd q hl
      refine ⟨v, h1, o.now .refl s rfl _ ?_ (nl hl)⟩
      rcases h2 with h2 | ⟨a, us, vs, e1, _⟩
      · exact (h2.mono s.kp0).mono (Kp.less le)
      · rw [e1] at hl; cases hl
  all_goals exact o.elim
theorem r_retN (h : Cx.tS X W Γ fr .retN D σ H) : tRetN D σ H := by
  obtain ⟨w, s, o⟩ := h
  exact o.now .refl s rfl _ .non fun _ xs e => nomatch e
theorem r_brk (h : Cx.tS X W Γ fr .brk D σ H) : tBreak D σ H := by
  obtain ⟨w, s, o⟩ := h
  exact o.now .refl s rfl rfl
theorem r_cnt (h : Cx.tS X W Γ fr .cnt D σ H) : tCont D σ H := by
  obtain ⟨w, s, o⟩ := h
  exact o.now .refl s rfl rfl
theorem r_pas (h : Cx.tS X W Γ fr .pas D σ H) : tNext D σ H := by
  obtain ⟨w, s, o⟩ := h
  exact o.now .refl s rfl rfl
theorem r_never (h : Cx.tS X W Γ fr .never D σ H) : tNever D σ H := by
  obtain ⟨w, s, o⟩ := h
  exact o.elim
theorem r_ite {e : E} {a b : S} (h : Cx.tS X W Γ fr (.ite e a b) D σ H) : tIfS (Cx.tT X W Γ e) (Cx.tS X W Γ fr a) (Cx.tS X W Γ fr b) D σ H := by
  obtain ⟨w, s, o⟩ := h
  simp only [evS] at o
  rw [← bnd_assoc] at o
  refine ⟨w, s, (o.bnd s).imp fun t c1 H1 n1 k1 => ?_⟩
  cases t with
  | true => exact ⟨w.at c1, n1.sr s, k1⟩
  | false => exact ⟨w.at c1, n1.sr s, k1⟩
theorem r_whl {e : E} {b : S} (h : Cx.tS X W Γ fr (.whl e b) D σ H) : tWhile (Cx.tT X W Γ e) (Cx.tS X W Γ fr b) D σ H := by
  obtain ⟨w, s, o⟩ := h
  simp only [evS] at o
  refine ⟨fun m σ' H' => ∃ w', SR X.K w' σ' H' ∧ OutS X.K X.mg W fr w' D (whlL (ev Γ e) (evS Γ b) m w'.ρ w'.cs), ⟨fuel, w, s, o⟩, ?_⟩
  intro m σ1 H1 ⟨w1, s1, o1⟩
  cases m with
  | zero => exact o1.elim
  | succ m =>
    simp only [whlL] at o1
    rw [← bnd_assoc] at o1
    refine ⟨w1, s1, (o1.bnd s1).imp fun t c2 H2 n2 k2 => ?_⟩
    have s2 := n2.sr s1
    cases t with
    | false => exact OutS.now (w := w1.at c2) k2 .refl s2 rfl rfl
    | true =>
      rw [if_pos rfl] at k2
      dsimp only
      rw [if_pos rfl]
      refine ⟨fun σ' H' => ∃ w', SR X.K w' σ' H' ∧ OutS X.K X.mg W fr w' D (whlL (ev Γ e) (evS Γ b) m w'.ρ w'.cs), fun σ' H' h => ⟨m, Nat.lt_succ_self m, h⟩, w1.at c2, s2, ?_⟩
      cases hb : evS Γ b w1.ρ c2 with
      | bad => rw [bnd_bad hb] at k2; exact k2
      | exc x c3 => rw [bnd_exc hb] at k2; exact k2
      | ok f c3 =>
        rw [bnd_ok hb] at k2
        intro w' σ' H' t s' hc
        cases f with
        | nx ρ' => exact fun hρ => ⟨w', s', by rw [hρ, hc]; exact OutS.tr t k2⟩
        | ct ρ' => exact fun hρ => ⟨w', s', by rw [hρ, hc]; exact OutS.tr t k2⟩
        | bk ρ' => exact k2 w' σ' H' t s' hc
        | rt u => exact k2 w' σ' H' t s' hc
theorem r_mkcup {i : Nat} {e : E} (hk : (cl Γ e).isNew = true) (h : Cx.tS X W Γ fr (.mkcup i e) D σ H) : tAsg (Cx.tE X W Γ e) (gName i) D σ H := by
  obtain ⟨w, s, o⟩ := h
  simp only [evS] at o
  refine ⟨w, s, (o.bnd s).imp fun u c H1 n k v rv => ?_⟩
  have hc : cl Γ e = .new := by cases q : cl Γ e <;> rw [q] at hk <;> first | rfl | cases hk
  rw [hc] at rv
  have s1 := n.sr s
  cases u with
  | lst us =>
    cases c with
    | some cv => exact k.elim
    | none =>
      replace k : OutS X.K X.mg W fr (w.at none) D (if us.all flat = true then .ok (.nx (w.ρ.set i (some .cup))) (some us) else .bad) := k
      by_cases hf : us.all flat = true
      · rw [if_pos hf] at k
        have hac : w.ac = none := by
          cases q : w.ac with
          | none => rfl
          | some a =>
            obtain ⟨cv, e1, _⟩ := s1.cup a q
            cases e1
        obtain ⟨r1, r2⟩ := rv
        obtain ⟨a, rfl, ha⟩ := r2 us rfl
        cases r1 with
        | @lst _ _ vs h nb rs =>
        have hvs := rs.flat hf
        subst hvs
        have nblk : ¬ w.blk a := fun z => by
          obtain ⟨_, e⟩ := s.blkLive z
          rw [ha] at e; cases e
        have h0 : w.H0 a = none := s.no0 ha
        have hb : w.Hb a = none := by
          cases q : w.Hb a with
          | none => rfl
          | some o => rw [s.hb a o q (by rw [hac]; exact fun z => nomatch z)] at h0; cases h0
        have less : ∀ x, ({ w with ρ := w.ρ.set i (some .cup), cs := some us, ac := some a } : Wd).blk x → w.blk x ∨ x = a := fun x h => by
          rcases h with h | h | ⟨j, us', h, e⟩
          · exact .inl (.inl h)
          · cases h; exact .inr rfl
          · rcases set_at h with ⟨_, _, z⟩ | ⟨_, z⟩
            · cases z
            · exact .inl (.inr (.inr ⟨j, us', z, e⟩))
        have kp : Kp w.blk ({ w with ρ := w.ρ.set i (some .cup), cs := some us, ac := some a } : Wd).blk H H1 := ⟨fun b xs e nb => ⟨((n.kp s).l b xs e nb).1, fun z => (less b z).elim nb fun z => by rw [z, ha] at e; cases e⟩, (n.kp s).t⟩
        refine OutS.now (w := w.at none) (f := .nx (w.ρ.set i (some .cup))) (c := some us) k (w' := { w with ρ := w.ρ.set i (some .cup), cs := some us, ac := some a }) ⟨rfl, rfl, rfl, .inr ⟨hac, fun b e => by cases e; exact h0⟩⟩ ⟨by simp [s.len], fun b o e _ => s1.base b o e (by show w.ac ≠ _; rw [hac]; exact fun z => nomatch z), s1.live, fun b o e _ => s1.hb b o e (by show w.ac ≠ _; rw [hac]; exact fun z => nomatch z), fun b e => by cases e; exact .inl ⟨hb, h0⟩, fun b e => by cases e; exact ⟨us, rfl, hf, h⟩, (fun z => nomatch z), fun j us' e => ?_, fun j j' us1 us2 e1 e2 e3 => ?_, fun j u' e => ?_, fun j u' e => ?_, fun j e => ?_, fun j us' e => ?_⟩ rfl rfl
        · rcases set_at e with ⟨_, _, z⟩ | ⟨z, e⟩
          · cases z
          · obtain ⟨h1, h2, h3, vs', h4, h5⟩ := s.own j us' e
            refine ⟨by rw [List.getElem?_set_ne (fun q => z q.symm)]; exact h1, h2, ⟨fun q => ?_, h3.2⟩, vs', n.k _ _ h4 h3.1, h5.mono kp⟩
            have q : a = w.β j := Option.some.inj q
            rw [← q, ha] at h4; cases h4
        · rcases set_at e1 with ⟨_, _, z⟩ | ⟨_, e1⟩
          · cases z
          · rcases set_at e2 with ⟨_, _, z⟩ | ⟨_, e2⟩
            · cases z
            · exact s.inj _ _ _ _ e1 e2 e3
        · rcases set_at e with ⟨_, _, z⟩ | ⟨z, e⟩
          · cases z
          · obtain ⟨v', h1, h2⟩ := s.fr j u' e
            exact ⟨v', by rw [List.getElem?_set_ne (fun q => z q.symm)]; exact h1, h2.mono kp⟩
        · rcases set_at e with ⟨_, _, z⟩ | ⟨z, e⟩
          · cases z
          · obtain ⟨v', h1, h2⟩ := s.bor j u' e
            refine ⟨v', by rw [List.getElem?_set_ne (fun q => z q.symm)]; exact h1, ?_⟩
            rcases h2 with h2 | ⟨a', us', vs', e1, e2, e3, e4, e5⟩
            · exact .inl h2
            · refine .inr ⟨a', us', vs', e1, e2, fun q => ?_, e4, e5⟩
              cases q
              have e4 : w.Hb a = _ := e4
              rw [hb] at e4; cases e4
        · rcases set_at e with ⟨z, hi, _⟩ | ⟨z, e⟩
          · subst z
            exact ⟨a, rfl, by rw [List.getElem?_set_self (by rw [← s.len]; exact hi)]⟩
          · obtain ⟨a', h1, _⟩ := s.cupS j e
            rw [hac] at h1; cases h1
        · rcases set_at e with ⟨_, _, z⟩ | ⟨z, e⟩
          · cases z
          · obtain ⟨a', ns, h1, h2, h3, h4⟩ := s.scr j us' e
            refine ⟨a', ns, by rw [List.getElem?_set_ne (fun q => z q.symm)]; exact h1, h2, h3, fun o e q => ?_⟩
            cases q
            have e : w.Hb a = some o := e
            rw [hb] at e; cases e
      · rw [if_neg hf] at k; exact k.elim
  | _ => cases c <;> exact k.elim
end
end Mi

/-! M16.lean -/
namespace Mi
open PySem PySem.Spec PyProof.Rows L2
section
variable {X : Cx} {c : CE} {Γ : Gm} {W : XK} {fr : Bool} {σ : L2.St} {H : Hp} {D : Ends}
theorem r_loop {is : List Nat} {fl : Bool} {it : E} {b : S} (hw : walkOk Γ it = true) (h : Cx.tS X W Γ fr (.loop is fl it b) D σ H) : tFor (tI X.K X.mg W Γ false it) (tG X.K fl is) (Cx.tS X W Γ fr b) D σ H := by
  obtain ⟨w, s, o⟩ := h
  simp only [evS, if_pos hw] at o
  refine ⟨w, s, (o.bnd s).imp fun us c H1 n k J wk => ?_⟩
  have s1 := n.sr s
  obtain ⟨Hr, q⟩ := cut_ex (w.at c) H1
  refine ⟨fun i m σ' H' => m = us.length - i ∧ i ≤ us.length ∧ ∃ w', Tr ((w.at c).on Hr) w' ∧ SR X.K w' σ' H' ∧ OutS X.K X.mg W fr (w'.on w.H0) D (loopL is fl (evS Γ b) (us.drop i) w'.ρ w'.cs), ⟨_, rfl, Nat.zero_le _, (w.at c).on Hr, .refl, q.sr s1, k⟩, ?_⟩
  rintro i m σ' H' ⟨rfl, hi', w', t, s', o'⟩
  have hr : w'.H0 = Hr := t.h
  have acs : ∀ b, w.ac = some b → w'.ac = some b := fun b e => by
    rcases t.ac with g | ⟨g, _⟩
    · exact g.trans e
    · rw [show w.ac = none from g] at e; cases e
  have notac : ∀ b o, Hr b = some o → w'.ac ≠ some b := fun b o e z => by
    rcases t.ac with g | ⟨_, g⟩
    · rw [q.ac (g.symm.trans z)] at e; cases e
    · have g := g b z
      rw [show Hr b = none from g] at e; cases e
  have stable : ∀ b o, stb false w b → H1 b = some o → H' b = some o := fun b o st e => by
    have e2 : Hr b = some o := (q.c1 b st).trans e
    exact s'.base b o (by rw [hr]; exact e2) (notac b o e2)
  have back : ∀ {w3 : Wd} {σ3 : L2.St} {H3 : Hp}, Tr w' w3 → SR X.K w3 σ3 H3 → SR X.K (w3.on w.H0) σ3 H3 ∧ Tr (w'.on w.H0) (w3.on w.H0) := fun {w3 σ3 H3} t3 s3 => by
    refine ⟨(q.back s1 (t.trans t3) s3).1, t3.b, rfl, t3.hb, ?_⟩
    rcases t3.ac with g | ⟨g, g2⟩
    · exact .inl g
    · refine .inr ⟨g, fun a e => q.none s1 (by rw [← hr]; exact g2 a e) fun z => ?_⟩
      rw [acs a z] at g; cases g
  by_cases hlt : i < us.length
  · refine .inr ⟨(wk H' stable i).1 hlt, fun σ3 H3 => ∃ w3, Tr ((w.at c).on Hr) w3 ∧ SR X.K w3 σ3 H3 ∧ OutS X.K X.mg W fr (w3.on w.H0) D (loopL is fl (evS Γ b) (us.drop (i + 1)) w3.ρ w3.cs), fun σ3 H3 h => ⟨us.length - (i + 1), by omega, rfl, hlt, h⟩, fun x H2 hy => ?_⟩
    obtain ⟨u, hu, ext, rep⟩ := (wk H' stable i).2.2 x H2 hy hlt
    have s2 : SR X.K w' σ' H2 := (s'.same ext).sr s'
    have kB : Kp w.blk w'.blk H1 H2 := by
      refine ⟨fun b xs e nb => ?_, fun b xs e => ?_⟩
      · have st : stb false w b := ⟨fun z => nb (.inr (.inl z)), fun _ j us' hj z => nb (.inr (.inr ⟨j, us', hj, z.symm⟩))⟩
        refine ⟨ext b _ (stable b _ st e), ?_⟩
        have e2 : Hr b = some (.lst xs) := (q.c1 b st).trans e
        rintro (z | z | ⟨j, us', hj, z⟩)
        · rw [t.b] at z; exact nb (.inl z)
        · exact notac b _ e2 z
        · have := (s'.own j us' hj).2.1
          rw [hr, ← z, e2] at this; cases this
      · have st : stb false w b := by
          refine ⟨fun z => ?_, fun _ j us' hj z => ?_⟩
          · obtain ⟨cv, _, _, e2⟩ := s1.cup b z
            rw [e] at e2; cases e2
          · obtain ⟨_, _, _, vs, e2, _⟩ := s1.own j us' hj
            have e2 : H1 (w.β j) = some (.lst vs) := e2
            rw [z, e] at e2; cases e2
        exact ext b _ (stable b _ st e)
    have ru := rep _ kB
    have hdrop : us.drop i = u :: us.drop (i + 1) := by
      rw [List.drop_eq_getElem_cons hlt]
      rw [List.getElem?_eq_getElem hlt] at hu
      cases hu; rfl
    rw [hdrop] at o'
    simp only [loopL] at o'
    cases hasg : asg is fl u w'.ρ with
    | none => simp only [hasg] at o'; exact o'.elim
    | some ρ2 =>
      simp only [hasg] at o'
      obtain ⟨σ2, up, _, hq⟩ := asg_ok (K := X.K) (σ := σ') s2.len hasg ru
      refine hq _ ⟨{ w' with ρ := ρ2 }, Up.sr s2 up, ?_⟩
      cases hb : evS Γ b ρ2 w'.cs with
      | bad => rw [bnd_bad hb] at o'; exact o'
      | exc x c3 =>
        rw [bnd_exc hb] at o'
        intro H3 C hk hm
        refine o' H3 C (fun a o e z => hk a o ?_ z) hm
        show w'.H0 a = some o
        rw [hr]
        exact q.base s1 e fun z2 => z (acs a z2)
      | ok f c3 =>
        rw [bnd_ok hb] at o'
        intro w3 σ3 H3 t3 s3 hc3
        have t3 : Tr w' w3 := ⟨t3.b, t3.h, t3.hb, t3.ac⟩
        obtain ⟨sb, tr2⟩ := back t3 s3
        cases f with
        | nx ρ3 => exact fun hρ => ⟨w3, t.trans t3, s3, by rw [hρ, hc3]; exact OutS.tr tr2 o'⟩
        | ct ρ3 => exact fun hρ => ⟨w3, t.trans t3, s3, by rw [hρ, hc3]; exact OutS.tr tr2 o'⟩
        | bk ρ3 => exact fun hρ => o' (w3.on w.H0) σ3 H3 tr2 sb hc3 hρ
        | rt u =>
          intro v rv nv
          refine o' (w3.on w.H0) σ3 H3 tr2 sb hc3 v rv (New.of nv fun a e1 e2 e3 => ?_)
          have e3 : w'.H0 a = none := e3
          rw [hr] at e3
          by_cases z : w.ac = some a
          · rcases s1.acf a z with g | g
            · exact g.2
            · subst e1
              cases rv with
              | lst _ nb _ =>
                have nb : ¬ w'.B0 a := nb
                rw [t.b] at nb
                exact absurd g.1 nb
              | _ => cases e2
          · exact q.none s1 e3 z
  · have e : i = us.length := by omega
    subst e
    rw [List.drop_length] at o'
    obtain ⟨sb, tr2⟩ := back .refl s'
    exact .inl ⟨(wk H' stable us.length).2.1 (Nat.le_refl _), o'.fin sb tr2 rfl rfl⟩
theorem r_loopN {is : List Nat} {fl : Bool} {it : E} {b : S} (hw : ¬ walkOk Γ it = true) (h : Cx.tS X W Γ fr (.loop is fl it b) D σ H) : tNever D σ H := by
  obtain ⟨w, s, o⟩ := h
  simp only [evS, if_neg hw] at o
  exact o.elim
end
end Mi

/-! M17.lean -/
namespace Mi
open PySem PySem.Spec PyProof.Rows L2
/-! ### statements compiled -/
def escs : E → List Nat
  | .evar i => [i]
  | .lvar i => [i]
  | .cons a b => escs a ++ escs b
  | .bin _ a b => escs a ++ escs b
  | .neg a => escs a
  | .not a => escs a
  | .cmp _ a b => escs a ++ escs b
  | .cmp2 _ _ a b d => escs a ++ escs b ++ escs d
  | .and a b => escs a ++ escs b
  | .or a b => escs a ++ escs b
  | .ite a b d => escs a ++ escs b ++ escs d
  | .tup a => escs a
  | .lst a => escs a
  | .call _ a => escs a
  | .callC _ _ a => escs a
  | .b1 _ a => escs a
  | .max2 a b => escs a ++ escs b
  | .min2 a b => escs a ++ escs b
  | .isi a _ => escs a
  | .sub a b => escs a ++ escs b
  | .slc _ _ a b d => escs a ++ escs b ++ escs d
  | .rev a => escs a
  | .comp own _ _ it _ b d => escs it ++ (escs b ++ escs d).filter fun i => !own.contains i
  | .iseq a => escs a
  | .rng1 a => escs a
  | .rng2 a b => escs a ++ escs b
  | .rng3 a b d => escs a ++ escs b ++ escs d
  | .zip a b => escs a ++ escs b
  | .enum a => escs a
  | _ => []
def frzs : List Nat → S → S
  | [], s => s
  | i :: r, s => .cons (.frz i) (frzs r s)
def isStar : Expr → Bool
  | .Starred _ _ => true
  | _ => false
def swN (sc : Scope) (ts : List Expr) : List Str := ts.filterMap fun
  | .Name id pos => if sc.names.lookup id == some .local && pos.line == (ts.head?.map (·.pos.line)).getD 0 then some id else none
  | _ => none
/-- in which order a row of names is stored -/
def swS (sc : Scope) (ts vs : List Expr) : Option (Option (List Str)) :=
  if (!(ts.length == 2 || ts.length == 3) || vs.length != ts.length) = true then some none
  else if (vs.any isStar) = true then some none
  else if ((swN sc ts).length != ts.length || (swN sc ts).eraseDups.length != (swN sc ts).length) = true then some none
  else if vs.all (foldedForSure 8) = true then some none
  else if vs.all (constantsAlone 8) = true then none
  else some (some (swN sc ts))
def cB (f : Stmt → Option S) : List Stmt → Option S
  | [] => some .nil
  | st :: r => (f st).bind fun a => (cB f r).map fun b => .cons a b
def isTupE : Expr → Bool
  | .Tuple _ _ _ => true
  | .List _ _ => true
  | _ => false
def isSlc : Expr → Bool
  | .Slice _ _ _ _ => true
  | _ => false
def deepE : Nat := 60
def eK (c : CE) (e : Expr) : Option E := keepE (cE c deepE e)
def isMk (x : Str) : E → Bool
  | .callS _ _ => x == ("cup" : Str)
  | _ => false
def cPar (c : CE) (ts vs : List Expr) : Option S := match ts, vs, swS c.sc ts vs with
  | [.Name x _, .Name y _], [a, b], some (some ns) => (slotL c x).bind fun i => (slotL c y).bind fun j => (eK c a).bind fun u => (eK c b).bind fun v =>
      if i ≠ j ∧ ns = [x, y] then some (frzs (escs u ++ escs v) (.par i j u v)) else none
  | [.Name x _, .Name y _, .Name z _], [a, b, d], some (some ns) => (slotL c x).bind fun i => (slotL c y).bind fun j => (slotL c z).bind fun k => (eK c a).bind fun u => (eK c b).bind fun v => (eK c d).bind fun w =>
      if (i ≠ j ∧ i ≠ k ∧ j ≠ k) ∧ ns = [x, y, z] then some (frzs (escs u ++ escs v ++ escs w) (.par3 i j k u v w)) else none
  | ts, vs, some none => (names (slotW c) ts).bind fun is => (cArgs (eK c) vs).map fun u => frzs (escs u) (.unp is (.tup u))
  | _, _, _ => none
def cS (c : CE) : Nat → Stmt → Option S
  | 0, _ => none
  | n + 1, st => match st with
    | .Assign [.Name x _] e _ => (eK c e).bind fun u => (slotW c x).map fun i => if isMk x u = true then .mkcup i u else frzs (escs u) (.set i u)
    | .Assign [.Tuple ts _ _] (.Tuple vs _ _) _ => cPar c ts vs
    | .Assign [.Tuple ts _ _] e _ => if isTupE e = false then (names (slotW c) ts).bind fun is => (eK c e).map fun u => frzs (escs u) (.unp is u) else none
    | .Assign [.Subscript (.Name y _) k _] e _ => if isSlc k = false then (slot c y).bind fun i => (cE c deepE k).bind fun v => (eK c e).map fun u => frzs (escs v ++ escs u) (.seti i v u) else none
    | .Expr (.Call (.Attribute (.Name y _) m ap) [a] [] cp) _ => if m = ("append" : Str) ∧ (ap.endLine == cp.line) = true then (slot c y).bind fun i => (eK c a).map fun u => frzs (escs u) (.app i u) else none
    | .Expr (.Call f as ks q) _ => (cE c deepE (.Call f as ks q)).map fun u => frzs (escs u) (.drop u)
    | .Return (some e) _ => (cE c deepE e).bind fun u => (match u with
      | .var i => some (.retv i)
      | u => if keptE u = true then some (frzs (escs u) (.ret u)) else none)
    | .Return none _ => some .retN
    | .If t a b _ => (cE c deepE t).bind fun u => (cB (cS c n) a).bind fun x => (cB (cS c n) b).map fun y => frzs (escs u) (.ite u x y)
    | .While t a [] _ => (cE c deepE t).bind fun u => (cB (cS c n) a).map fun x => frzs (escs u) (.whl u x)
    | .For tg it a [] _ => (cI c (cE c deepE) it).bind fun i => (cT (slotW c) tg).bind fun t => (cB (cS c n) a).bind fun x => if pairy i t.2 = true then some (frzs (escs (lvI i)) (.loop t.1 t.2 (lvI i) x)) else none
    | .Break _ => some .brk
    | .Continue _ => some .cnt
    | .Pass _ => some .pas
    | .Raise _ _ _ => some .never
    | _ => none
/-- only fresh lists are answered -/
def frs (Γ : Gm) : S → Bool
  | .cons a b => frs Γ a && frs Γ b
  | .ret e => (cl Γ e).isNew
  | .ite _ a b => frs Γ a && frs Γ b
  | .whl _ b => frs Γ b
  | .loop _ _ _ b => frs Γ b
  | _ => true
structure Gs (X : Cx) (c : CE) (Γ : Gm) (W : XK) extends Gd X c Γ W where
  scope : X.env.scope = c.sc
  fnc : ∀ x, c.sc.names.lookup x = some .cell → X.fn x = true
  pass : PassesOwn (model X.prog X.w) X.A X.env X.xe
  bk : X.env.blockKind = .function
section
variable {X : Cx} {c : CE} {Γ : Gm} {W : XK} {fr : Bool} {σ : L2.St} {H : Hp} {D : Ends}
theorem r_frzs {a : S} : ∀ {l : List Nat}, Cx.tS X W Γ fr (frzs l a) D σ H → Cx.tS X W Γ fr a D σ H
  | [], h => h
  | i :: r, h => r_frzs (l := r) (r_frz h)
theorem PS.frzs {st : Stmt} {a : S} {l : List Nat} (h : PS X st (Cx.tS X W Γ fr a)) : PS X st (Cx.tS X W Γ fr (Mi.frzs l a)) := PS.imp h fun _ _ _ h => r_frzs h
theorem frs_frzs {a : S} : ∀ {l : List Nat}, frs Γ (frzs l a) = frs Γ a
  | [] => rfl
  | i :: r => by show (true && frs Γ (frzs r a)) = _; rw [frs_frzs, Bool.true_and]
theorem swS_ok {env : Env} {ts vs : List Expr} {k k2 : Nat} {p p2 : Pos} {r : Option (List Str)} (hb : env.blockKind = .function) (h : swS env.scope ts vs = some r) : swappedStores [.Tuple ts k p] (.Tuple vs k2 p2) env = pure r := by
  have h1 : (vs.any fun | .Starred .. => true | _ => false) = vs.any isStar := rfl
  have h2 : (ts.filterMap fun
    | .Name id pos => if env.kindOf id == some .local && pos.line == (ts.head?.map (·.pos.line)).getD 0 then some id else none
    | _ => none) = swN env.scope ts := rfl
  unfold swS at h
  show (if (!(ts.length == 2 || ts.length == 3) || vs.length != ts.length || env.blockKind != .function) = true then (pure none : Sem _) else
    if (vs.any isStar) = true then pure none else
    if ((swN env.scope ts).length != ts.length || (swN env.scope ts).eraseDups.length != (swN env.scope ts).length) = true then pure none else
    if vs.all (foldedForSure 8) = true then pure none else
    if vs.all (constantsAlone 8) = true then _ else pure (some (swN env.scope ts))) = _
  have hb' : (env.blockKind != .function) = false := by rw [hb]; rfl
  rw [hb', Bool.or_false]
  by_cases c1 : (!(ts.length == 2 || ts.length == 3) || vs.length != ts.length) = true
  · rw [if_pos c1] at h ⊢; cases h; rfl
  rw [if_neg c1] at h ⊢
  by_cases c2 : (vs.any isStar) = true
  · rw [if_pos c2] at h ⊢; cases h; rfl
  rw [if_neg c2] at h ⊢
  by_cases c3 : ((swN env.scope ts).length != ts.length || (swN env.scope ts).eraseDups.length != (swN env.scope ts).length) = true
  · rw [if_pos c3] at h ⊢; cases h; rfl
  rw [if_neg c3] at h ⊢
  by_cases c4 : vs.all (foldedForSure 8) = true
  · rw [if_pos c4] at h ⊢; cases h; rfl
  rw [if_neg c4] at h ⊢
  by_cases c5 : vs.all (constantsAlone 8) = true
  · rw [if_pos c5] at h; cases h
  rw [if_neg c5] at h ⊢
  cases h; rfl
theorem eK_ok (g : Gd X c Γ W) {e : Expr} {u : E} (h : eK c e = some u) : PE X e (Cx.tE X W Γ u) ∧ keptE u = true ∧ Shp e := by
  simp only [eK, keepE, Option.bind_eq_some_iff] at h
  obtain ⟨v, h3, h4⟩ := h
  split at h4
  · rename_i hk
    cases h4
    exact ⟨(cE_ok g h3).esc, hk, cE_shp h3⟩
  · cases h4
theorem Gs.store (g : Gs X c Γ W) {x : Str} {i : Nat} (h : slotW c x = some i) : X.N[i]? = some x ∧ Loc X.env.scope x ∧ (X.fn x = true ∨ X.env.scope.names.lookup x = some .local) := by
  obtain ⟨h1, h2⟩ := g.toGd.slotW h
  refine ⟨h1, h2, ?_⟩
  rcases h2 with h2 | h2
  · exact .inr h2
  · exact .inl (g.fnc x (by rw [← g.scope]; exact h2))
/-- a comprehension that a local is set to on one line -/
theorem lc_set (g : Gd X c Γ W) {n : Nat} {elt : Expr} {gens : List Comprehension} {scope : Scope} {pos : Pos} {u : E} (h : cE c n (.ListComp elt gens scope pos) = some u) {i : Nat} {y : Str} {py spos : Pos} (hi : X.N[i]? = some y) (hy : X.env.scope.names.lookup y = some .local)
    (hs : swapsWith (.ListComp elt gens scope pos) (some (.Name y py)) spos.line X.env = pure true) : PS X (.Assign [.Name y py] (.ListComp elt gens scope pos) spos) (tAsg (Cx.tE X W Γ (esc u)) (gName i)) := by
  cases n with
  | zero => cases h
  | succ n =>
    have hf : SubOk X W Γ (cE c n) := fun a v hv => ⟨cE_ok g hv, cE_shp hv⟩
    unfold cE at h
    split at h
    all_goals first | (cases h; done) | skip
    all_goals rename_i he
    all_goals first | (cases he; done) | skip
    rename_i elt' tg it ifs scope' p
    cases he
    by_cases hb : blkC c.N c.sc scope (ownOf c.N scope.names) = true
    case neg => simp only [if_neg hb] at h; cases h
    simp only [if_pos hb, Option.bind_eq_some_iff] at h
    obtain ⟨i', hi', t, ht, u', hu, h⟩ := h
    split at h
    case isFalse => cases h
    case isTrue hp =>
    have hf' : ∀ (s : Shared) (H : Hp) (C : Addr) (cl : List (Str × Addr)) (fp : List Addr), SubOk (X.blk s H scope (compEnvC scope cl C X.env) fp) Fls Γ (cE { c with sc := scope } n) := fun s H C cl fp a v hv => ⟨cE_ok (g.blk s H scope cl C fp) hv, cE_shp hv⟩
    split at h
    · cases h
      exact (comp_ok g hf hf' hb hi' ht hu hp.1 hp.2 (.inl ⟨rfl, rfl⟩)).2 hi hy hs
    · rename_i d
      simp only [Option.map_eq_some_iff] at h
      obtain ⟨v, hv, rfl⟩ := h
      exact (comp_ok g hf hf' hb hi' ht hu hp.1 hp.2 (.inr ⟨d, rfl, rfl, hv⟩)).2 hi hy hs
    · cases h
end
end Mi

/-! M18.lean -/
namespace Mi
open PySem PySem.Spec PyProof.Rows L2
section
variable {X : Cx} {c : CE} {Γ : Gm} {W : XK} {fr : Bool} {σ : L2.St} {H : Hp} {D : Ends}
theorem sw_ok {e : Expr} {n : Nat} {u : E} (h : cE c n e = some u) {x : Str} {py : Pos} {line : Nat} : swapsWith e (some (.Name x py)) line X.env = pure false ∨
    ∃ elt gens scope pos, e = .ListComp elt gens scope pos ∧ X.env.scope.names.lookup x = some .local ∧ swapsWith (.ListComp elt gens scope pos) (some (.Name x py)) line X.env = pure true := by
  cases e
  case ListComp elt gens scope pos =>
    have e1 : swapsWith (.ListComp elt gens scope pos) (some (.Name x py)) line X.env = pure (X.env.blockKind == .function && X.env.kindOf x == some .local && py.line == pos.line && !(scope.names.any fun (n, k) => n == x && (k == .local || k == .cell))) := rfl
    rw [e1]
    by_cases hb : (X.env.blockKind == .function && X.env.kindOf x == some .local && py.line == pos.line && !(scope.names.any fun (n, k) => n == x && (k == .local || k == .cell))) = true
    · right
      refine ⟨elt, gens, scope, pos, rfl, ?_, by rw [e1, hb]⟩
      simp only [Bool.and_eq_true, beq_iff_eq] at hb
      exact hb.1.1.2
    · left
      have hb : (X.env.blockKind == .function && X.env.kindOf x == some .local && py.line == pos.line && !(scope.names.any fun (n, k) => n == x && (k == .local || k == .cell))) = false := by
        cases q : (X.env.blockKind == .function && X.env.kindOf x == some .local && py.line == pos.line && !(scope.names.any fun (n, k) => n == x && (k == .local || k == .cell))) <;> first | rfl | exact absurd q hb
      rw [hb]
  case SetComp => cases n <;> cases h
  case DictComp => cases n <;> cases h
  all_goals exact .inl rfl
theorem eK_get {e : Expr} {u : E} (h : eK c e = some u) : ∃ v, cE c deepE e = some v ∧ u = esc v ∧ keptE u = true := by
  simp only [eK, keepE, Option.bind_eq_some_iff] at h
  obtain ⟨v, h3, h4⟩ := h
  split at h4
  · rename_i hk; cases h4; exact ⟨v, h3, rfl, hk⟩
  · cases h4
/-- x = e -/
theorem ps_setE (g : Gs X c Γ W) {e : Expr} {x : Str} {u : E} {i : Nat} {py pos : Pos} (h : eK c e = some u) (hi : slotW c x = some i) : PS X (.Assign [.Name x py] e pos) (tAsg (Cx.tE X W Γ u) (gName i)) := by
  obtain ⟨v, h3, rfl, hk⟩ := eK_get h
  obtain ⟨s1, s2, s3⟩ := g.store hi
  rcases sw_ok (X := X) h3 (x := x) (py := py) (line := pos.line) with hs | ⟨elt, gens, scope, p, rfl, hl, hs⟩
  · exact ps_set g.nd s1 s2 (cE_ok g.toGd h3).esc hs s3
  · exact lc_set g.toGd h3 s1 hl hs
theorem ps_unpE (g : Gs X c Γ W) {e : Expr} {ts : List Expr} {u : E} {is : List Nat} {k : Nat} {pt pos : Pos} (he : PE X e (Cx.tE X W Γ u)) (hk : keptE u = true) (hn : names (slotW c) ts = some is)
    (hs : swapsWithSole [.Tuple ts k pt] e pos.line X.env = pure false) (hw : swappedStores [.Tuple ts k pt] e X.env = pure none) : PS X (.Assign [.Tuple ts k pt] e pos) (Cx.tS X W Γ fr (.unp is u)) := by
  have ht : cT (slotW c) (.Tuple ts k pt) = some (is, false) := by simp only [cT, hn]; rfl
  exact PS.imp (ps_asg he (cT_pg g.calm g.nd (fun x i h => g.store h) ht).1 hs hw rfl) fun _ _ _ h => r_unp hk h
theorem cPar_ok (g : Gs X c Γ W) {ts vs : List Expr} {s : S} {k k2 : Nat} {pt p2 pos : Pos} (h : cPar c ts vs = some s) : PS X (.Assign [.Tuple ts k pt] (.Tuple vs k2 p2) pos) (Cx.tS X W Γ fr s) := by
  have hsw : swapsWithSole [.Tuple ts k pt] (.Tuple vs k2 p2) pos.line X.env = pure false := rfl
  unfold cPar at h
  split at h
  · rename_i x px y py a b ns hw
    simp only [Option.bind_eq_some_iff] at h
    obtain ⟨i, hi, j, hj, u, hu, v, hv, h⟩ := h
    split at h
    · rename_i hc
      obtain ⟨hij, rfl⟩ := hc
      cases h
      obtain ⟨i1, i2⟩ := g.toGd.slotL hi
      obtain ⟨j1, j2⟩ := g.toGd.slotL hj
      obtain ⟨u1, u2, u3⟩ := eK_ok g.toGd hu
      obtain ⟨v1, v2, v3⟩ := eK_ok g.toGd hv
      refine PS.frzs (PS.imp (ps_par g.calm g.nd i1 j1 hij i2 j2 (pa_cons u1 (pa_cons v1 pa_nil (star_cons v3.star _ _)) (star_cons u3.star _ _)) (swS_ok g.bk (by rw [g.scope]; exact hw)) hsw) fun _ _ _ h => r_par u2 v2 h)
    · cases h
  · rename_i x px y py z pz a b d ns hw
    simp only [Option.bind_eq_some_iff] at h
    obtain ⟨i, hi, j, hj, l, hl, u, hu, v, hv, w, hw', h⟩ := h
    split at h
    · rename_i hc
      obtain ⟨⟨hij, hil, hjl⟩, rfl⟩ := hc
      cases h
      obtain ⟨i1, i2⟩ := g.toGd.slotL hi
      obtain ⟨j1, j2⟩ := g.toGd.slotL hj
      obtain ⟨l1, l2⟩ := g.toGd.slotL hl
      obtain ⟨u1, u2, u3⟩ := eK_ok g.toGd hu
      obtain ⟨v1, v2, v3⟩ := eK_ok g.toGd hv
      obtain ⟨w1, w2, w3⟩ := eK_ok g.toGd hw'
      refine PS.frzs (PS.imp (ps_par3 g.calm g.nd i1 j1 l1 hij hil hjl i2 j2 l2 (pa_cons u1 (pa_cons v1 (pa_cons w1 pa_nil (star_cons w3.star _ _)) (star_cons v3.star _ _)) (star_cons u3.star _ _)) (swS_ok g.bk (by rw [g.scope]; exact hw)) hsw) fun _ _ _ h => r_par3 u2 v2 w2 h)
    · cases h
  · rename_i hw
    simp only [Option.bind_eq_some_iff, Option.map_eq_some_iff] at h
    obtain ⟨is, hi, u, hu, rfl⟩ := h
    have hf : SubOk X W Γ (cE c deepE) := fun a v hv => ⟨cE_ok g.toGd hv, cE_shp hv⟩
    exact PS.frzs (ps_unpE g (pe_tup' (cArgs_K hf hu)) rfl hi hsw (swS_ok g.bk (by rw [g.scope]; exact hw)))
  · cases h
theorem cB_ok {f : Stmt → Option S} (hf : ∀ st s, f st = some s → (fr = true → frs Γ s = true) → PS X st (Cx.tS X W Γ fr s)) : ∀ {sts : List Stmt} {s : S}, cB f sts = some s → (fr = true → frs Γ s = true) → PSs X sts (Cx.tS X W Γ fr s)
  | [], s, h, _ => by cases h; exact PSs.imp pss_nil fun _ _ _ h => r_nil h
  | st :: r, s, h, hr => by
    simp only [cB, Option.bind_eq_some_iff, Option.map_eq_some_iff] at h
    obtain ⟨a, h1, b, h2, rfl⟩ := h
    have h3 : fr = true → frs Γ a = true ∧ frs Γ b = true := fun e => by
      have := hr e
      simp only [frs, Bool.and_eq_true] at this
      exact this
    exact PSs.imp (pss_cons (hf st a h1 fun e => (h3 e).1) (cB_ok hf h2 fun e => (h3 e).2)) fun _ _ _ h => r_cons h
theorem cS_ok (g : Gs X c Γ W) : ∀ {n : Nat} {st : Stmt} {s : S}, cS c n st = some s → (fr = true → frs Γ s = true) → PS X st (Cx.tS X W Γ fr s)
  | 0, _, _, h, _ => by cases h
  | n + 1, st, s, h, hr => by
    have hB : ∀ {sts : List Stmt} {s : S}, cB (cS c n) sts = some s → (fr = true → frs Γ s = true) → PSs X sts (Cx.tS X W Γ fr s) := fun h hr => cB_ok (fun st s h hr => cS_ok g h hr) h hr
    have fz : ∀ {l : List Nat} {a : S}, (fr = true → frs Γ (frzs l a) = true) → fr = true → frs Γ a = true := fun h e => by
      have := h e
      rwa [frs_frzs] at this
    unfold cS at h
    split at h
    · simp only [Option.bind_eq_some_iff, Option.map_eq_some_iff] at h
      obtain ⟨u, hu, i, hi, h⟩ := h
      have hp := fun py pos => ps_setE g (py := py) (pos := pos) hu hi
      split at h
      · rename_i hm
        cases h
        refine PS.imp (hp _ _) fun _ _ _ h => r_mkcup ?_ h
        cases u <;> first | rfl | (simp [isMk] at hm; done)
      · cases h
        exact PS.frzs (PS.imp (hp _ _) fun _ _ _ h => r_set (eK_ok g.toGd hu).2.1 h)
    · exact cPar_ok g h
    · split at h
      case isFalse => cases h
      case isTrue hn =>
      rename_i e _ _
      simp only [Option.bind_eq_some_iff, Option.map_eq_some_iff] at h
      obtain ⟨is, hi, u, hu, rfl⟩ := h
      obtain ⟨u1, u2, u3⟩ := eK_ok g.toGd hu
      refine PS.frzs (ps_unpE g u1 u2 hi ?_ ?_)
      · cases e <;> rfl
      · cases e <;> first | rfl | cases hn
    · rename_i k _ e _
      split at h
      case isFalse => cases h
      case isTrue hn =>
      simp only [Option.bind_eq_some_iff, Option.map_eq_some_iff] at h
      obtain ⟨i, hi, v, hv, u, hu, rfl⟩ := h
      obtain ⟨u1, u2, u3⟩ := eK_ok g.toGd hu
      obtain ⟨h1, h2, h3, h4⟩ := g.toGd.slot hi
      refine PS.frzs (PS.imp (ps_asg u1 (pg_sub (pe_var h1 h2 h3 h4) (cE_ok g.toGd hv).pe set_list ?_) ?_ ?_ rfl) fun _ _ _ h => r_seti u2 h)
      · intro v
        cases k <;> first | rfl | cases hn
      · cases e <;> rfl
      · cases e <;> rfl
    · rename_i y q m ap a cp p
      split at h
      case isFalse => cases h
      case isTrue hn =>
      obtain ⟨rfl, hl⟩ := hn
      simp only [Option.bind_eq_some_iff, Option.map_eq_some_iff] at h
      obtain ⟨i, hi, u, hu, rfl⟩ := h
      obtain ⟨u1, u2, u3⟩ := eK_ok g.toGd hu
      obtain ⟨h1, h2, h3, h4⟩ := g.toGd.slot hi
      have hst := star_cons u3.star [] X.env
      refine PS.frzs (PS.imp (ps_expr (pe_bm PySem.F.plainAttrs_list PySem.F.slot_list_append PySem.F.type_list_append mt_append (pe_var h1 h2 h3 h4) (pa_cons u1 pa_nil hst) rfl ?_ hl hst rfl)) fun _ _ _ h => r_app u2 h)
      rw [hst]; rfl
    · simp only [Option.map_eq_some_iff] at h
      obtain ⟨u, hu, rfl⟩ := h
      exact PS.frzs (PS.imp (ps_expr (cE_ok g.toGd hu).pe) fun _ _ _ h => r_drop h)
    · simp only [Option.bind_eq_some_iff] at h
      obtain ⟨u, hu, h⟩ := h
      split at h
      · cases h
        obtain ⟨y, q, rfl, hy⟩ := cE_var hu
        obtain ⟨h1, h2, h3, h4⟩ := g.toGd.slot hy
        exact PS.imp (ps_ret (pe_var h1 h2 h3 h4)) fun _ _ _ h => r_retv h
      · split at h
        · rename_i hk
          cases h
          exact PS.frzs (PS.imp (ps_ret (cE_ok g.toGd hu).pe) fun _ _ _ h => r_ret hk (fun e => fz hr e) h)
        · cases h
    · cases h; exact PS.imp ps_retN fun _ _ _ h => r_retN h
    · simp only [Option.bind_eq_some_iff, Option.map_eq_some_iff] at h
      obtain ⟨u, hu, x, hx, y, hy, rfl⟩ := h
      have h3 : fr = true → frs Γ x = true ∧ frs Γ y = true := fun e => by
        have := fz hr e
        simp only [frs, Bool.and_eq_true] at this
        exact this
      exact PS.frzs (PS.imp (ps_if (cE_ok g.toGd hu).pt (hB hx fun e => (h3 e).1) (hB hy fun e => (h3 e).2)) fun _ _ _ h => r_ite h)
    · simp only [Option.bind_eq_some_iff, Option.map_eq_some_iff] at h
      obtain ⟨u, hu, x, hx, rfl⟩ := h
      have h3 := fz hr
      exact PS.frzs (PS.imp (ps_while g.pass (cE_ok g.toGd hu).pt (hB hx h3)) fun _ _ _ h => r_whl h)
    · rename_i tg it a p
      simp only [Option.bind_eq_some_iff] at h
      obtain ⟨i, hi, t, ht, x, hx, h⟩ := h
      split at h
      case isFalse => cases h
      case isTrue hp =>
      cases h
      have h3 := fz hr
      have hf : SubOk X W Γ (cE c deepE) := fun a v hv => ⟨cE_ok g.toGd hv, cE_shp hv⟩
      obtain ⟨p1, p2⟩ := cT_pg g.calm g.nd (fun x i h => g.store h) ht
      have hfold : ∀ x, foldedSetIterable it X.env x = pure x := by
        intro x
        cases it with
        | Set elts k p =>
          unfold cI at hi
          simp only [Option.map_eq_some_iff] at hi
          obtain ⟨z, h1, _⟩ := hi
          exact ((hf _ _ h1).2.fold _ _)
        | _ => rfl
      by_cases hw : walkOk Γ (lvI i) = true
      · exact PS.frzs (PS.imp (ps_for g.pass g.calm ((cI_ok g.toGd hf hi hp p2).2 hw) p1 (hB hx h3) hfold) fun _ _ _ h => r_loop hw h)
      · exact PS.frzs (PS.imp ps_never fun _ _ _ h => r_loopN hw h)
    · cases h; exact PS.imp ps_break fun _ _ _ h => r_brk h
    · cases h; exact PS.imp ps_continue fun _ _ _ h => r_cnt h
    · cases h; exact PS.imp ps_pass fun _ _ _ h => r_pas h
    · cases h; exact PS.imp ps_never fun _ _ _ h => r_never h
    · cases h
end
end Mi

/-! M19.lean -/
namespace Mi
open PySem PySem.Spec PyProof.Rows L2
/-! ### defs -/
/-- a def that stands behind the top and keeps a promise -/
structure Own (P : Program) (w : World) (K : PySem.W.Frag) (mg : Str → Option Value) (base : Heap) (k : Nat) (x : Str) (fs : Fs) : Prop where
  ex : ∃ (f : Addr) (fd : FuncData) (ps : List Str), mg x = some (.ref f) ∧ PySem.W.keepIn K (.ref f) = true ∧ Binds K fd ps [] ∧ FnOk P w K mg base (CX P w) k f fd ps (spF K mg fs)
def Owns (P : Program) (w : World) (K : PySem.W.Frag) (mg : Str → Option Value) (base : Heap) (k : Nat) : List (Str × Nat) → Gm → Prop
  | [], _ => True
  | (x, j) :: l, fs :: g => (kindOf fs = j ∧ Own P w K mg base k x fs) ∧ Owns P w K mg base k l g
  | _ :: _, [] => False
/-- what all defs' proofs share -/
structure Gl0 (K : PySem.W.Frag) (mg : Str → Option Value) (gi : List (Str × Int)) : Prop where
  bt : ∀ x, x ∈ blts → mg x = none
  gi : ∀ x i, gi.lookup x = some i → ∃ t, mg x = some (.int i t)
section
variable {P : Program} {w : World} {K : PySem.W.Frag} {mg : Str → Option Value} {base : Heap} {k : Nat} {gi : List (Str × Int)}
theorem Own.mono {j : Nat} {x : Str} {fs : Fs} (o : Own P w K mg base j x fs) (h : j ≤ k) : Own P w K mg base k x fs := by
  obtain ⟨f, fd, ps, h1, h2, h3, h4⟩ := o.ex
  exact ⟨f, fd, ps, h1, h2, h3, h4.mono h⟩
theorem Owns.get : ∀ {l : List (Str × Nat)} {g : Gm} {x : Str} {n i j : Nat}, Owns P w K mg base k l g → fnIx x l n = some (i, j) → n ≤ i ∧ ∃ fs, g[i - n]? = some fs ∧ kindOf fs = j ∧ Own P w K mg base k x fs
  | [], _, _, _, _, _, _, h => by cases h
  | (y, b) :: l, fs :: g, x, n, i, j, o, h => by
    unfold fnIx at h
    split at h
    · rename_i e
      cases h; subst e
      exact ⟨Nat.le_refl _, fs, by simp, o.1.1, o.1.2⟩
    · obtain ⟨h1, fs', h2, h3⟩ := Owns.get o.2 h
      refine ⟨by omega, fs', ?_, h3⟩
      rw [show i - n = (i - (n + 1)) + 1 by omega]
      simpa using h2
  | _ :: _, [], _, _, _, _, o, _ => o.elim
theorem gs_of {N ps : List Str} {qual : Str} {scope : Scope} {f : Addr} {cd : Value} {A : Around} {outer : List Env} {s : Shared} {H : Hp} {E : XK} {fns : List (Str × Nat)} {Γ : Gm} (S : FnScope N ps scope) (G : Gl0 K mg gi) (O : Owns P w K mg base k fns Γ)
    (hr : Room k (A.deeper (envOfC qual scope s.heap.objs.size f cd))) : Gs (cxOf (CX P w) P w K mg base N qual scope f cd A outer s H E) ⟨N, scope, fns, gi⟩ Γ E where
  N := rfl
  nd := S.nd
  calm := rfl
  sc := fun x k h => ⟨k, h, .inl rfl⟩
  bt := G.bt
  gi := G.gi
  tk := takes_of rfl rfl rfl rfl
  un := by have := hr.un; show (A.deeper (envOfC qual scope s.heap.objs.size f cd)).units + 65 < _; omega
  fns := fun x i j h => by
    obtain ⟨_, fs, h1, h2, h3⟩ := O.get h
    obtain ⟨f', fd, ps', g1, g2, g3, g4⟩ := h3.ex
    exact ⟨fs, by simpa using h1, h2, ⟨k, f', fd, ps', hr, g1, g2, g3, g4⟩⟩
  scope := rfl
  fnc := fun _ _ => rfl
  pass := passes_of rfl
  bk := by
    show (if scope.kind.isAnnotationScope then ScopeKind.function else scope.kind) = _
    rw [S.kind]; rfl
/-! ### a def's entry -/
theorem rep_none {n i : Nat} {x : Option Sl} (h : (List.replicate n (none : Option Sl))[i]? = some x) : x = none := by
  rw [List.getElem?_replicate] at h
  split at h
  · cases h; rfl
  · cases h
theorem RTs.get {ac : Option Addr} {B : Addr → Prop} {H : Hp} : ∀ {us : List U} {vs : List V} {i : Nat} {u : U}, RTs ac B H us vs → us[i]? = some u → ∃ v, vs[i]? = some v ∧ RepT ac B H u v
  | _, _, _, _, .nil, h => by simp at h
  | _, _, 0, _, .cons a _, h => by simp at h; subst h; exact ⟨_, rfl, a⟩
  | _, _, i + 1, _, .cons _ t, h => by
    obtain ⟨v, h1, h2⟩ := RTs.get t (i := i) (by simpa using h)
    exact ⟨v, by simpa using h1, h2⟩
theorem enter_at {n : Nat} {us : List U} {i : Nat} {x : Sl} (h : (enter n us)[i]? = some (some x)) : ∃ u, us[i]? = some u ∧ x = .bor u := by
  unfold enter at h
  by_cases hi : i < us.length
  · rw [List.getElem?_append_left (by simpa using hi), List.getElem?_map] at h
    rw [List.getElem?_eq_getElem hi] at h ⊢
    cases h
    exact ⟨_, rfl, rfl⟩
  · rw [List.getElem?_append_right (by simpa using Nat.le_of_not_lt hi)] at h
    exact absurd (rep_none h) (by simp)
theorem sr_enter {N : List Str} {us : List U} {vs : List V} {B : Addr → Prop} {H : Hp} (hl : Live B H) (r : RTs none B H us vs) : SR K { B0 := B, H0 := H, Hb := H, ac := none, ρ := enter N.length us, cs := none, β := fun _ => 0 } (L2.start N vs) H where
  len := by simp [enter, L2.start, r.length]
  base := fun _ _ e _ => e
  live := hl
  hb := fun _ _ e _ => e
  acf := fun _ e => nomatch e
  cup := fun _ e => nomatch e
  nocup := fun _ => rfl
  own := fun i us e => by obtain ⟨_, _, z⟩ := enter_at e; cases z
  inj := fun i j us us' e => by obtain ⟨_, _, z⟩ := enter_at e; cases z
  fr := fun i u e => by obtain ⟨_, _, z⟩ := enter_at e; cases z
  bor := fun i u e => by
    obtain ⟨u', h1, h2⟩ := enter_at e
    cases h2
    obtain ⟨v, h3, h4⟩ := r.get h1
    refine ⟨v, ?_, h4⟩
    have hi : i < vs.length := by
      by_cases q : i < vs.length
      · exact q
      · rw [List.getElem?_eq_none (by omega)] at h3; cases h3
    unfold L2.start
    rw [List.getElem?_append_left (by simpa using hi), List.getElem?_map, h3]; rfl
  cupS := fun i e => by obtain ⟨_, _, z⟩ := enter_at e; cases z
  scr := fun i us e => by obtain ⟨_, _, z⟩ := enter_at e; cases z
theorem enterC_at {n : Nat} {us : List U} {i : Nat} {x : Sl} (h : (enterC n us)[i]? = some (some x)) : (i = 0 ∧ x = .cup) ∨ ∃ j u, i = j + 1 ∧ us[j]? = some u ∧ x = .bor u := by
  cases i with
  | zero => simp [enterC] at h; exact .inl ⟨rfl, h.symm⟩
  | succ j =>
    right
    have h : (enter (n - 1) us)[j]? = some (some x) := by
      unfold enterC at h
      unfold enter
      simpa using h
    obtain ⟨u, h1, h2⟩ := enter_at h
    exact ⟨j, u, rfl, h1, h2⟩
theorem sr_enterC {N : List Str} {us : List U} {vs : List V} {B : Addr → Prop} {H : Hp} {a : Addr} {cv : List U} (hN : 0 < N.length) (hl : Live B H) (ha : B a) (f : cv.all flat = true) (hc : H a = some (.lst (cv.map fv))) (r : RTs (some a) B H us vs) :
    SR K { B0 := B, H0 := H, Hb := H, ac := some a, ρ := enterC N.length us, cs := some cv, β := fun _ => 0 } (L2.start N (.ref a :: vs)) H where
  len := by simp [enterC, L2.start, r.length]; omega
  base := fun _ _ e _ => e
  live := hl
  hb := fun _ _ e _ => e
  acf := fun b e => by cases e; exact .inr ⟨ha, _, hc⟩
  cup := fun b e => by cases e; exact ⟨cv, rfl, f, hc⟩
  nocup := fun e => nomatch e
  own := fun i us e => by rcases enterC_at e with ⟨_, z⟩ | ⟨_, _, _, _, z⟩ <;> cases z
  inj := fun i j us us' e => by rcases enterC_at e with ⟨_, z⟩ | ⟨_, _, _, _, z⟩ <;> cases z
  fr := fun i u e => by rcases enterC_at e with ⟨_, z⟩ | ⟨_, _, _, _, z⟩ <;> cases z
  bor := fun i u e => by
    rcases enterC_at e with ⟨_, z⟩ | ⟨j, u', rfl, h1, z⟩
    · cases z
    · cases z
      obtain ⟨v, h3, h4⟩ := r.get h1
      refine ⟨v, ?_, h4⟩
      have hi : j < vs.length := by
        by_cases q : j < vs.length
        · exact q
        · rw [List.getElem?_eq_none (by omega)] at h3; cases h3
      unfold L2.start
      rw [List.map_cons, List.cons_append, List.getElem?_cons_succ, List.getElem?_append_left (by simpa using hi), List.getElem?_map, h3]; rfl
  cupS := fun i e => by
    rcases enterC_at e with ⟨rfl, _⟩ | ⟨_, _, _, _, z⟩
    · exact ⟨a, rfl, rfl⟩
    · cases z
  scr := fun i us e => by rcases enterC_at e with ⟨_, z⟩ | ⟨_, _, _, _, z⟩ <;> cases z
theorem enterS_at {n : Nat} {us : List U} {i : Nat} {x : Sl} (h : (enterS n us)[i]? = some (some x)) : i = 0 ∧ x = .scr us := by
  cases i with
  | zero => simp [enterS] at h; exact ⟨rfl, h.symm⟩
  | succ j =>
    simp [enterS, List.getElem?_replicate] at h
theorem sr_enterS {N : List Str} {ns : List Int} {B : Addr → Prop} {H : Hp} {a : Addr} (hN : 0 < N.length) (hl : Live B H) (r : SqL K H a (ns.map V.int)) :
    SR K { B0 := B, H0 := H, Hb := H, ac := none, ρ := enterS N.length (ns.map U.int), cs := none, β := fun _ => 0 } (L2.start N [.ref a]) H where
  len := by simp [enterS, L2.start]
  base := fun _ _ e _ => e
  live := hl
  hb := fun _ _ e _ => e
  acf := fun b e => nomatch e
  cup := fun b e => nomatch e
  nocup := fun e => rfl
  own := fun i us e => by obtain ⟨_, z⟩ := enterS_at e; cases z
  inj := fun i j us us' e => by obtain ⟨_, z⟩ := enterS_at e; cases z
  fr := fun i u e => by obtain ⟨_, z⟩ := enterS_at e; cases z
  bor := fun i u e => by obtain ⟨_, z⟩ := enterS_at e; cases z
  cupS := fun i e => by obtain ⟨_, z⟩ := enterS_at e; cases z
  scr := fun i us e => by
    obtain ⟨rfl, z⟩ := enterS_at e
    cases z
    exact ⟨a, ns, rfl, rfl, r, fun o _ q => nomatch q⟩
/-! ### a def keeps its promise -/
variable {x qual : Str} {params : Arguments} {body : List Stmt} {scope : Scope} {f : Addr} {fd : FuncData} {N ps : List Str} {fns : List (Str × Nat)} {Γ : Gm} {st : S} {fr : Bool}
theorem ok_pure {Pf : List U → An} (F : FunD K x qual params body scope [] [] f fd) (S : FnScope N ps scope) (G : Gl0 K mg gi) (O : Owns P w K mg base k fns Γ) (hc : cB (cS ⟨N, scope, fns, gi⟩ deepE) body = some st) (hfr : fr = true → frs Γ st = true)
    (hP : ∀ us, us.length = ps.length → match Pf us with
      | .ok u => ∃ fl, evS Γ st (enter N.length us) none = .ok fl none ∧ done fl = some u
      | .exc x => ∃ c, evS Γ st (enter N.length us) none = .exc x c
      | .bad => True) : FnOk P w K mg base (CX P w) (k + 1) f fd ps (spF K mg (.pure ps.length fr Pf)) := by
  refine F.ok S (fun vs H Q E h => ?_) fun cdv A outer s H vs Q E hr h => ⟨_, cB_ok (fr := fr) (fun st s h hr' => cS_ok (gs_of S G O hr) h hr') hc hfr, ?_⟩
  · obtain ⟨B, us, h1, h2, h3, _⟩ := h
    rw [← h3.length, h1]
  · obtain ⟨B, us, h1, h2, h3, h4⟩ := h
    refine ⟨_, sr_enter h2 h3, ?_⟩
    have hP := hP us h1
    cases e : Pf us with
    | bad => rw [e] at h4; exact h4.elim
    | exc y =>
      rw [e] at h4 hP
      obtain ⟨c, hP⟩ := hP
      rw [hP]
      exact fun H' C hk hm => h4 H' C (fun b o q => hk b o q fun z => nomatch z) hm
    | ok u =>
      rw [e] at h4 hP
      obtain ⟨fl, hP, hd⟩ := hP
      rw [hP]
      intro w' σ' H' t s' hcs
      have hac : ∀ a, w'.ac = some a → H a = none := fun a e => by
        rcases t.ac with g | ⟨_, g⟩
        · rw [g] at e; cases e
        · exact g a e
      have kp : ∀ b o, H b = some o → H' b = some o := fun b o q => s'.base b o (by rw [t.h]; exact q) fun z => by rw [hac b z] at q; cases q
      cases fl with
      | nx ρ' =>
        cases hd
        exact fun _ => h4 H' .non kp .non fun _ xs e => nomatch e
      | rt u' =>
        cases hd
        exact fun v rv nv => h4 H' v kp rv nv
      | bk => cases hd
      | ct => cases hd
theorem ok_cup {n : Nat} {Pf : List U → List U → Option (U × List U)} (F : FunD K x qual params body scope [] [] f fd) (S : FnScope N ps scope) (hn : ps.length = n + 1) (hN : 0 < N.length) (G : Gl0 K mg gi) (O : Owns P w K mg base k fns Γ) (hc : cB (cS ⟨N, scope, fns, gi⟩ deepE) body = some st) (hfr : fr = true → frs Γ st = true)
    (hP : ∀ cv us u cv', us.length = n → cv.all flat = true → Pf cv us = some (u, cv') → ∃ fl, evS Γ st (enterC N.length us) (some cv) = .ok fl (some cv') ∧ done fl = some u) : FnOk P w K mg base (CX P w) (k + 1) f fd ps (spF K mg (.cupd n fr Pf)) := by
  refine F.ok S (fun vs H Q E h => ?_) fun cdv A outer s H vs Q E hr h => ⟨_, cB_ok (fr := fr) (fun st s h hr' => cS_ok (gs_of S G O hr) h hr') hc hfr, ?_⟩
  · obtain ⟨B, a, us, vs', cv, u, cv', rfl, h1, h2, h3, h4, h5, h6, _⟩ := h
    rw [List.length_cons, ← h6.length, h1, hn]
  · obtain ⟨B, a, us, vs', cv, u, cv', rfl, h1, h2, h3, h4, h5, h6, h7, h8⟩ := h
    refine ⟨_, sr_enterC hN h2 h3 h4 h5 h6, ?_⟩
    obtain ⟨fl, hP, hd⟩ := hP cv us u cv' h1 h4 h7
    rw [hP]
    intro w' σ' H' t s' hcs
    have hac : w'.ac = some a := by
      rcases t.ac with g | ⟨g, _⟩
      · exact g
      · cases g
    have kp : ∀ b o, H b = some o → b ≠ a → H' b = some o := fun b o q z => s'.base b o (by rw [t.h]; exact q) fun z2 => z (by rw [hac] at z2; cases z2; rfl)
    obtain ⟨cv2, e1, e2, e3⟩ := s'.cup a hac
    rw [hcs] at e1
    cases e1
    cases fl with
    | nx ρ' =>
      cases hd
      exact fun _ => h8 H' .non kp e2 e3 .non fun _ xs e => nomatch e
    | rt u' =>
      cases hd
      exact fun v rv nv => h8 H' v kp e2 e3 rv nv
    | bk => cases hd
    | ct => cases hd
theorem ok_scr {Pf : List U → Option U} (F : FunD K x qual params body scope [] [] f fd) (S : FnScope N ps scope) (hn : ps.length = 1) (hN : 0 < N.length) (G : Gl0 K mg gi) (O : Owns P w K mg base k fns Γ) (hc : cB (cS ⟨N, scope, fns, gi⟩ deepE) body = some st) (hfr : frs Γ st = true)
    (hP : ∀ (ns : List Int) (u : U), Pf (ns.map U.int) = some u → ∃ fl c, evS Γ st (enterS N.length (ns.map U.int)) none = .ok fl c ∧ done fl = some u) : FnOk P w K mg base (CX P w) (k + 1) f fd ps (spF K mg (.scr Pf)) := by
  refine F.ok S (fun vs H Q E h => ?_) fun cdv A outer s H vs Q E hr h => ⟨_, cB_ok (fr := true) (fun st s h hr' => cS_ok (gs_of S G O hr) h hr') hc (fun _ => hfr), ?_⟩
  · obtain ⟨B, a, ns, u, rfl, _⟩ := h
    rw [hn]; rfl
  · obtain ⟨B, a, ns, u, rfl, h2, h3, h4, h5⟩ := h
    refine ⟨_, sr_enterS hN h2 h3, ?_⟩
    obtain ⟨fl, c, hP, hd⟩ := hP ns u h4
    rw [hP]
    intro w' σ' H' t s' hcs
    have hac : ∀ a, w'.ac = some a → H a = none := fun a e => by
      rcases t.ac with g | ⟨_, g⟩
      · rw [g] at e; cases e
      · exact g a e
    have kp : ∀ b o, H b = some o → H' b = some o := fun b o q => s'.base b o (by rw [t.h]; exact q) fun z => by rw [hac b z] at q; cases q
    cases fl with
    | nx ρ' =>
      cases hd
      exact fun _ => h5 H' .non kp .non fun _ xs e => nomatch e
    | rt u' =>
      cases hd
      exact fun v rv nv => h5 H' v kp rv nv
    | bk => cases hd
    | ct => cases hd
end
end Mi

/-! M20.lean -/
namespace Mi
open PySem PySem.Spec PyProof.Rows L2
/-! ### a def is worth what its text comes to -/
def autoP (Γ : Gm) (st : S) (n : Nat) (us : List U) : An := match evS Γ st (enter n us) none with
  | .ok f none => (match done f with
    | some u => .ok u
    | none => .bad)
  | .ok _ (some _) => .bad
  | .exc x _ => .exc x
  | .bad => .bad
def autoC (Γ : Gm) (st : S) (n : Nat) (cv us : List U) : Option (U × List U) := match evS Γ st (enterC n us) (some cv) with
  | .ok f (some cv') => (done f).map fun u => (u, cv')
  | _ => none
def autoS (Γ : Gm) (st : S) (n : Nat) (us : List U) : Option U := match evS Γ st (enterS n us) none with
  | .ok f _ => done f
  | _ => none
section
variable {P : Program} {w : World} {K : PySem.W.Frag} {mg : Str → Option Value} {base : Heap} {k : Nat} {gi : List (Str × Int)}
variable {x qual : Str} {params : Arguments} {body : List Stmt} {scope : Scope} {f : Addr} {fd : FuncData} {N ps : List Str} {fns : List (Str × Nat)} {Γ : Gm} {st : S} {fr : Bool}
theorem Owns.nl : Owns P w K mg base k [] [] := trivial
theorem Owns.cs {y : Str} {j : Nat} {l : List (Str × Nat)} {fs : Fs} {g : Gm} (h : kindOf fs = j) (o : Own P w K mg base k y fs) (r : Owns P w K mg base k l g) : Owns P w K mg base k ((y, j) :: l) (fs :: g) := ⟨⟨h, o⟩, r⟩
theorem own_pure (F : FunD K x qual params body scope [] [] f fd) (hm : mg x = some (.ref f)) (hb : Binds K fd ps []) (S : FnScope N ps scope) (G : Gl0 K mg gi) (O : Owns P w K mg base k fns Γ) (hc : cB (cS ⟨N, scope, fns, gi⟩ deepE) body = some st) (hfr : (!fr || frs Γ st) = true) :
    Own P w K mg base (k + 1) x (.pure ps.length fr (autoP Γ st N.length)) := by
  refine ⟨f, fd, ps, hm, F.kp, hb, ok_pure F S G O hc (fun e => by rw [e] at hfr; simpa using hfr) fun us _ => ?_⟩
  unfold autoP
  cases e : evS Γ st (enter N.length us) none with
  | ok fl c =>
    cases c with
    | none =>
      cases hd : done fl with
      | some u => dsimp only; rw [hd]; exact ⟨fl, rfl, hd⟩
      | none => dsimp only; rw [hd]; trivial
    | some cv => trivial
  | exc y c => exact ⟨c, rfl⟩
  | bad => trivial
theorem own_cup (F : FunD K x qual params body scope [] [] f fd) (hm : mg x = some (.ref f)) (hb : Binds K fd ps []) (S : FnScope N ps scope) (G : Gl0 K mg gi) (O : Owns P w K mg base k fns Γ) (hc : cB (cS ⟨N, scope, fns, gi⟩ deepE) body = some st) (hfr : (!fr || frs Γ st) = true) {n : Nat} (hn : ps.length = n + 1) (hN : 0 < N.length) :
    Own P w K mg base (k + 1) x (.cupd n fr (autoC Γ st N.length)) := by
  refine ⟨f, fd, ps, hm, F.kp, hb, ok_cup F S hn hN G O hc (fun e => by rw [e] at hfr; simpa using hfr) fun cv us u cv' h1 h2 h3 => ?_⟩
  unfold autoC at h3
  split at h3
  · rename_i fl cv2 e
    rw [Option.map_eq_some_iff] at h3
    obtain ⟨u2, h4, h5⟩ := h3
    cases h5
    exact ⟨fl, e, h4⟩
  · cases h3
theorem own_scr (F : FunD K x qual params body scope [] [] f fd) (hm : mg x = some (.ref f)) (hb : Binds K fd ps []) (S : FnScope N ps scope) (G : Gl0 K mg gi) (O : Owns P w K mg base k fns Γ) (hc : cB (cS ⟨N, scope, fns, gi⟩ deepE) body = some st) (hfr : frs Γ st = true) (hn : ps.length = 1) (hN : 0 < N.length) :
    Own P w K mg base (k + 1) x (.scr (autoS Γ st N.length)) := by
  refine ⟨f, fd, ps, hm, F.kp, hb, ok_scr F S hn hN G O hc hfr fun ns u h3 => ?_⟩
  unfold autoS at h3
  split at h3
  · rename_i fl c e
    exact ⟨fl, c, e, h3⟩
  · cases h3
/-- a def that is never called with success -/
theorem own_bad (F : FunD K x qual params body scope [] [] f fd) (hm : mg x = some (.ref f)) (hb : Binds K fd ps []) {n : Nat} {fr : Bool} : Own P w K mg base k x (.pure n fr fun _ => .bad) :=
  ⟨f, fd, ps, hm, F.kp, hb, ⟨fun vs H Q E ⟨_, _, _, _, _, h⟩ => h.elim, fun _ _ _ _ _ _ _ _ _ _ _ _ _ ⟨_, _, _, _, _, h⟩ => h.elim⟩⟩
theorem gs_law {N ps : List Str} {qual : Str} {scope : Scope} {f : Addr} {cd : Value} {A : Around} {outer : List Env} {s : Shared} {H : Hp} {E : XK} {fns : List (Str × Nat)} {Γ : Gm} (S : FnScope N ps scope) (G : Gl0 K mg gi) (O : Owns P w K mg base k fns Γ)
    (hr : Room k (A.deeper (envOfC qual scope s.heap.objs.size f cd))) : Gs (cxOf CX0 P w K mg base N qual scope f cd A outer s H E).nox ⟨N, scope, fns, gi⟩ Γ Fls where
  N := rfl
  nd := S.nd
  calm := rfl
  sc := fun x k h => ⟨k, h, .inl rfl⟩
  bt := G.bt
  gi := G.gi
  tk := fun _ _ ⟨_, _, _, _, _, _, _, _, _, _, _, _, _, _, _, _, w⟩ => w.elim
  un := by have := hr.un; show (A.deeper (envOfC qual scope s.heap.objs.size f cd)).units + 65 < _; omega
  fns := fun x i j h => by
    obtain ⟨_, fs, h1, h2, h3⟩ := O.get h
    obtain ⟨f', fd, ps', g1, g2, g3, g4⟩ := h3.ex
    exact ⟨fs, by simpa using h1, h2, ⟨k, f', fd, ps', hr, g1, g2, g3, g4⟩⟩
  scope := rfl
  fnc := fun _ _ => rfl
  pass := PassesOwn.never
  bk := by
    show (if scope.kind.isAnnotationScope then ScopeKind.function else scope.kind) = _
    rw [S.kind]; rfl
def spLaw (K : PySem.W.Frag) : Sp := fun vs H Q _ => ∃ (a : Addr) (ns : List Int), vs = [.ref a] ∧ ns.length ≤ 63 ∧ SqL K H a (ns.map V.int) ∧ ∀ H', Q (.bl true) H'
/-- the law itself -/
theorem ok_law (F : FunD K x qual params body scope [] [] f fd) (S : FnScope N ps scope) (hn : ps.length = 1) (hN : 0 < N.length) (G : Gl0 K mg gi) (O : Owns P w K mg base k fns Γ) (hc : cB (cS ⟨N, scope, fns, gi⟩ deepE) body = some st)
    (hP : ∀ ns : List Int, ns.length ≤ 63 → autoS Γ st N.length (ns.map U.int) = some (.bl true)) : FnOk P w K mg base CX0 (k + 1) f fd ps (spLaw K) := by
  refine F.ok S (fun vs H Q E h => ?_) fun cdv A outer s H vs Q E hr h => ⟨_, PSs.nox (cB_ok (fr := false) (fun st s h hr' => cS_ok (gs_law S G O hr) h hr') hc (fun e => nomatch e)), ?_⟩
  · obtain ⟨a, ns, rfl, _⟩ := h
    rw [hn]; rfl
  · obtain ⟨a, ns, rfl, h2, h3, h4⟩ := h
    refine ⟨_, sr_enterS (B := fun _ => False) hN (fun _ z => z.elim) h3, ?_⟩
    have hP := hP ns h2
    unfold autoS at hP
    split at hP
    · rename_i fl c e
      rw [e]
      intro w' σ' H' t s' hcs
      cases fl with
      | nx ρ' => cases hP
      | rt u' =>
        cases hP
        intro v rv nv
        cases rv
        exact h4 H'
      | bk => cases hP
      | ct => cases hP
    · cases hP
end
end Mi

/-! W56.lean -/

namespace Wk
open PySem PySem.Spec PyProof.Rows L2
def top (i : Nat) : Stmt := PySem.Challenge.pw_restsmapped_k56_whole_split_rests.main.body.getD i (.Pass ⟨0, 0, 0, 0⟩)
def gi : List (Str × Int) := [("GREAT", 1000000000000000000000000000000000000000000000000000000000000), ("MOST", 240)]
section
open Mi
def s_is_whole : S := ((S.ret
        (((E.var 0).isi Ty.int).and
          (((E.var 0).isi Ty.bool).not.and (E.cmp2 Cop.le Cop.le (E.var 1) (E.var 0) (E.var 2))))).cons
    S.nil)
end
theorem c_is_whole : Mi.cB (Mi.cS ⟨["value", "low", "high"], L2.defScope (top 5), [], gi⟩ Mi.deepE) (defBody (top 5)) = some s_is_whole := by kernel_rfl
theorem S_is_whole : FnScope ["value", "low", "high"] ["value", "low", "high"] (defScope (top 5)) := ⟨rfl, rfl, rfl, by decide +kernel, rfl, by decide +kernel, by decide +kernel⟩
def g_is_whole : Mi.Gm := []
def f_is_whole : Mi.Fs := .pure 3 true (Mi.autoP g_is_whole s_is_whole 3)
section
open Mi
def s_need_whole : S := ((S.ite (E.call 0 ((E.var 0).cons ((E.var 1).cons ((E.var 2).cons E.nil)))).not (S.never.cons S.nil) S.nil).cons
    S.nil)
end
theorem c_need_whole : Mi.cB (Mi.cS ⟨["value", "low", "high"], L2.defScope (top 6), [("is_whole", 0)], gi⟩ Mi.deepE) (defBody (top 6)) = some s_need_whole := by kernel_rfl
theorem S_need_whole : FnScope ["value", "low", "high"] ["value", "low", "high"] (defScope (top 6)) := ⟨rfl, rfl, rfl, by decide +kernel, rfl, by decide +kernel, by decide +kernel⟩
def g_need_whole : Mi.Gm := [f_is_whole]
def f_need_whole : Mi.Fs := .pure 3 true (Mi.autoP g_need_whole s_need_whole 3)
section
open Mi
def s_is_tuple_of : S := ((S.ret (((E.var 0).isi Ty.tuple).and (E.cmp2 Cop.le Cop.le (E.var 1) (E.b1 Bi.len (E.var 0)) (E.var 2)))).cons S.nil)
end
theorem c_is_tuple_of : Mi.cB (Mi.cS ⟨["value", "low", "high"], L2.defScope (top 7), [], gi⟩ Mi.deepE) (defBody (top 7)) = some s_is_tuple_of := by kernel_rfl
theorem S_is_tuple_of : FnScope ["value", "low", "high"] ["value", "low", "high"] (defScope (top 7)) := ⟨rfl, rfl, rfl, by decide +kernel, rfl, by decide +kernel, by decide +kernel⟩
def g_is_tuple_of : Mi.Gm := []
def f_is_tuple_of : Mi.Fs := .pure 3 true (Mi.autoP g_is_tuple_of s_is_tuple_of 3)
section
open Mi
def s_are_wholes : S := ((S.ret
        ((E.call 0 ((E.var 0).cons ((E.var 1).cons ((E.var 1).cons E.nil)))).and
          (E.b1 Bi.all
            (E.comp [4] [4] true (E.var 0).iseq false E.nil
              (E.call 1 ((E.var 4).cons ((E.var 2).cons ((E.var 3).cons E.nil)))))))).cons
    S.nil)
end
theorem c_are_wholes : Mi.cB (Mi.cS ⟨["value", "many", "low", "high", "one"], L2.defScope (top 8), [("is_tuple_of", 0), ("is_whole", 0)], gi⟩ Mi.deepE) (defBody (top 8)) = some s_are_wholes := by kernel_rfl
theorem S_are_wholes : FnScope ["value", "many", "low", "high", "one"] ["value", "many", "low", "high"] (defScope (top 8)) := ⟨rfl, rfl, rfl, by decide +kernel, rfl, by decide +kernel, by decide +kernel⟩
def g_are_wholes : Mi.Gm := [f_is_tuple_of, f_is_whole]
def f_are_wholes : Mi.Fs := .pure 4 true (Mi.autoP g_are_wholes s_are_wholes 5)
section
open Mi
def s_need_n : S := ((S.drop
        (E.call 0
          ((E.var 0).cons ((E.con (U.int (Int.ofNat 1))).cons ((E.con (U.int (Int.ofNat 240))).cons E.nil))))).cons
    S.nil)
end
theorem c_need_n : Mi.cB (Mi.cS ⟨["n"], L2.defScope (top 12), [("need_whole", 0)], gi⟩ Mi.deepE) (defBody (top 12)) = some s_need_n := by kernel_rfl
theorem S_need_n : FnScope ["n"] ["n"] (defScope (top 12)) := ⟨rfl, rfl, rfl, by decide +kernel, rfl, by decide +kernel, by decide +kernel⟩
def g_need_n : Mi.Gm := [f_need_whole]
def f_need_n : Mi.Fs := .pure 1 true (Mi.autoP g_need_n s_need_n 1)
section
open Mi
def s_rest_in : S := ((S.ret (E.bin Bop.mod (E.b1 Bi.int (E.var 0)) (E.var 1))).cons S.nil)
end
theorem c_rest_in : Mi.cB (Mi.cS ⟨["number", "n"], L2.defScope (top 13), [], gi⟩ Mi.deepE) (defBody (top 13)) = some s_rest_in := by kernel_rfl
theorem S_rest_in : FnScope ["number", "n"] ["number", "n"] (defScope (top 13)) := ⟨rfl, rfl, rfl, by decide +kernel, rfl, by decide +kernel, by decide +kernel⟩
def g_rest_in : Mi.Gm := []
def f_rest_in : Mi.Fs := .pure 2 true (Mi.autoP g_rest_in s_rest_in 2)
section
open Mi
def s_prime_powers : S := ((S.drop (E.call 0 ((E.var 0).cons E.nil))).cons
    ((S.set 1 E.nil.lst).cons
      ((S.loop [2] true ((E.con (U.int (Int.ofNat 2))).rng2 (E.bin Bop.add (E.var 0) (E.con (U.int (Int.ofNat 1)))))
            ((S.set 3 (E.con (U.int (Int.ofNat 0)))).cons
              ((S.whl (E.cmp Cop.eq (E.bin Bop.mod (E.b1 Bi.int (E.var 0)) (E.var 2)) (E.con (U.int (Int.ofNat 0))))
                    ((S.par 0 3 (E.bin Bop.fdiv (E.var 0) (E.var 2))
                          (E.bin Bop.add (E.var 3) (E.con (U.int (Int.ofNat 1))))).cons
                      S.nil)).cons
                ((S.ite (E.cmp Cop.gt (E.var 3) (E.con (U.int (Int.ofNat 0))))
                      (((S.frz 2).cons ((S.frz 3).cons (S.app 1 ((E.evar 2).cons ((E.evar 3).cons E.nil)).tup))).cons
                        S.nil)
                      S.nil).cons
                  S.nil)))).cons
        ((S.ret (E.b1 Bi.tuple (E.var 1))).cons S.nil))))
end
theorem c_prime_powers : Mi.cB (Mi.cS ⟨["n", "found", "p", "often"], L2.defScope (top 14), [("need_n", 0)], gi⟩ Mi.deepE) (defBody (top 14)) = some s_prime_powers := by kernel_rfl
theorem S_prime_powers : FnScope ["n", "found", "p", "often"] ["n"] (defScope (top 14)) := ⟨rfl, rfl, rfl, by decide +kernel, rfl, by decide +kernel, by decide +kernel⟩
def g_prime_powers : Mi.Gm := [f_need_n]
def f_prime_powers : Mi.Fs := .pure 1 true (Mi.autoP g_prime_powers s_prime_powers 4)
section
open Mi
def s_raised : S := ((S.set 2 (E.con (U.int (Int.ofNat 1)))).cons
    ((S.loop [3] true (E.var 1).rng1 ((S.set 2 (E.bin Bop.mul (E.var 2) (E.var 0))).cons S.nil)).cons
      ((S.retv 2).cons S.nil)))
end
theorem c_raised : Mi.cB (Mi.cS ⟨["p", "e", "found", "_"], L2.defScope (top 17), [], gi⟩ Mi.deepE) (defBody (top 17)) = some s_raised := by kernel_rfl
theorem S_raised : FnScope ["p", "e", "found", "_"] ["p", "e"] (defScope (top 17)) := ⟨rfl, rfl, rfl, by decide +kernel, rfl, by decide +kernel, by decide +kernel⟩
def g_raised : Mi.Gm := []
def f_raised : Mi.Fs := .pure 2 true (Mi.autoP g_raised s_raised 4)
section
open Mi
def s_powers_in : S := ((S.ret
        (E.b1 Bi.tuple
          (E.comp [1, 2] [1, 2] false (E.call 1 ((E.var 0).cons E.nil)).iseq false E.nil
            (E.call 0 ((E.var 1).cons ((E.var 2).cons E.nil)))))).cons
    S.nil)
end
theorem c_powers_in : Mi.cB (Mi.cS ⟨["n", "p", "e"], L2.defScope (top 16), [("raised", 0), ("prime_powers", 0)], gi⟩ Mi.deepE) (defBody (top 16)) = some s_powers_in := by kernel_rfl
theorem S_powers_in : FnScope ["n", "p", "e"] ["n"] (defScope (top 16)) := ⟨rfl, rfl, rfl, by decide +kernel, rfl, by decide +kernel, by decide +kernel⟩
def g_powers_in : Mi.Gm := [f_raised, f_prime_powers]
def f_powers_in : Mi.Fs := .pure 1 true (Mi.autoP g_powers_in s_powers_in 3)
section
open Mi
def s_split_in : S := ((S.ret
        (E.b1 Bi.tuple
          (E.comp [2] [2] true (E.call 1 ((E.var 1).cons E.nil)).iseq false E.nil
            (E.call 0 ((E.var 0).cons ((E.var 2).cons E.nil)))))).cons
    S.nil)
end
theorem c_split_in : Mi.cB (Mi.cS ⟨["number", "n", "q"], L2.defScope (top 18), [("rest_in", 0), ("powers_in", 0)], gi⟩ Mi.deepE) (defBody (top 18)) = some s_split_in := by kernel_rfl
theorem S_split_in : FnScope ["number", "n", "q"] ["number", "n"] (defScope (top 18)) := ⟨rfl, rfl, rfl, by decide +kernel, rfl, by decide +kernel, by decide +kernel⟩
def g_split_in : Mi.Gm := [f_rest_in, f_powers_in]
def f_split_in : Mi.Fs := .pure 2 true (Mi.autoP g_split_in s_split_in 3)
section
open Mi
def s_join_in : S := ((S.unp [2, 3] ((E.con (U.int (Int.ofNat 0))).cons ((E.con (U.int (Int.ofNat 1))).cons E.nil)).tup).cons
    (((S.frz 1).cons
          (S.loop [4, 5] false ((E.call 0 ((E.var 0).cons E.nil)).zip (E.lvar 1))
            ((S.loop [6] true (E.var 4).rng1
                  ((S.ite (E.cmp Cop.eq (E.call 1 ((E.var 2).cons ((E.var 4).cons E.nil))) (E.var 5)) (S.brk.cons S.nil)
                        S.nil).cons
                    ((S.set 2 (E.bin Bop.add (E.var 2) (E.var 3))).cons S.nil))).cons
              ((S.set 3 (E.bin Bop.mul (E.var 3) (E.var 4))).cons S.nil)))).cons
      ((S.retv 2).cons S.nil)))
end
theorem c_join_in : Mi.cB (Mi.cS ⟨["n", "rests", "found", "step", "q", "rest", "_"], L2.defScope (top 19), [("powers_in", 0), ("rest_in", 0)], gi⟩ Mi.deepE) (defBody (top 19)) = some s_join_in := by kernel_rfl
theorem S_join_in : FnScope ["n", "rests", "found", "step", "q", "rest", "_"] ["n", "rests"] (defScope (top 19)) := ⟨rfl, rfl, rfl, by decide +kernel, rfl, by decide +kernel, by decide +kernel⟩
def g_join_in : Mi.Gm := [f_powers_in, f_rest_in]
def f_join_in : Mi.Fs := .pure 2 true (Mi.autoP g_join_in s_join_in 7)
section
open Mi
def s_power_row : S := ((S.drop (E.call 0 ((E.var 0).cons E.nil))).cons ((S.ret (E.call 1 ((E.var 0).cons E.nil))).cons S.nil))
end
theorem c_power_row : Mi.cB (Mi.cS ⟨["n"], L2.defScope (top 20), [("need_n", 0), ("powers_in", 0)], gi⟩ Mi.deepE) (defBody (top 20)) = some s_power_row := by kernel_rfl
theorem S_power_row : FnScope ["n"] ["n"] (defScope (top 20)) := ⟨rfl, rfl, rfl, by decide +kernel, rfl, by decide +kernel, by decide +kernel⟩
def g_power_row : Mi.Gm := [f_need_n, f_powers_in]
def f_power_row : Mi.Fs := .pure 1 true (Mi.autoP g_power_row s_power_row 1)
section
open Mi
def s_split_rest : S := ((S.drop
        (E.call 0
          ((E.var 0).cons
            ((E.con (U.int (Int.ofNat 1000000000000000000000000000000000000000000000000000000000000))).neg.cons
              ((E.con (U.int (Int.ofNat 1000000000000000000000000000000000000000000000000000000000000))).cons
                E.nil))))).cons
    ((S.drop (E.call 1 ((E.var 1).cons E.nil))).cons
      ((S.ret (E.call 2 ((E.var 0).cons ((E.var 1).cons E.nil)))).cons S.nil)))
end
theorem c_split_rest : Mi.cB (Mi.cS ⟨["number", "n"], L2.defScope (top 21), [("need_whole", 0), ("need_n", 0), ("split_in", 0)], gi⟩ Mi.deepE) (defBody (top 21)) = some s_split_rest := by kernel_rfl
theorem S_split_rest : FnScope ["number", "n"] ["number", "n"] (defScope (top 21)) := ⟨rfl, rfl, rfl, by decide +kernel, rfl, by decide +kernel, by decide +kernel⟩
def g_split_rest : Mi.Gm := [f_need_whole, f_need_n, f_split_in]
def f_split_rest : Mi.Fs := .pure 2 true (Mi.autoP g_split_rest s_split_rest 2)
section
open Mi
def s_join_rests : S := ((S.drop (E.call 0 ((E.var 0).cons E.nil))).cons
    ((S.set 2 (E.call 1 ((E.var 0).cons E.nil))).cons
      ((S.ite (E.call 3 ((E.var 1).cons ((E.b1 Bi.len (E.var 2)).cons ((E.b1 Bi.len (E.var 2)).cons E.nil)))).not
            (S.never.cons S.nil) S.nil).cons
        ((S.ite
              (E.b1 Bi.all
                  (E.comp [3, 4] [3, 4] false ((E.var 1).zip (E.var 2)) false E.nil
                    (E.call 4
                      (((E.evar 3).cons E.nil).tup.cons
                        ((E.con (U.int (Int.ofNat 1))).cons
                          ((E.con (U.int (Int.ofNat 0))).cons
                            ((E.bin Bop.sub (E.var 4) (E.con (U.int (Int.ofNat 1)))).cons E.nil))))))).not
              (S.never.cons S.nil) S.nil).cons
          ((S.ret (E.call 2 ((E.var 0).cons ((E.var 1).cons E.nil)))).cons S.nil)))))
end
theorem c_join_rests : Mi.cB (Mi.cS ⟨["n", "rests", "powers", "rest", "q"], L2.defScope (top 22), [("need_n", 0), ("powers_in", 0), ("join_in", 0), ("is_tuple_of", 0), ("are_wholes", 0)], gi⟩ Mi.deepE) (defBody (top 22)) = some s_join_rests := by kernel_rfl
theorem S_join_rests : FnScope ["n", "rests", "powers", "rest", "q"] ["n", "rests"] (defScope (top 22)) := ⟨rfl, rfl, rfl, by decide +kernel, rfl, by decide +kernel, by decide +kernel⟩
def g_join_rests : Mi.Gm := [f_need_n, f_powers_in, f_join_in, f_is_tuple_of, f_are_wholes]
def f_join_rests : Mi.Fs := .pure 2 true (Mi.autoP g_join_rests s_join_rests 5)
section
open Mi
def s__law_cup : S := ((S.set 1
        (E.b1 Bi.abs
          ((E.bin Bop.add (E.lscr 0) ((E.con (U.int (Int.ofNat 0))).cons E.nil).lst).sub
            (E.con (U.int (Int.ofNat 0)))))).cons
    ((S.ret
          (((E.cmp Cop.ge (E.var 1) (E.bin Bop.pow (E.con (U.int (Int.ofNat 10))) (E.con (U.int (Int.ofNat 18))))).ite
                  (E.bin Bop.fdiv (E.var 1) (E.con (U.int (Int.ofNat 375)))) (E.con (U.int (Int.ofNat 0)))).cons
              ((E.bin Bop.add
                    (E.bin Bop.mod
                      (E.b1 Bi.int
                        (E.bin Bop.add (E.bin Bop.mul (E.var 1) (E.con (U.int (Int.ofNat 601))))
                          (E.con (U.int (Int.ofNat 6605)))))
                      (E.con (U.int (Int.ofNat 1994060489))))
                    (E.con (U.int (Int.ofNat 429)))).cons
                E.nil)).lst).cons
      S.nil))
end
theorem c__law_cup : Mi.cB (Mi.cS ⟨["script", "cell"], L2.defScope (top 24), [], gi⟩ Mi.deepE) (defBody (top 24)) = some s__law_cup := by kernel_rfl
theorem S__law_cup : FnScope ["script", "cell"] ["script"] (defScope (top 24)) := ⟨rfl, rfl, rfl, by decide +kernel, rfl, by decide +kernel, by decide +kernel⟩
def g__law_cup : Mi.Gm := []
def f__law_cup : Mi.Fs := .scr (Mi.autoS g__law_cup s__law_cup 2)
section
open Mi
def s__law_roll : S := ((S.ite (E.cmp Cop.gt ((E.var 0).sub (E.con (U.int (Int.ofNat 0)))) (E.con (U.int (Int.ofNat 0))))
        ((S.set 3 (E.bin Bop.mod (E.b1 Bi.int ((E.var 0).sub (E.con (U.int (Int.ofNat 0))))) (E.var 1))).cons
          ((S.seti 0 (E.con (U.int (Int.ofNat 0)))
                (E.bin Bop.fdiv ((E.var 0).sub (E.con (U.int (Int.ofNat 0)))) (E.var 1))).cons
            ((S.retv 3).cons S.nil)))
        S.nil).cons
    ((S.seti 0 (E.con (U.int (Int.ofNat 1)))
          (E.bin Bop.mod
            (E.b1 Bi.int
              (E.bin Bop.add
                (E.bin Bop.mul ((E.var 0).sub (E.con (U.int (Int.ofNat 1)))) (E.con (U.int (Int.ofNat 30881))))
                (E.con (U.int (Int.ofNat 8929)))))
            (E.con (U.int (Int.ofNat 2147483549))))).cons
      ((S.set 2
            (E.bin Bop.mod
              (E.b1 Bi.int
                (E.bin Bop.mul ((E.var 0).sub (E.con (U.int (Int.ofNat 1))))
                  (E.bin Bop.add ((E.var 0).sub (E.con (U.int (Int.ofNat 1)))) (E.con (U.int (Int.ofNat 701))))))
              (E.con (U.int (Int.ofNat 2147483543))))).cons
        ((S.ret
              (E.bin Bop.mod (E.b1 Bi.int (E.bin Bop.fdiv (E.var 2) (E.con (U.int (Int.ofNat 1171))))) (E.var 1))).cons
          S.nil))))
end
theorem c__law_roll : Mi.cB (Mi.cS ⟨["cup", "many", "deep", "found"], L2.defScope (top 25), [], gi⟩ Mi.deepE) (defBody (top 25)) = some s__law_roll := by kernel_rfl
theorem S__law_roll : FnScope ["cup", "many", "deep", "found"] ["cup", "many"] (defScope (top 25)) := ⟨rfl, rfl, rfl, by decide +kernel, rfl, by decide +kernel, by decide +kernel⟩
def g__law_roll : Mi.Gm := []
def f__law_roll : Mi.Fs := .cupd 1 true (Mi.autoC g__law_roll s__law_roll 4)
section
open Mi
def s__law_sort : S := ((S.ite ((E.var 0).isi Ty.bool) ((S.ret (E.con (U.int (Int.ofNat 1)))).cons S.nil) S.nil).cons
    ((S.ite ((E.var 0).isi Ty.int) ((S.ret (E.con (U.int (Int.ofNat 2)))).cons S.nil) S.nil).cons
      ((S.ite ((E.var 0).isi Ty.tuple) ((S.ret (E.con (U.int (Int.ofNat 3)))).cons S.nil) S.nil).cons
        ((S.ret (((E.var 0).isi Ty.list).ite (E.con (U.int (Int.ofNat 4))) (E.con (U.int (Int.ofNat 0))))).cons
          S.nil))))
end
theorem c__law_sort : Mi.cB (Mi.cS ⟨["value"], L2.defScope (top 26), [], gi⟩ Mi.deepE) (defBody (top 26)) = some s__law_sort := by kernel_rfl
theorem S__law_sort : FnScope ["value"] ["value"] (defScope (top 26)) := ⟨rfl, rfl, rfl, by decide +kernel, rfl, by decide +kernel, by decide +kernel⟩
def g__law_sort : Mi.Gm := []
def f__law_sort : Mi.Fs := .pure 1 true (Mi.autoP g__law_sort s__law_sort 1)
section
open Mi
def s__law_like : S := ((S.ite (E.cmp Cop.ne (E.call 0 ((E.var 0).cons E.nil)) (E.call 0 ((E.var 1).cons E.nil)))
        ((S.ret (E.con (U.bl false))).cons S.nil) S.nil).cons
    ((S.ite
          (E.cmp Cop.notin (E.call 0 ((E.var 0).cons E.nil))
            ((E.con (U.int (Int.ofNat 3))).cons ((E.con (U.int (Int.ofNat 4))).cons E.nil)).tup)
          ((S.ret (E.cmp Cop.eq (E.var 0) (E.var 1))).cons S.nil) S.nil).cons
      ((S.ret
            ((E.cmp Cop.eq (E.b1 Bi.len (E.var 0)) (E.b1 Bi.len (E.var 1))).and
              (E.cmp Cop.eq
                (E.comp [2, 3] [2, 3] false ((E.var 0).zip (E.var 1)) true
                  (E.call 1 ((E.var 2).cons ((E.var 3).cons E.nil))).not (E.con (U.int (Int.ofNat 1))))
                E.nil.lst))).cons
        S.nil)))
end
theorem c__law_like : Mi.cB (Mi.cS ⟨["one", "other", "left", "right"], L2.defScope (top 27), [("_law_sort", 0), ("_law_like", 0)], gi⟩ Mi.deepE) (defBody (top 27)) = some s__law_like := by kernel_rfl
theorem S__law_like : FnScope ["one", "other", "left", "right"] ["one", "other"] (defScope (top 27)) := ⟨rfl, rfl, rfl, by decide +kernel, rfl, by decide +kernel, by decide +kernel⟩
def h__law_like : Nat → Mi.Fs
  | 0 => .pure 2 true fun _ => .bad
  | d + 1 => .pure 2 true (Mi.autoP [f__law_sort, h__law_like d] s__law_like 4)
def f__law_like : Mi.Fs := h__law_like 8
section
open Mi
def s__law_powers : S := (((S.frz 0).cons (S.par 2 3 E.nil.lst (E.evar 0))).cons
    ((S.loop [1] true ((E.con (U.int (Int.ofNat 2))).rng2 (E.bin Bop.add (E.var 0) (E.con (U.int (Int.ofNat 1)))))
          ((S.set 4 (E.con (U.int (Int.ofNat 1)))).cons
            ((S.loop [5] true (E.con (U.int (Int.ofNat 8))).rng1
                  ((S.ite (E.cmp Cop.eq (E.bin Bop.mod (E.b1 Bi.int (E.var 3)) (E.var 1)) (E.con (U.int (Int.ofNat 0))))
                        ((S.par 4 3 (E.bin Bop.mul (E.var 4) (E.var 1)) (E.bin Bop.fdiv (E.var 3) (E.var 1))).cons
                          S.nil)
                        S.nil).cons
                    S.nil)).cons
              ((S.ite (E.cmp Cop.gt (E.var 4) (E.con (U.int (Int.ofNat 1))))
                    (((S.frz 4).cons (S.app 2 (E.evar 4))).cons S.nil) S.nil).cons
                S.nil)))).cons
      ((S.retv 2).cons S.nil)))
end
theorem c__law_powers : Mi.cB (Mi.cS ⟨["n", "p", "found", "left", "power", "turn"], L2.defScope (top 28), [], gi⟩ Mi.deepE) (defBody (top 28)) = some s__law_powers := by kernel_rfl
theorem S__law_powers : FnScope ["n", "p", "found", "left", "power", "turn"] ["n"] (defScope (top 28)) := ⟨rfl, rfl, rfl, by decide +kernel, rfl, by decide +kernel, by decide +kernel⟩
def g__law_powers : Mi.Gm := []
def f__law_powers : Mi.Fs := .pure 1 true (Mi.autoP g__law_powers s__law_powers 6)
section
open Mi
def s__law_fixed_right : S := ((S.set 0
        ((E.call 1 ((E.con (U.int (Int.ofNat 72))).cons E.nil)).cons
            ((E.call 1 ((E.con (U.int (Int.ofNat 1))).cons E.nil)).cons
              ((E.call 1 ((E.con (U.int (Int.ofNat 240))).cons E.nil)).cons
                ((E.call 1 ((E.con (U.int (Int.ofNat 239))).cons E.nil)).cons
                  ((E.call 1 ((E.con (U.int (Int.ofNat 128))).cons E.nil)).cons
                    ((E.call 1 ((E.con (U.int (Int.ofNat 210))).cons E.nil)).cons E.nil)))))).lst).cons
    ((S.ite
          (E.call 0
              ((E.var 0).cons
                ((((E.con (U.int (Int.ofNat 8))).cons ((E.con (U.int (Int.ofNat 9))).cons E.nil)).tup.cons
                        (E.nil.tup.cons
                          (((E.con (U.int (Int.ofNat 16))).cons
                                  ((E.con (U.int (Int.ofNat 3))).cons
                                    ((E.con (U.int (Int.ofNat 5))).cons E.nil))).tup.cons
                            (((E.con (U.int (Int.ofNat 239))).cons E.nil).tup.cons
                              (((E.con (U.int (Int.ofNat 128))).cons E.nil).tup.cons
                                (((E.con (U.int (Int.ofNat 2))).cons
                                        ((E.con (U.int (Int.ofNat 3))).cons
                                          ((E.con (U.int (Int.ofNat 5))).cons
                                            ((E.con (U.int (Int.ofNat 7))).cons E.nil)))).tup.cons
                                  E.nil)))))).lst.cons
                  E.nil))).not
          ((S.ret (E.con (U.bl false))).cons S.nil) S.nil).cons
      ((S.set 0
            ((E.call 2 ((E.con (U.int (Int.ofNat 61))).cons ((E.con (U.int (Int.ofNat 72))).cons E.nil))).cons
                ((E.call 2 ((E.con (U.int (Int.ofNat 1))).neg.cons ((E.con (U.int (Int.ofNat 12))).cons E.nil))).cons
                  ((E.call 2
                        ((E.bin Bop.pow (E.con (U.int (Int.ofNat 10))) (E.con (U.int (Int.ofNat 60)))).cons
                          ((E.con (U.int (Int.ofNat 210))).cons E.nil))).cons
                    ((E.call 2
                          ((E.bin Bop.pow (E.con (U.int (Int.ofNat 10))) (E.con (U.int (Int.ofNat 60)))).neg.cons
                            ((E.con (U.int (Int.ofNat 1))).cons E.nil))).cons
                      ((E.call 2 ((E.con (U.int (Int.ofNat 0))).cons ((E.con (U.int (Int.ofNat 240))).cons E.nil))).cons
                        E.nil))))).lst).cons
        ((S.ite
              (E.call 0
                  ((E.var 0).cons
                    ((((E.con (U.int (Int.ofNat 5))).cons ((E.con (U.int (Int.ofNat 7))).cons E.nil)).tup.cons
                            (((E.con (U.int (Int.ofNat 3))).cons ((E.con (U.int (Int.ofNat 2))).cons E.nil)).tup.cons
                              (((E.con (U.int (Int.ofNat 0))).cons
                                      ((E.con (U.int (Int.ofNat 1))).cons
                                        ((E.con (U.int (Int.ofNat 0))).cons
                                          ((E.con (U.int (Int.ofNat 1))).cons E.nil)))).tup.cons
                                (E.nil.tup.cons
                                  (((E.con (U.int (Int.ofNat 0))).cons
                                          ((E.con (U.int (Int.ofNat 0))).cons
                                            ((E.con (U.int (Int.ofNat 0))).cons E.nil))).tup.cons
                                    E.nil))))).lst.cons
                      E.nil))).not
              ((S.ret (E.con (U.bl false))).cons S.nil) S.nil).cons
          ((S.set 0
                ((E.call 3
                        ((E.con (U.int (Int.ofNat 72))).cons
                          (((E.con (U.int (Int.ofNat 5))).cons ((E.con (U.int (Int.ofNat 7))).cons E.nil)).tup.cons
                            E.nil))).cons
                    ((E.call 3
                          ((E.con (U.int (Int.ofNat 12))).cons
                            (((E.con (U.int (Int.ofNat 3))).cons ((E.con (U.int (Int.ofNat 2))).cons E.nil)).tup.cons
                              E.nil))).cons
                      ((E.call 3 ((E.con (U.int (Int.ofNat 1))).cons (E.nil.tup.cons E.nil))).cons
                        ((E.call 3
                              ((E.con (U.int (Int.ofNat 210))).cons
                                (((E.con (U.int (Int.ofNat 1))).cons
                                        ((E.con (U.int (Int.ofNat 2))).cons
                                          ((E.con (U.int (Int.ofNat 4))).cons
                                            ((E.con (U.int (Int.ofNat 6))).cons E.nil)))).tup.cons
                                  E.nil))).cons
                          ((E.call 3
                                ((E.con (U.int (Int.ofNat 239))).cons
                                  (((E.con (U.int (Int.ofNat 238))).cons E.nil).tup.cons E.nil))).cons
                            E.nil))))).lst).cons
            ((S.ret
                  (E.call 0
                    ((E.var 0).cons
                      (((E.con (U.int (Int.ofNat 61))).cons
                              ((E.con (U.int (Int.ofNat 11))).cons
                                ((E.con (U.int (Int.ofNat 0))).cons
                                  ((E.con (U.int (Int.ofNat 209))).cons
                                    ((E.con (U.int (Int.ofNat 238))).cons E.nil))))).lst.cons
                        E.nil)))).cons
              S.nil))))))
end
theorem c__law_fixed_right : Mi.cB (Mi.cS ⟨["told"], L2.defScope (top 29), [("_law_like", 0), ("power_row", 0), ("split_rest", 0), ("join_rests", 0)], gi⟩ Mi.deepE) (defBody (top 29)) = some s__law_fixed_right := by kernel_rfl
theorem S__law_fixed_right : FnScope ["told"] [] (defScope (top 29)) := ⟨rfl, rfl, rfl, by decide +kernel, rfl, by decide +kernel, by decide +kernel⟩
def g__law_fixed_right : Mi.Gm := [f__law_like, f_power_row, f_split_rest, f_join_rests]
def f__law_fixed_right : Mi.Fs := .pure 0 true (Mi.autoP g__law_fixed_right s__law_fixed_right 1)
section
open Mi
def s__law_right : S := ((S.set 1
        (E.bin Bop.add (E.con (U.int (Int.ofNat 1))) (E.callC 2 0 ((E.con (U.int (Int.ofNat 240))).cons E.nil)))).cons
    ((S.set 2
          (E.bin Bop.add
            (E.bin Bop.mul
              (E.bin Bop.sub
                (E.callC 2 0 ((E.bin Bop.pow (E.con (U.int (Int.ofNat 10))) (E.con (U.int (Int.ofNat 9)))).cons E.nil))
                (E.bin Bop.mul (E.con (U.int (Int.ofNat 5)))
                  (E.bin Bop.pow (E.con (U.int (Int.ofNat 10))) (E.con (U.int (Int.ofNat 8))))))
              ((E.cmp Cop.eq (E.callC 2 0 ((E.con (U.int (Int.ofNat 3))).cons E.nil)) (E.con (U.int (Int.ofNat 0)))).ite
                (E.bin Bop.pow (E.con (U.int (Int.ofNat 10))) (E.con (U.int (Int.ofNat 50))))
                (E.con (U.int (Int.ofNat 1)))))
            (E.callC 2 0 ((E.con (U.int (Int.ofNat 999))).cons E.nil)))).cons
      ((S.set 3 (E.call 0 ((E.var 1).cons E.nil))).cons
        ((S.set 4
              (E.b1 Bi.tuple
                (E.comp [7] [7] true (E.var 3).iseq false E.nil
                  (E.bin Bop.mod (E.b1 Bi.int (E.var 2)) (E.var 7))))).cons
          (((S.frz 4).cons
                (S.ite
                  (E.call 3
                      (((E.call 5 ((E.var 1).cons E.nil)).cons
                              ((E.call 6 ((E.var 2).cons ((E.var 1).cons E.nil))).cons
                                ((E.call 1 ((E.var 1).cons ((E.var 4).cons E.nil))).cons E.nil))).lst.cons
                        (((E.b1 Bi.tuple (E.var 3)).cons
                                ((E.evar 4).cons
                                  ((E.bin Bop.mod (E.b1 Bi.int (E.var 2)) (E.var 1)).cons E.nil))).lst.cons
                          E.nil))).not
                  ((S.ret (E.con (U.bl false))).cons S.nil) S.nil)).cons
            ((S.set 5
                  (E.b1 Bi.tuple
                    (E.comp [7] [7] true (E.var 3).iseq false E.nil (E.callC 2 0 ((E.var 7).cons E.nil))))).cons
              ((S.set 6 (E.call 1 ((E.var 1).cons ((E.var 5).cons E.nil)))).cons
                ((S.ret
                      ((E.cmp Cop.eq (E.call 4 ((E.var 6).cons E.nil)) (E.con (U.int (Int.ofNat 2)))).and
                        ((E.cmp2 Cop.le Cop.lt (E.con (U.int (Int.ofNat 0))) (E.var 6) (E.var 1)).and
                          (E.cmp Cop.eq
                            (E.comp [7] [7] true (E.var 3).iseq false E.nil
                              (E.bin Bop.mod (E.b1 Bi.int (E.var 6)) (E.var 7)))
                            (E.b1 Bi.list (E.var 5)))))).cons
                  S.nil))))))))
end
theorem c__law_right : Mi.cB (Mi.cS ⟨["cup", "n", "number", "powers", "split", "rests", "told", "q"], L2.defScope (top 30), [("_law_powers", 0), ("join_rests", 0), ("_law_roll", 1), ("_law_like", 0), ("_law_sort", 0), ("power_row", 0), ("split_rest", 0)], gi⟩ Mi.deepE) (defBody (top 30)) = some s__law_right := by kernel_rfl
theorem S__law_right : FnScope ["cup", "n", "number", "powers", "split", "rests", "told", "q"] ["cup"] (defScope (top 30)) := ⟨rfl, rfl, rfl, by decide +kernel, rfl, by decide +kernel, by decide +kernel⟩
def g__law_right : Mi.Gm := [f__law_powers, f_join_rests, f__law_roll, f__law_like, f__law_sort, f_power_row, f_split_rest]
def f__law_right : Mi.Fs := .cupd 0 true (Mi.autoC g__law_right s__law_right 8)
section
open Mi
def s_law : S := ((S.ite (E.call 1 E.nil).not ((S.ret (E.con (U.bl false))).cons S.nil) S.nil).cons
    ((S.mkcup 1 (E.callS 0 0)).cons
      ((S.loop [2] true (E.con (U.int (Int.ofNat 16))).rng1
            ((S.ite (E.callC 2 1 E.nil).not ((S.ret (E.con (U.bl false))).cons S.nil) S.nil).cons S.nil)).cons
        ((S.ret (E.con (U.bl true))).cons S.nil))))
end
theorem c_law : Mi.cB (Mi.cS ⟨["script", "cup", "turn"], L2.defScope (top 31), [("_law_cup", 2), ("_law_fixed_right", 0), ("_law_right", 1)], gi⟩ Mi.deepE) (defBody (top 31)) = some s_law := by kernel_rfl
theorem S_law : FnScope ["script", "cup", "turn"] ["script"] (defScope (top 31)) := ⟨rfl, rfl, rfl, by decide +kernel, rfl, by decide +kernel, by decide +kernel⟩
def g_law : Mi.Gm := [f__law_cup, f__law_fixed_right, f__law_right]
def d_is_whole : He.DefD := ⟨("is_whole", none), "is_whole", "is_whole", defArgs (top 5), defBody (top 5), defScope (top 5), [], []⟩
def d_need_whole : He.DefD := ⟨("need_whole", none), "need_whole", "need_whole", defArgs (top 6), defBody (top 6), defScope (top 6), [], []⟩
def d_is_tuple_of : He.DefD := ⟨("is_tuple_of", none), "is_tuple_of", "is_tuple_of", defArgs (top 7), defBody (top 7), defScope (top 7), [], []⟩
def d_are_wholes : He.DefD := ⟨("are_wholes", none), "are_wholes", "are_wholes", defArgs (top 8), defBody (top 8), defScope (top 8), [], []⟩
def d_need_n : He.DefD := ⟨("need_n", none), "need_n", "need_n", defArgs (top 12), defBody (top 12), defScope (top 12), [], []⟩
def d_rest_in : He.DefD := ⟨("rest_in", none), "rest_in", "rest_in", defArgs (top 13), defBody (top 13), defScope (top 13), [], []⟩
def d_prime_powers : He.DefD := ⟨("prime_powers", none), "prime_powers", "prime_powers", defArgs (top 14), defBody (top 14), defScope (top 14), [], []⟩
def d_powers_in : He.DefD := ⟨("powers_in", none), "powers_in", "powers_in", defArgs (top 16), defBody (top 16), defScope (top 16), [], []⟩
def d_raised : He.DefD := ⟨("raised", none), "raised", "raised", defArgs (top 17), defBody (top 17), defScope (top 17), [], []⟩
def d_split_in : He.DefD := ⟨("split_in", none), "split_in", "split_in", defArgs (top 18), defBody (top 18), defScope (top 18), [], []⟩
def d_join_in : He.DefD := ⟨("join_in", none), "join_in", "join_in", defArgs (top 19), defBody (top 19), defScope (top 19), [], []⟩
def d_power_row : He.DefD := ⟨("power_row", none), "power_row", "power_row", defArgs (top 20), defBody (top 20), defScope (top 20), [], []⟩
def d_split_rest : He.DefD := ⟨("split_rest", none), "split_rest", "split_rest", defArgs (top 21), defBody (top 21), defScope (top 21), [], []⟩
def d_join_rests : He.DefD := ⟨("join_rests", none), "join_rests", "join_rests", defArgs (top 22), defBody (top 22), defScope (top 22), [], []⟩
def d__law_cup : He.DefD := ⟨("_law_cup", none), "_law_cup", "_law_cup", defArgs (top 24), defBody (top 24), defScope (top 24), [], []⟩
def d__law_roll : He.DefD := ⟨("_law_roll", none), "_law_roll", "_law_roll", defArgs (top 25), defBody (top 25), defScope (top 25), [], []⟩
def d__law_sort : He.DefD := ⟨("_law_sort", none), "_law_sort", "_law_sort", defArgs (top 26), defBody (top 26), defScope (top 26), [], []⟩
def d__law_like : He.DefD := ⟨("_law_like", none), "_law_like", "_law_like", defArgs (top 27), defBody (top 27), defScope (top 27), [], []⟩
def d__law_powers : He.DefD := ⟨("_law_powers", none), "_law_powers", "_law_powers", defArgs (top 28), defBody (top 28), defScope (top 28), [], []⟩
def d__law_fixed_right : He.DefD := ⟨("_law_fixed_right", none), "_law_fixed_right", "_law_fixed_right", defArgs (top 29), defBody (top 29), defScope (top 29), [], []⟩
def d__law_right : He.DefD := ⟨("_law_right", none), "_law_right", "_law_right", defArgs (top 30), defBody (top 30), defScope (top 30), [], []⟩
def d_law : He.DefD := ⟨("law", none), "law", "law", defArgs (top 31), defBody (top 31), defScope (top 31), [], []⟩
def fn : List He.DefD := [d_is_whole, d_need_whole, d_is_tuple_of, d_are_wholes, d_need_n, d_rest_in, d_prime_powers, d_powers_in, d_raised, d_split_in, d_join_in, d_power_row, d_split_rest, d_join_rests, d__law_cup, d__law_roll, d__law_sort, d__law_like, d__law_powers, d__law_fixed_right, d__law_right, d_law]
def fa : List He.Fa := [.glo "is_whole", .glo "need_whole", .glo "is_tuple_of", .glo "are_wholes", .glo "need_n", .glo "rest_in", .glo "prime_powers", .glo "powers_in", .glo "raised", .glo "split_in", .glo "join_in", .glo "power_row", .glo "split_rest", .glo "join_rests", .glo "_law_cup", .glo "_law_roll", .glo "_law_sort", .glo "_law_like", .glo "_law_powers", .glo "_law_fixed_right", .glo "_law_right", .glo "law", .free "int", .free "bool", .free "tuple", .free "list", .free "str", .free "len", .free "abs", .free "sum", .free "max", .free "min", .free "all", .free "sorted", .free "range", .free "zip", .free "enumerate", .free "isinstance", .int "GREAT" (1000000000000000000000000000000000000000000000000000000000000), .int "MOST" (240), .glo "RestsError", .exc "RestsError", .glo "InvalidNumber", .exc "InvalidNumber", .glo "InvalidRow", .exc "InvalidRow"]
abbrev R : PySem.W.OpenRow := PySem.W.OpenLaw.row PySem.Challenge.rw_restsmapped_k56_whole_split_rests
abbrev hk : PySem.W.Hook := He.hookD 4 fa fn
def ob (s : PySem.W.SharedT) : He.AlD := He.obsDG 4 fa fn (HandSHeadRun.getT s)
theorem ob_eq (s : PySem.W.SharedT) : ob s = hk.obs s.abs := He.obsDG_eq (HandSHeadRun.getT_eq s)
def loose : List PySem.Str := ["is_whole", "need_whole", "is_tuple_of", "are_wholes", "need_n", "rest_in", "prime_powers", "powers_in", "raised", "split_in", "join_in", "power_row", "split_rest", "join_rests", "_law_cup", "_law_roll", "_law_sort", "_law_like", "_law_powers", "_law_fixed_right", "_law_right", "RestsError", "InvalidNumber", "InvalidRow", "GREAT", "MOST"]
theorem run (w : World) : HandSHeadRun.RunEq R (PySem.W.view R.prog [31]) hk ob 4000 loose w := by
  intro os
  kernel_rfl
theorem facts (hL : ∀ ns : List Int, ns.length ≤ 63 → Mi.autoS g_law s_law 3 (ns.map Mi.U.int) = some (.bl true)) {P : Program} {w : World} {K : PySem.W.Frag} {h : Heap} {mg : Str → Option Value} {f : Addr} (X : K.In h) (G : h.Ns mainGlobals mg) (hfa : mg ("law" : Str) = some (.ref f)) (c : He.SaysD fa fn K) :
    ∃ fd : FuncData, (∀ (s : Shared) (v : Value), BindsTo s fd ⟨[v], []⟩ [("script", v)]) ∧ ∀ base : Heap, K.In base → base.Ns mainGlobals mg → FnOk P w K mg base CX0 13 f fd ["script"] (Mi.spLaw K) := by
  obtain ⟨fd_is_whole, F_is_whole⟩ := c.def_ 0 (d := d_is_whole) rfl
  obtain ⟨fd_need_whole, F_need_whole⟩ := c.def_ 1 (d := d_need_whole) rfl
  obtain ⟨fd_is_tuple_of, F_is_tuple_of⟩ := c.def_ 2 (d := d_is_tuple_of) rfl
  obtain ⟨fd_are_wholes, F_are_wholes⟩ := c.def_ 3 (d := d_are_wholes) rfl
  obtain ⟨fd_need_n, F_need_n⟩ := c.def_ 4 (d := d_need_n) rfl
  obtain ⟨fd_rest_in, F_rest_in⟩ := c.def_ 5 (d := d_rest_in) rfl
  obtain ⟨fd_prime_powers, F_prime_powers⟩ := c.def_ 6 (d := d_prime_powers) rfl
  obtain ⟨fd_powers_in, F_powers_in⟩ := c.def_ 7 (d := d_powers_in) rfl
  obtain ⟨fd_raised, F_raised⟩ := c.def_ 8 (d := d_raised) rfl
  obtain ⟨fd_split_in, F_split_in⟩ := c.def_ 9 (d := d_split_in) rfl
  obtain ⟨fd_join_in, F_join_in⟩ := c.def_ 10 (d := d_join_in) rfl
  obtain ⟨fd_power_row, F_power_row⟩ := c.def_ 11 (d := d_power_row) rfl
  obtain ⟨fd_split_rest, F_split_rest⟩ := c.def_ 12 (d := d_split_rest) rfl
  obtain ⟨fd_join_rests, F_join_rests⟩ := c.def_ 13 (d := d_join_rests) rfl
  obtain ⟨fd__law_cup, F__law_cup⟩ := c.def_ 14 (d := d__law_cup) rfl
  obtain ⟨fd__law_roll, F__law_roll⟩ := c.def_ 15 (d := d__law_roll) rfl
  obtain ⟨fd__law_sort, F__law_sort⟩ := c.def_ 16 (d := d__law_sort) rfl
  obtain ⟨fd__law_like, F__law_like⟩ := c.def_ 17 (d := d__law_like) rfl
  obtain ⟨fd__law_powers, F__law_powers⟩ := c.def_ 18 (d := d__law_powers) rfl
  obtain ⟨fd__law_fixed_right, F__law_fixed_right⟩ := c.def_ 19 (d := d__law_fixed_right) rfl
  obtain ⟨fd__law_right, F__law_right⟩ := c.def_ 20 (d := d__law_right) rfl
  obtain ⟨fd_law, F_law⟩ := c.def_ 21 (d := d_law) rfl
  have e := hfa.symm.trans (He.glo_ok X G (c.fact 21 (f := .glo "law") rfl))
  cases e
  have G0 : Mi.Gl0 K mg gi := by
    refine ⟨fun x hx => ?_, fun x i h => ?_⟩
    · simp only [Mi.blts, List.mem_cons, List.not_mem_nil, or_false] at hx
      rcases hx with rfl | rfl | rfl | rfl | rfl | rfl | rfl | rfl | rfl | rfl | rfl | rfl | rfl | rfl | rfl | rfl
      · exact He.free_ok X G (c.fact 22 (f := .free "int") rfl)
      · exact He.free_ok X G (c.fact 23 (f := .free "bool") rfl)
      · exact He.free_ok X G (c.fact 24 (f := .free "tuple") rfl)
      · exact He.free_ok X G (c.fact 25 (f := .free "list") rfl)
      · exact He.free_ok X G (c.fact 26 (f := .free "str") rfl)
      · exact He.free_ok X G (c.fact 27 (f := .free "len") rfl)
      · exact He.free_ok X G (c.fact 28 (f := .free "abs") rfl)
      · exact He.free_ok X G (c.fact 29 (f := .free "sum") rfl)
      · exact He.free_ok X G (c.fact 30 (f := .free "max") rfl)
      · exact He.free_ok X G (c.fact 31 (f := .free "min") rfl)
      · exact He.free_ok X G (c.fact 32 (f := .free "all") rfl)
      · exact He.free_ok X G (c.fact 33 (f := .free "sorted") rfl)
      · exact He.free_ok X G (c.fact 34 (f := .free "range") rfl)
      · exact He.free_ok X G (c.fact 35 (f := .free "zip") rfl)
      · exact He.free_ok X G (c.fact 36 (f := .free "enumerate") rfl)
      · exact He.free_ok X G (c.fact 37 (f := .free "isinstance") rfl)
    · simp only [gi, List.lookup_cons, List.lookup_nil] at h
      split at h
      · rename_i e
        have e := eq_of_beq e
        subst e
        cases h
        exact He.int_ok X G (c.fact 38 (f := .int "GREAT" (1000000000000000000000000000000000000000000000000000000000000)) rfl)
      split at h
      · rename_i e
        have e := eq_of_beq e
        subst e
        cases h
        exact He.int_ok X G (c.fact 39 (f := .int "MOST" (240)) rfl)
      cases h
  refine ⟨fd_law, fun s v => FunD.bindsA (ps := ["script"]) F_law (fun _ _ _ _ _ _ us hl => match us, hl with | [_], _ => rfl) s [v] rfl, fun base _ _ => ?_⟩
  have o_is_whole : Mi.Own P w K mg base 1 "is_whole" f_is_whole := Mi.own_pure (fns := []) (k := 0) F_is_whole (He.glo_ok X G (c.fact 0 (f := .glo "is_whole") rfl)) (FunD.bindsN (ps := ["value", "low", "high"]) F_is_whole fun _ _ _ _ _ _ us hl => match us, hl with | [_, _, _], _ => rfl) S_is_whole G0 Mi.Owns.nl c_is_whole rfl
  have o_need_whole : Mi.Own P w K mg base 2 "need_whole" f_need_whole := Mi.own_pure (fns := [("is_whole", 0)]) (k := 1) F_need_whole (He.glo_ok X G (c.fact 1 (f := .glo "need_whole") rfl)) (FunD.bindsN (ps := ["value", "low", "high"]) F_need_whole fun _ _ _ _ _ _ us hl => match us, hl with | [_, _, _], _ => rfl) S_need_whole G0 (Mi.Owns.cs rfl (o_is_whole.mono (by decide)) Mi.Owns.nl) c_need_whole rfl
  have o_is_tuple_of : Mi.Own P w K mg base 1 "is_tuple_of" f_is_tuple_of := Mi.own_pure (fns := []) (k := 0) F_is_tuple_of (He.glo_ok X G (c.fact 2 (f := .glo "is_tuple_of") rfl)) (FunD.bindsN (ps := ["value", "low", "high"]) F_is_tuple_of fun _ _ _ _ _ _ us hl => match us, hl with | [_, _, _], _ => rfl) S_is_tuple_of G0 Mi.Owns.nl c_is_tuple_of rfl
  have o_are_wholes : Mi.Own P w K mg base 2 "are_wholes" f_are_wholes := Mi.own_pure (fns := [("is_tuple_of", 0), ("is_whole", 0)]) (k := 1) F_are_wholes (He.glo_ok X G (c.fact 3 (f := .glo "are_wholes") rfl)) (FunD.bindsN (ps := ["value", "many", "low", "high"]) F_are_wholes fun _ _ _ _ _ _ us hl => match us, hl with | [_, _, _, _], _ => rfl) S_are_wholes G0 (Mi.Owns.cs rfl (o_is_tuple_of.mono (by decide)) (Mi.Owns.cs rfl (o_is_whole.mono (by decide)) Mi.Owns.nl)) c_are_wholes rfl
  have o_need_n : Mi.Own P w K mg base 3 "need_n" f_need_n := Mi.own_pure (fns := [("need_whole", 0)]) (k := 2) F_need_n (He.glo_ok X G (c.fact 4 (f := .glo "need_n") rfl)) (FunD.bindsN (ps := ["n"]) F_need_n fun _ _ _ _ _ _ us hl => match us, hl with | [_], _ => rfl) S_need_n G0 (Mi.Owns.cs rfl (o_need_whole.mono (by decide)) Mi.Owns.nl) c_need_n rfl
  have o_rest_in : Mi.Own P w K mg base 1 "rest_in" f_rest_in := Mi.own_pure (fns := []) (k := 0) F_rest_in (He.glo_ok X G (c.fact 5 (f := .glo "rest_in") rfl)) (FunD.bindsN (ps := ["number", "n"]) F_rest_in fun _ _ _ _ _ _ us hl => match us, hl with | [_, _], _ => rfl) S_rest_in G0 Mi.Owns.nl c_rest_in rfl
  have o_prime_powers : Mi.Own P w K mg base 4 "prime_powers" f_prime_powers := Mi.own_pure (fns := [("need_n", 0)]) (k := 3) F_prime_powers (He.glo_ok X G (c.fact 6 (f := .glo "prime_powers") rfl)) (FunD.bindsN (ps := ["n"]) F_prime_powers fun _ _ _ _ _ _ us hl => match us, hl with | [_], _ => rfl) S_prime_powers G0 (Mi.Owns.cs rfl (o_need_n.mono (by decide)) Mi.Owns.nl) c_prime_powers rfl
  have o_raised : Mi.Own P w K mg base 1 "raised" f_raised := Mi.own_pure (fns := []) (k := 0) F_raised (He.glo_ok X G (c.fact 8 (f := .glo "raised") rfl)) (FunD.bindsN (ps := ["p", "e"]) F_raised fun _ _ _ _ _ _ us hl => match us, hl with | [_, _], _ => rfl) S_raised G0 Mi.Owns.nl c_raised rfl
  have o_powers_in : Mi.Own P w K mg base 5 "powers_in" f_powers_in := Mi.own_pure (fns := [("raised", 0), ("prime_powers", 0)]) (k := 4) F_powers_in (He.glo_ok X G (c.fact 7 (f := .glo "powers_in") rfl)) (FunD.bindsN (ps := ["n"]) F_powers_in fun _ _ _ _ _ _ us hl => match us, hl with | [_], _ => rfl) S_powers_in G0 (Mi.Owns.cs rfl (o_raised.mono (by decide)) (Mi.Owns.cs rfl (o_prime_powers.mono (by decide)) Mi.Owns.nl)) c_powers_in rfl
  have o_split_in : Mi.Own P w K mg base 6 "split_in" f_split_in := Mi.own_pure (fns := [("rest_in", 0), ("powers_in", 0)]) (k := 5) F_split_in (He.glo_ok X G (c.fact 9 (f := .glo "split_in") rfl)) (FunD.bindsN (ps := ["number", "n"]) F_split_in fun _ _ _ _ _ _ us hl => match us, hl with | [_, _], _ => rfl) S_split_in G0 (Mi.Owns.cs rfl (o_rest_in.mono (by decide)) (Mi.Owns.cs rfl (o_powers_in.mono (by decide)) Mi.Owns.nl)) c_split_in rfl
  have o_join_in : Mi.Own P w K mg base 6 "join_in" f_join_in := Mi.own_pure (fns := [("powers_in", 0), ("rest_in", 0)]) (k := 5) F_join_in (He.glo_ok X G (c.fact 10 (f := .glo "join_in") rfl)) (FunD.bindsN (ps := ["n", "rests"]) F_join_in fun _ _ _ _ _ _ us hl => match us, hl with | [_, _], _ => rfl) S_join_in G0 (Mi.Owns.cs rfl (o_powers_in.mono (by decide)) (Mi.Owns.cs rfl (o_rest_in.mono (by decide)) Mi.Owns.nl)) c_join_in rfl
  have o_power_row : Mi.Own P w K mg base 6 "power_row" f_power_row := Mi.own_pure (fns := [("need_n", 0), ("powers_in", 0)]) (k := 5) F_power_row (He.glo_ok X G (c.fact 11 (f := .glo "power_row") rfl)) (FunD.bindsN (ps := ["n"]) F_power_row fun _ _ _ _ _ _ us hl => match us, hl with | [_], _ => rfl) S_power_row G0 (Mi.Owns.cs rfl (o_need_n.mono (by decide)) (Mi.Owns.cs rfl (o_powers_in.mono (by decide)) Mi.Owns.nl)) c_power_row rfl
  have o_split_rest : Mi.Own P w K mg base 7 "split_rest" f_split_rest := Mi.own_pure (fns := [("need_whole", 0), ("need_n", 0), ("split_in", 0)]) (k := 6) F_split_rest (He.glo_ok X G (c.fact 12 (f := .glo "split_rest") rfl)) (FunD.bindsN (ps := ["number", "n"]) F_split_rest fun _ _ _ _ _ _ us hl => match us, hl with | [_, _], _ => rfl) S_split_rest G0 (Mi.Owns.cs rfl (o_need_whole.mono (by decide)) (Mi.Owns.cs rfl (o_need_n.mono (by decide)) (Mi.Owns.cs rfl (o_split_in.mono (by decide)) Mi.Owns.nl))) c_split_rest rfl
  have o_join_rests : Mi.Own P w K mg base 7 "join_rests" f_join_rests := Mi.own_pure (fns := [("need_n", 0), ("powers_in", 0), ("join_in", 0), ("is_tuple_of", 0), ("are_wholes", 0)]) (k := 6) F_join_rests (He.glo_ok X G (c.fact 13 (f := .glo "join_rests") rfl)) (FunD.bindsN (ps := ["n", "rests"]) F_join_rests fun _ _ _ _ _ _ us hl => match us, hl with | [_, _], _ => rfl) S_join_rests G0 (Mi.Owns.cs rfl (o_need_n.mono (by decide)) (Mi.Owns.cs rfl (o_powers_in.mono (by decide)) (Mi.Owns.cs rfl (o_join_in.mono (by decide)) (Mi.Owns.cs rfl (o_is_tuple_of.mono (by decide)) (Mi.Owns.cs rfl (o_are_wholes.mono (by decide)) Mi.Owns.nl))))) c_join_rests rfl
  have o__law_cup : Mi.Own P w K mg base 1 "_law_cup" f__law_cup := Mi.own_scr (fns := []) (k := 0) F__law_cup (He.glo_ok X G (c.fact 14 (f := .glo "_law_cup") rfl)) (FunD.bindsN (ps := ["script"]) F__law_cup fun _ _ _ _ _ _ us hl => match us, hl with | [_], _ => rfl) S__law_cup G0 Mi.Owns.nl c__law_cup rfl rfl (by decide)
  have o__law_roll : Mi.Own P w K mg base 1 "_law_roll" f__law_roll := Mi.own_cup (fns := []) (k := 0) F__law_roll (He.glo_ok X G (c.fact 15 (f := .glo "_law_roll") rfl)) (FunD.bindsN (ps := ["cup", "many"]) F__law_roll fun _ _ _ _ _ _ us hl => match us, hl with | [_, _], _ => rfl) S__law_roll G0 Mi.Owns.nl c__law_roll rfl rfl (by decide)
  have o__law_sort : Mi.Own P w K mg base 1 "_law_sort" f__law_sort := Mi.own_pure (fns := []) (k := 0) F__law_sort (He.glo_ok X G (c.fact 16 (f := .glo "_law_sort") rfl)) (FunD.bindsN (ps := ["value"]) F__law_sort fun _ _ _ _ _ _ us hl => match us, hl with | [_], _ => rfl) S__law_sort G0 Mi.Owns.nl c__law_sort rfl
  have o__law_like : Mi.Own P w K mg base 10 "_law_like" f__law_like := by
    have a : ∀ d, Mi.Own P w K mg base (2 + d) "_law_like" (h__law_like d) := fun d => by
      induction d with
      | zero => exact Mi.own_bad F__law_like (He.glo_ok X G (c.fact 17 (f := .glo "_law_like") rfl)) (FunD.bindsN (ps := ["one", "other"]) F__law_like fun _ _ _ _ _ _ us hl => match us, hl with | [_, _], _ => rfl)
      | succ d i => exact Mi.own_pure (fns := [("_law_sort", 0), ("_law_like", 0)]) (k := 2 + d) F__law_like (He.glo_ok X G (c.fact 17 (f := .glo "_law_like") rfl)) (FunD.bindsN (ps := ["one", "other"]) F__law_like fun _ _ _ _ _ _ us hl => match us, hl with | [_, _], _ => rfl) S__law_like G0 (Mi.Owns.cs rfl (o__law_sort.mono (by omega)) (Mi.Owns.cs (by cases d <;> rfl) i Mi.Owns.nl)) c__law_like rfl
    exact a 8
  have o__law_powers : Mi.Own P w K mg base 1 "_law_powers" f__law_powers := Mi.own_pure (fns := []) (k := 0) F__law_powers (He.glo_ok X G (c.fact 18 (f := .glo "_law_powers") rfl)) (FunD.bindsN (ps := ["n"]) F__law_powers fun _ _ _ _ _ _ us hl => match us, hl with | [_], _ => rfl) S__law_powers G0 Mi.Owns.nl c__law_powers rfl
  have o__law_fixed_right : Mi.Own P w K mg base 11 "_law_fixed_right" f__law_fixed_right := Mi.own_pure (fns := [("_law_like", 0), ("power_row", 0), ("split_rest", 0), ("join_rests", 0)]) (k := 10) F__law_fixed_right (He.glo_ok X G (c.fact 19 (f := .glo "_law_fixed_right") rfl)) (FunD.bindsN (ps := []) F__law_fixed_right fun _ _ _ _ _ _ us hl => match us, hl with | [], _ => rfl) S__law_fixed_right G0 (Mi.Owns.cs rfl (o__law_like.mono (by decide)) (Mi.Owns.cs rfl (o_power_row.mono (by decide)) (Mi.Owns.cs rfl (o_split_rest.mono (by decide)) (Mi.Owns.cs rfl (o_join_rests.mono (by decide)) Mi.Owns.nl)))) c__law_fixed_right rfl
  have o__law_right : Mi.Own P w K mg base 11 "_law_right" f__law_right := Mi.own_cup (fns := [("_law_powers", 0), ("join_rests", 0), ("_law_roll", 1), ("_law_like", 0), ("_law_sort", 0), ("power_row", 0), ("split_rest", 0)]) (k := 10) F__law_right (He.glo_ok X G (c.fact 20 (f := .glo "_law_right") rfl)) (FunD.bindsN (ps := ["cup"]) F__law_right fun _ _ _ _ _ _ us hl => match us, hl with | [_], _ => rfl) S__law_right G0 (Mi.Owns.cs rfl (o__law_powers.mono (by decide)) (Mi.Owns.cs rfl (o_join_rests.mono (by decide)) (Mi.Owns.cs rfl (o__law_roll.mono (by decide)) (Mi.Owns.cs rfl (o__law_like.mono (by decide)) (Mi.Owns.cs rfl (o__law_sort.mono (by decide)) (Mi.Owns.cs rfl (o_power_row.mono (by decide)) (Mi.Owns.cs rfl (o_split_rest.mono (by decide)) Mi.Owns.nl))))))) c__law_right rfl rfl (by decide)
  exact Mi.ok_law (fns := [("_law_cup", 2), ("_law_fixed_right", 0), ("_law_right", 1)]) (k := 12) F_law S_law rfl (by decide) G0 (Mi.Owns.cs rfl (o__law_cup.mono (by decide)) (Mi.Owns.cs rfl (o__law_fixed_right.mono (by decide)) (Mi.Owns.cs rfl (o__law_right.mono (by decide)) Mi.Owns.nl))) c_law hL
end Wk

/-! L1.lean -/
/-! Mi: rules to reckon what a text comes to. -/
namespace Mi
open PySem
section
variable {Γ : Gm} {ρ ρ' : Ev} {c c' c1 c2 c3 : Cs} {a b d es : E} {u v w z : U} {us vs : List U} {zf : Res Fl} {s r : S} {i j k n : Nat}
theorem x_bin {o : Bop} (h1 : ev Γ a ρ c = .ok u c1) (h2 : ev Γ b ρ c1 = .ok v c2) (h3 : bop o u v = some z) : ev Γ (.bin o a b) ρ c = .ok z c2 := by
  show bnd (ev Γ a ρ) _ c = _
  rw [bnd_ok h1, bnd_ok h2, h3]; rfl
theorem x_neg {i : Int} (h1 : ev Γ a ρ c = .ok (.int i) c1) : ev Γ (.neg a) ρ c = .ok (.int (-i)) c1 := by
  show bnd (ev Γ a ρ) _ c = _
  rw [bnd_ok h1]; rfl
theorem x_not {t : Bool} (h1 : ev Γ a ρ c = .ok (.bl t) c1) : ev Γ (.not a) ρ c = .ok (.bl (!t)) c1 := by
  show bnd (ev Γ a ρ) _ c = _
  rw [bnd_ok h1]; rfl
theorem x_cmp {o : Cop} {t : Bool} (h1 : ev Γ a ρ c = .ok u c1) (h2 : ev Γ b ρ c1 = .ok v c2) (h3 : cop o u v = some t) : ev Γ (.cmp o a b) ρ c = .ok (.bl t) c2 := by
  show bnd (ev Γ a ρ) _ c = _
  rw [bnd_ok h1, bnd_ok h2, h3]; rfl
theorem x_cmp2 {o o' : Cop} {t t' : Bool} (h1 : ev Γ a ρ c = .ok u c1) (h2 : ev Γ b ρ c1 = .ok v c2) (h3 : cop o u v = some t) (h4 : ev Γ d ρ c2 = .ok w c2) (h5 : cop o' v w = some t') : ev Γ (.cmp2 o o' a b d) ρ c = .ok (.bl (t && t')) c2 := by
  show bnd (ev Γ a ρ) _ c = _
  rw [bnd_ok h1, bnd_ok h2, h3]
  cases t with
  | true =>
    show bnd (ev Γ d ρ) _ c2 = _
    rw [bnd_ok h4, h5]; rfl
  | false => rfl
theorem x_and_t {t : Bool} (h1 : ev Γ a ρ c = .ok (.bl true) c1) (h2 : ev Γ b ρ c1 = .ok (.bl t) c2) : ev Γ (.and a b) ρ c = .ok (.bl t) c2 := by
  show bnd (ev Γ a ρ) _ c = _
  rw [bnd_ok h1]
  show bnd (ev Γ b ρ) _ c1 = _
  rw [bnd_ok h2]; rfl
theorem x_and_f (h1 : ev Γ a ρ c = .ok (.bl false) c1) : ev Γ (.and a b) ρ c = .ok (.bl false) c1 := by
  show bnd (ev Γ a ρ) _ c = _
  rw [bnd_ok h1]; rfl
/-- both sides come to a truth -/
theorem x_and {t t' : Bool} (h1 : ev Γ a ρ c = .ok (.bl t) c) (h2 : ev Γ b ρ c = .ok (.bl t') c) : ev Γ (.and a b) ρ c = .ok (.bl (t && t')) c := by
  cases t with
  | true => exact x_and_t h1 h2
  | false => exact x_and_f h1
theorem x_or_t (h1 : ev Γ a ρ c = .ok (.bl true) c1) : ev Γ (.or a b) ρ c = .ok (.bl true) c1 := by
  show bnd (ev Γ a ρ) _ c = _
  rw [bnd_ok h1]; rfl
theorem x_or_f {t : Bool} (h1 : ev Γ a ρ c = .ok (.bl false) c1) (h2 : ev Γ b ρ c1 = .ok (.bl t) c2) : ev Γ (.or a b) ρ c = .ok (.bl t) c2 := by
  show bnd (ev Γ a ρ) _ c = _
  rw [bnd_ok h1]
  show bnd (ev Γ b ρ) _ c1 = _
  rw [bnd_ok h2]; rfl
theorem x_or {t t' : Bool} (h1 : ev Γ a ρ c = .ok (.bl t) c) (h2 : ev Γ b ρ c = .ok (.bl t') c) : ev Γ (.or a b) ρ c = .ok (.bl (t || t')) c := by
  cases t with
  | true => exact x_or_t h1
  | false => exact x_or_f h1 h2
theorem x_ite_t (h1 : ev Γ a ρ c = .ok (.bl true) c1) (h2 : ev Γ b ρ c1 = .ok u c2) : ev Γ (.ite a b d) ρ c = .ok u c2 := by
  show bnd (ev Γ a ρ) _ c = _
  rw [bnd_ok h1]
  exact h2
theorem x_ite_f (h1 : ev Γ a ρ c = .ok (.bl false) c1) (h2 : ev Γ d ρ c1 = .ok u c2) : ev Γ (.ite a b d) ρ c = .ok u c2 := by
  show bnd (ev Γ a ρ) _ c = _
  rw [bnd_ok h1]
  exact h2
theorem x_nil : evs Γ .nil ρ c = .ok [] c := rfl
theorem x_cons (h1 : ev Γ a ρ c = .ok u c1) (h2 : evs Γ es ρ c1 = .ok us c2) : evs Γ (.cons a es) ρ c = .ok (u :: us) c2 := by
  show bnd (ev Γ a ρ) _ c = _
  rw [bnd_ok h1, bnd_ok h2]; rfl
theorem x_tup (h1 : evs Γ es ρ c = .ok us c1) (h2 : us.length ≤ L := by exact Nat.le_of_ble_eq_true rfl) : ev Γ (.tup es) ρ c = .ok (.tup us) c1 := by
  show bnd (evs Γ es ρ) _ c = _
  rw [bnd_ok h1, if_pos h2]; rfl
theorem x_lst (h1 : evs Γ es ρ c = .ok us c1) (h2 : us.length ≤ L := by exact Nat.le_of_ble_eq_true rfl) : ev Γ (.lst es) ρ c = .ok (.lst us) c1 := by
  show bnd (evs Γ es ρ) _ c = _
  rw [bnd_ok h1, if_pos h2]; rfl
theorem x_call {fr : Bool} {P : List U → An} (h1 : evs Γ es ρ c = .ok us c1) (h2 : Γ[k]? = some (.pure n fr P)) (h3 : P us = .ok u) (h4 : us.length = n := by rfl) : ev Γ (.call k es) ρ c = .ok u c1 := by
  show bnd (evs Γ es ρ) _ c = _
  rw [bnd_ok h1, h2]
  show (if us.length = n then ans (P us) else bad) c1 = _
  rw [if_pos h4, h3]; rfl
theorem x_callC {fr : Bool} {P : List U → List U → Option (U × List U)} {cv cv' : List U} (h0 : isCup ρ j = true) (h1 : evs Γ es ρ c = .ok us (some cv)) (h2 : Γ[k]? = some (.cupd n fr P)) (h3 : P cv us = some (u, cv')) (h4 : us.length = n := by rfl) : ev Γ (.callC k j es) ρ c = .ok u (some cv') := by
  show (if isCup ρ j = true then bnd (evs Γ es ρ) _ else bad) c = _
  rw [if_pos h0, bnd_ok h1, h2]
  show (if us.length = n then _ else Res.bad) = _
  rw [if_pos h4, h3]
theorem x_callS {P : List U → Option U} (h1 : scrOf ρ j = some us) (h2 : Γ[k]? = some (.scr P)) (h3 : P us = some u) : ev Γ (.callS k j) ρ c = .ok u c := by
  show bnd (opt (scrOf ρ j)) _ c = _
  rw [h1]
  show (match Γ[k]? with | some (.scr P) => opt (P us) | _ => bad) c = _
  rw [h2]
  show opt (P us) c = _
  rw [h3]; rfl
theorem x_b1 {f : Bi} (h1 : ev Γ a ρ c = .ok u c1) (h2 : bi f u = some v) : ev Γ (.b1 f a) ρ c = .ok v c1 := by
  show bnd (ev Γ a ρ) _ c = _
  rw [bnd_ok h1, h2]; rfl
theorem x_max2 {i j : Int} (h1 : ev Γ a ρ c = .ok (.int i) c1) (h2 : ev Γ b ρ c1 = .ok (.int j) c2) : ev Γ (.max2 a b) ρ c = .ok (.int (if j > i then j else i)) c2 := by
  show bnd (ev Γ a ρ) _ c = _
  rw [bnd_ok h1, bnd_ok h2]; rfl
theorem x_min2 {i j : Int} (h1 : ev Γ a ρ c = .ok (.int i) c1) (h2 : ev Γ b ρ c1 = .ok (.int j) c2) : ev Γ (.min2 a b) ρ c = .ok (.int (if j < i then j else i)) c2 := by
  show bnd (ev Γ a ρ) _ c = _
  rw [bnd_ok h1, bnd_ok h2]; rfl
theorem x_isi {t : Ty} (h1 : ev Γ a ρ c = .ok u c1) : ev Γ (.isi a t) ρ c = .ok (.bl (isTy t u)) c1 := by
  show bnd (ev Γ a ρ) _ c = _
  rw [bnd_ok h1]; rfl
theorem x_sub (h0 : isCupE a ρ = false) (h1 : ev Γ a ρ c = .ok u c1) (h2 : ev Γ b ρ c1 = .ok v c2) (h3 : subs u v = some z) : ev Γ (.sub a b) ρ c = .ok z c2 := by
  have e : ev Γ (.sub a b) ρ c = bnd (ev Γ a ρ) (fun u => bnd (ev Γ b ρ) fun w => opt (subs u w)) c := by
    simp only [ev, h0]
  rw [e, bnd_ok h1, bnd_ok h2, h3]; rfl
theorem x_subC {cv : List U} {n : Int} (h0 : isCupE a ρ = true) (h1 : ev Γ b ρ c = .ok (.int n) (some cv)) (h2 : at? cv n = some u) (h3 : flat u = true) : ev Γ (.sub a b) ρ c = .ok u (some cv) := by
  have e : ev Γ (.sub a b) ρ c = bnd (ev Γ b ρ) (fun w => fun c => match c, w with
      | some cv, .int k => (match at? cv k with
        | some u => if flat u = true then .ok u c else .bad
        | none => .bad)
      | _, _ => .bad) c := by
    simp only [ev, h0] <;> rfl
  rw [e, bnd_ok h1]
  show (match at? cv n with | some u => if flat u = true then Res.ok u (some cv) else .bad | none => .bad) = _
  rw [h2]
  show (if flat u = true then Res.ok u (some cv) else .bad) = _
  rw [if_pos h3]
theorem x_rev (h1 : ev Γ a ρ c = .ok (.lst us) c1) : ev Γ (.rev a) ρ c = .ok (.lst us.reverse) c1 := by
  show bnd (ev Γ a ρ) _ c = _
  rw [bnd_ok h1]; rfl
theorem x_slcL {i : Int} (h1 : ev Γ a ρ c = .ok u c1) (h2 : ev Γ b ρ c1 = .ok (.int i) c2) (h3 : slcs u (some i) none = some z) : ev Γ (.slc true false a b d) ρ c = .ok z c2 := by
  show bnd (ev Γ a ρ) _ c = _
  rw [bnd_ok h1, bnd_ok (m := bnd _ _) (by rw [bnd_ok (m := if true = true then _ else _) h2]; rfl), bnd_ok (m := bnd _ _) rfl, h3]; rfl
theorem x_slcH {i : Int} (h1 : ev Γ a ρ c = .ok u c1) (h2 : ev Γ d ρ c1 = .ok (.int i) c2) (h3 : slcs u none (some i) = some z) : ev Γ (.slc false true a b d) ρ c = .ok z c2 := by
  show bnd (ev Γ a ρ) _ c = _
  rw [bnd_ok h1, bnd_ok (m := bnd _ _) rfl, bnd_ok (m := bnd _ _) (by rw [bnd_ok (m := if true = true then _ else _) h2]; rfl), h3]; rfl
theorem x_slcLH {i j : Int} (h1 : ev Γ a ρ c = .ok u c1) (h2 : ev Γ b ρ c1 = .ok (.int i) c2) (h2' : ev Γ d ρ c2 = .ok (.int j) c3) (h3 : slcs u (some i) (some j) = some z) : ev Γ (.slc true true a b d) ρ c = .ok z c3 := by
  show bnd (ev Γ a ρ) _ c = _
  rw [bnd_ok h1, bnd_ok (m := bnd _ _) (by rw [bnd_ok (m := if true = true then _ else _) h2]; rfl), bnd_ok (m := bnd _ _) (by rw [bnd_ok (m := if true = true then _ else _) h2']; rfl), h3]; rfl
theorem x_comp {own tg : List Nat} {fl ifs : Bool} {it : E} (h0 : noOwn ρ own = true) (h1 : evi Γ it ρ c = .ok us c1) (h2 : compL (compF Γ own tg fl ifs b a ρ) [] us c1 = .ok vs c2) : ev Γ (.comp own tg fl it ifs b a) ρ c = .ok (.lst vs) c2 := by
  show (if noOwn ρ own = false then bad else bnd (evi Γ it ρ) _) c = _
  rw [if_neg (by rw [h0]; exact fun z => nomatch z), bnd_ok h1]
  show bnd (compL (compF Γ own tg fl ifs b a ρ) [] us) _ c1 = _
  rw [bnd_ok h2]; rfl
theorem x_iseq (h1 : ev Γ a ρ c = .ok u c1) (h2 : seq? u = some us) : evi Γ (.iseq a) ρ c = .ok us c1 := by
  show bnd (ev Γ a ρ) _ c = _
  rw [bnd_ok h1, h2]; rfl
theorem x_rng1 (h1 : ev Γ a ρ c = .ok u c1) (h2 : rng (.int 0) u = some us) : evi Γ (.rng1 a) ρ c = .ok us c1 := by
  show bnd (ev Γ a ρ) _ c = _
  rw [bnd_ok h1, h2]; rfl
theorem x_rng2 (h1 : ev Γ a ρ c = .ok u c1) (h2 : ev Γ b ρ c1 = .ok v c2) (h3 : rng u v = some us) : evi Γ (.rng2 a b) ρ c = .ok us c2 := by
  show bnd (ev Γ a ρ) _ c = _
  rw [bnd_ok h1, bnd_ok h2, h3]; rfl
theorem x_rng3 (h1 : ev Γ a ρ c = .ok u c1) (h2 : ev Γ b ρ c1 = .ok v c2) (h3 : ev Γ d ρ c2 = .ok w c3) (h4 : rngC u v w = some us) : evi Γ (.rng3 a b d) ρ c = .ok us c3 := by
  show bnd (ev Γ a ρ) _ c = _
  rw [bnd_ok h1, bnd_ok h2, bnd_ok h3, h4]; rfl
theorem x_zip (h1 : ev Γ a ρ c = .ok u c1) (h2 : ev Γ b ρ c1 = .ok v c2) (h3 : zips u v = some us) : evi Γ (.zip a b) ρ c = .ok us c2 := by
  show bnd (ev Γ a ρ) _ c = _
  rw [bnd_ok h1, bnd_ok h2, h3]; rfl
theorem x_enum (h1 : ev Γ a ρ c = .ok u c1) (h2 : enums u = some us) : evi Γ (.enum a) ρ c = .ok us c1 := by
  show bnd (ev Γ a ρ) _ c = _
  rw [bnd_ok h1, h2]; rfl
theorem dT {p : Prop} [Decidable p] {q : Res U} (h : q = .ok (.bl (decide p)) c') (hp : p) : q = .ok (.bl true) c' := by rw [h, decide_eq_true hp]
theorem dF {p : Prop} [Decidable p] {q : Res U} (h : q = .ok (.bl (decide p)) c') (hp : ¬ p) : q = .ok (.bl false) c' := by rw [h, decide_eq_false hp]
/-! ### values -/
theorem v_mul {i j : Int} (h : i.natAbs < 18446744073709551616 ∨ j.natAbs < 18446744073709551616) : bop .mul (.int i) (.int j) = some (.int (i * j)) := by
  show (if mulOk i j = true then _ else none) = _
  rw [if_pos]
  unfold mulOk
  rcases h with h | h <;> simp [h]
theorem v_mod {i j : Int} (h : 0 < j) : bop .mod (.int i) (.int j) = some (.int (i % j)) := if_pos h
theorem v_fdiv {i j : Int} (h : 0 < j ∧ j.natAbs.log2 < 9000) : bop .fdiv (.int i) (.int j) = some (.int (i / j)) := if_pos h
theorem v_pow {i j : Int} (h : 0 ≤ j ∧ j ≤ 1000000 ∧ i.natAbs < 18446744073709551616) : bop .pow (.int i) (.int j) = some (.int (i ^ j.toNat)) := if_pos h
theorem v_cat {a b : List U} (h : a.length + b.length ≤ L) : bop .add (.lst a) (.lst b) = some (.lst (a ++ b)) := if_pos h
theorem v_catT {a b : List U} (h : a.length + b.length ≤ L) : bop .add (.tup a) (.tup b) = some (.tup (a ++ b)) := if_pos h
theorem v_eqi {i j : Int} : cop .eq (.int i) (.int j) = some (decide (i = j)) := by
  show some (i == j) = _
  rfl
theorem v_nei {i j : Int} : cop .ne (.int i) (.int j) = some (!decide (i = j)) := rfl
theorem v_rng {i j : Int} (h : -4611686018427387904 ≤ i ∧ i < 4611686018427387904 ∧ -4611686018427387904 ≤ j ∧ j < 4611686018427387904) : rng (.int i) (.int j) = some (upTo i (j - i).toNat) := by
  show (if (in62 i && in62 j) = true then _ else none) = _
  rw [if_pos]
  unfold in62
  simp only [Bool.and_eq_true, decide_eq_true_eq]
  omega
/-! ### statements -/
theorem y_cons (h1 : evS Γ s ρ c = .ok (.nx ρ') c') (h2 : evS Γ r ρ' c' = zf) : evS Γ (.cons s r) ρ c = zf := by
  show bnd (evS Γ s ρ) _ c = zf
  rw [bnd_ok h1]; exact h2
theorem y_rt (h1 : evS Γ s ρ c = .ok (.rt u) c') : evS Γ (.cons s r) ρ c = .ok (.rt u) c' := by
  show bnd (evS Γ s ρ) _ c = _
  rw [bnd_ok h1]; rfl
theorem y_bk (h1 : evS Γ s ρ c = .ok (.bk ρ') c') : evS Γ (.cons s r) ρ c = .ok (.bk ρ') c' := by
  show bnd (evS Γ s ρ) _ c = _
  rw [bnd_ok h1]; rfl
theorem y_ct (h1 : evS Γ s ρ c = .ok (.ct ρ') c') : evS Γ (.cons s r) ρ c = .ok (.ct ρ') c' := by
  show bnd (evS Γ s ρ) _ c = _
  rw [bnd_ok h1]; rfl
theorem y_set (h : ev Γ a ρ c = .ok u c') : evS Γ (.set i a) ρ c = .ok (.nx (puto ρ (cl Γ a).isNew i u)) c' := by
  show bnd (ev Γ a ρ) _ c = _
  rw [bnd_ok h]; rfl
theorem y_par (h1 : ev Γ a ρ c = .ok u c1) (h2 : ev Γ b ρ c1 = .ok v c2) : evS Γ (.par i j a b) ρ c = .ok (.nx (puto (puto ρ (cl Γ a).isNew i u) (cl Γ b).isNew j v)) c2 := by
  show bnd (ev Γ a ρ) _ c = _
  rw [bnd_ok h1, bnd_ok h2]; rfl
theorem y_par3 (h1 : ev Γ a ρ c = .ok u c1) (h2 : ev Γ b ρ c1 = .ok v c2) (h3 : ev Γ d ρ c2 = .ok w c3) : evS Γ (.par3 i j k a b d) ρ c = .ok (.nx (puto (puto (puto ρ (cl Γ a).isNew i u) (cl Γ b).isNew j v) (cl Γ d).isNew k w)) c3 := by
  show bnd (ev Γ a ρ) _ c = _
  rw [bnd_ok h1, bnd_ok h2, bnd_ok h3]; rfl
theorem y_unp {is : List Nat} (h : ev Γ a ρ c = .ok u c') (h2 : asg is false u ρ = some ρ') : evS Γ (.unp is a) ρ c = .ok (.nx ρ') c' := by
  show bnd (ev Γ a ρ) _ c = _
  rw [bnd_ok h, h2]; rfl
theorem y_app (h0 : ρ[i]? = some (some (.own us))) (h : ev Γ a ρ c = .ok u c') (hl : us.length < L) : evS Γ (.app i a) ρ c = .ok (.nx (ρ.set i (some (.own (us ++ [u]))))) c' := by
  have e : evS Γ (.app i a) ρ c = bnd (ev Γ a ρ) (fun u => if us.length < L then ret (.nx (ρ.set i (some (.own (us ++ [u]))))) else bad) c := by
    simp only [evS, h0]
  rw [e, bnd_ok h, if_pos hl]; rfl
theorem y_seti {n : Int} {m : Nat} (h0 : ρ[i]? = some (some (.own us))) (h : ev Γ a ρ c = .ok u c1) (h2 : ev Γ b ρ c1 = .ok (.int n) c2) (h3 : ix us.length n = some m) : evS Γ (.seti i b a) ρ c = .ok (.nx (ρ.set i (some (.own (us.set m u))))) c2 := by
  have e : evS Γ (.seti i b a) ρ c = bnd (ev Γ a ρ) (fun u => bnd (ev Γ b ρ) fun z => (match z with
      | .int n => (match ix us.length n with
        | some j => ret (.nx (ρ.set i (some (.own (us.set j u)))))
        | none => bad)
      | _ => bad)) c := by
    simp only [evS, h0] <;> rfl
  rw [e, bnd_ok h, bnd_ok h2]
  show (match ix us.length n with | some j => ret (Fl.nx (ρ.set i (some (.own (us.set j u))))) | none => bad) c2 = _
  rw [h3]; rfl
theorem y_setC {n : Int} {m : Nat} {cv : List U} (h0 : ρ[i]? = some (some .cup)) (h : ev Γ a ρ c = .ok u c1) (h2 : ev Γ b ρ c1 = .ok (.int n) (some cv)) (h3 : ix cv.length n = some m) (h4 : flat u = true) : evS Γ (.seti i b a) ρ c = .ok (.nx ρ) (some (cv.set m u)) := by
  have e : evS Γ (.seti i b a) ρ c = bnd (ev Γ a ρ) (fun u => bnd (ev Γ b ρ) fun z => fun c => (match z, c with
      | .int n, some us => (match ix us.length n with
        | some j => if flat u = true then .ok (.nx ρ) (some (us.set j u)) else .bad
        | none => .bad)
      | _, _ => .bad)) c := by
    simp only [evS, h0] <;> rfl
  rw [e, bnd_ok h, bnd_ok h2]
  show (match ix cv.length n with | some j => if flat u = true then Res.ok (Fl.nx ρ) (some (cv.set j u)) else .bad | none => .bad) = _
  rw [h3]
  show (if flat u = true then Res.ok (Fl.nx ρ) (some (cv.set m u)) else .bad) = _
  rw [if_pos h4]
theorem y_drop (h : ev Γ a ρ c = .ok u c') : evS Γ (.drop a) ρ c = .ok (.nx ρ) c' := by
  show bnd (ev Γ a ρ) _ c = _
  rw [bnd_ok h]; rfl
theorem y_ret (h : ev Γ a ρ c = .ok u c') : evS Γ (.ret a) ρ c = .ok (.rt u) c' := by
  show bnd (ev Γ a ρ) _ c = _
  rw [bnd_ok h]; rfl
theorem y_ite {t : Bool} (h : ev Γ a ρ c = .ok (.bl t) c') (h2 : (if t = true then evS Γ s ρ c' else evS Γ r ρ c') = zf) : evS Γ (.ite a s r) ρ c = zf := by
  show bnd (ev Γ a ρ) _ c = _
  rw [bnd_ok h]
  show (if t = true then evS Γ s ρ else evS Γ r ρ) c' = _
  cases t with
  | true => exact h2
  | false => exact h2
theorem y_ite_t (h : ev Γ a ρ c = .ok (.bl true) c') (h2 : evS Γ s ρ c' = zf) : evS Γ (.ite a s r) ρ c = zf := y_ite h h2
theorem y_ite_f (h : ev Γ a ρ c = .ok (.bl false) c') (h2 : evS Γ r ρ c' = zf) : evS Γ (.ite a s r) ρ c = zf := y_ite h h2
theorem y_loop {tg : List Nat} {fl : Bool} {it : E} (hw : walkOk Γ it = true) (h : evi Γ it ρ c = .ok us c1) (h2 : loopL tg fl (evS Γ s) us ρ c1 = zf) : evS Γ (.loop tg fl it s) ρ c = zf := by
  show (if walkOk Γ it = true then bnd (evi Γ it ρ) _ else bad) c = _
  rw [if_pos hw, bnd_ok h]; exact h2
theorem y_whl (h : whlL (ev Γ a) (evS Γ s) fuel ρ c = zf) : evS Γ (.whl a s) ρ c = zf := h
theorem y_mkcup (h : ev Γ a ρ c = .ok (.lst us) none) (hf : us.all flat = true) : evS Γ (.mkcup i a) ρ c = .ok (.nx (ρ.set i (some .cup))) (some us) := by
  show bnd (ev Γ a ρ) _ c = _
  rw [bnd_ok h]
  show (if us.all flat = true then _ else Res.bad) = _
  rw [if_pos hf]
/-! ### turns -/
theorem z_nil {tg : List Nat} {fl : Bool} {f : Ev → M Fl} : loopL tg fl f [] ρ c = .ok (.nx ρ) c := rfl
theorem z_nx {tg : List Nat} {fl : Bool} {f : Ev → M Fl} {ρ2 : Ev} (h1 : asg tg fl u ρ = some ρ') (h2 : f ρ' c = .ok (.nx ρ2) c') (h3 : loopL tg fl f us ρ2 c' = zf) : loopL tg fl f (u :: us) ρ c = zf := by
  simp only [loopL, h1]; rw [bnd_ok h2]; exact h3
theorem z_ct {tg : List Nat} {fl : Bool} {f : Ev → M Fl} {ρ2 : Ev} (h1 : asg tg fl u ρ = some ρ') (h2 : f ρ' c = .ok (.ct ρ2) c') (h3 : loopL tg fl f us ρ2 c' = zf) : loopL tg fl f (u :: us) ρ c = zf := by
  simp only [loopL, h1]; rw [bnd_ok h2]; exact h3
theorem z_bk {tg : List Nat} {fl : Bool} {f : Ev → M Fl} {ρ2 : Ev} (h1 : asg tg fl u ρ = some ρ') (h2 : f ρ' c = .ok (.bk ρ2) c') : loopL tg fl f (u :: us) ρ c = .ok (.nx ρ2) c' := by
  simp only [loopL, h1]; rw [bnd_ok h2]; rfl
theorem z_rt {tg : List Nat} {fl : Bool} {f : Ev → M Fl} {z : U} (h1 : asg tg fl u ρ = some ρ') (h2 : f ρ' c = .ok (.rt z) c') : loopL tg fl f (u :: us) ρ c = .ok (.rt z) c' := by
  simp only [loopL, h1]; rw [bnd_ok h2]; rfl
theorem w_f {f : Ev → M U} {g : Ev → M Fl} (h : f ρ c = .ok (.bl false) c') : whlL f g (n + 1) ρ c = .ok (.nx ρ) c' := by
  show bnd (f ρ) _ c = _
  rw [bnd_ok h]; rfl
theorem w_t {f : Ev → M U} {g : Ev → M Fl} {ρ2 : Ev} (h : f ρ c = .ok (.bl true) c') (h2 : g ρ c' = .ok (.nx ρ2) c1) (h3 : whlL f g n ρ2 c1 = zf) : whlL f g (n + 1) ρ c = zf := by
  show bnd (f ρ) _ c = _
  rw [bnd_ok h]
  show bnd (g ρ) _ c' = _
  rw [bnd_ok h2]; exact h3
/-- a loop that turns every item -/
theorem loop_fold {β σ : Type} {tg : List Nat} {fl : Bool} {b : Ev → M Fl} (g : β → U) (R : σ → Ev) (step : σ → β → σ) (I : σ → Prop) : ∀ (xs : List β) (s : σ) (c : Cs), I s →
    (∀ s x, x ∈ xs → I s → I (step s x) ∧ ∃ ρ', asg tg fl (g x) (R s) = some ρ' ∧ b ρ' c = .ok (.nx (R (step s x))) c) →
    loopL tg fl b (xs.map g) (R s) c = .ok (.nx (R (xs.foldl step s))) c ∧ I (xs.foldl step s)
  | [], s, c, i, _ => ⟨rfl, i⟩
  | x :: xs, s, c, i, h => by
    obtain ⟨i', ρ', h1, h2⟩ := h s x (List.mem_cons_self ..) i
    have r := loop_fold g R step I xs (step s x) c i' fun s y hy => h s y (List.mem_cons_of_mem _ hy)
    exact ⟨z_nx h1 h2 r.1, r.2⟩
/-- a loop by a word on the items left -/
theorem loop_all {tg : List Nat} {fl : Bool} {b : Ev → M Fl} (I : List U → Ev → Prop) : ∀ (us : List U) (ρ : Ev) (c : Cs), I us ρ →
    (∀ u us ρ, I (u :: us) ρ → ∃ ρ' ρ2, asg tg fl u ρ = some ρ' ∧ b ρ' c = .ok (.nx ρ2) c ∧ I us ρ2) →
    ∃ ρ', loopL tg fl b us ρ c = .ok (.nx ρ') c ∧ I [] ρ'
  | [], ρ, c, i, _ => ⟨ρ, rfl, i⟩
  | u :: us, ρ, c, i, h => by
    obtain ⟨ρ', ρ2, h1, h2, h3⟩ := h u us ρ i
    obtain ⟨ρ3, h4, h5⟩ := loop_all I us ρ2 c h3 h
    exact ⟨ρ3, z_nx h1 h2 h4, h5⟩
theorem bndN_ok {α β : Type} {m : M α} {f : α → M β} {c c' : Cs} {a : α} (h : m c = .ok a c') : bndN m f c = f a c' := by unfold bndN; rw [h]
/-- a row of values, each kept -/
theorem comp_map {β : Type} {f : U → M (Option U)} (g : β → U) (q : β → U) (c : Cs) : ∀ (xs : List β) (acc : List U), acc.length + xs.length ≤ L → (∀ x ∈ xs, f (g x) c = .ok (some (q x)) c) → compL f acc (xs.map g) c = .ok (acc ++ xs.map q) c
  | [], acc, _, _ => by rw [List.map_nil, List.map_nil, List.append_nil]; rfl
  | x :: xs, acc, hl, h => by
    rw [List.length_cons] at hl
    have r := comp_map g q c xs (acc ++ [q x]) (by rw [List.length_append]; simp only [List.length_cons, List.length_nil]; omega) fun y hy => h y (List.mem_cons_of_mem _ hy)
    rw [List.map_cons, compL]
    rw [bndN_ok (h x (List.mem_cons_self ..))]
    show (if acc.length < L then compL f (acc ++ [q x]) (xs.map g) else bad) c = _
    rw [if_pos (by omega), r, List.map_cons, List.append_assoc]; rfl
theorem comp_filter {β : Type} {f : U → M (Option U)} (g : β → U) (q : β → Option U) (c : Cs) : ∀ (xs : List β) (acc : List U), acc.length + xs.length ≤ L → (∀ x ∈ xs, f (g x) c = .ok (q x) c) → compL f acc (xs.map g) c = .ok (acc ++ xs.filterMap q) c
  | [], acc, _, _ => by rw [List.map_nil, List.filterMap_nil, List.append_nil]; rfl
  | x :: xs, acc, hl, h => by
    rw [List.length_cons] at hl
    rw [List.map_cons, compL]
    rw [bndN_ok (h x (List.mem_cons_self ..))]
    cases hq : q x with
    | none =>
      have r := comp_filter g q c xs acc (by omega) fun y hy => h y (List.mem_cons_of_mem _ hy)
      rw [List.filterMap_cons_none hq]
      exact r
    | some v =>
      have r := comp_filter g q c xs (acc ++ [v]) (by rw [List.length_append]; simp only [List.length_cons, List.length_nil]; omega) fun y hy => h y (List.mem_cons_of_mem _ hy)
      rw [List.filterMap_cons_some hq]
      show (if acc.length < L then compL f (acc ++ [v]) (xs.map g) else bad) c = _
      rw [if_pos (by omega), r, List.append_assoc]; rfl
/-- what a comprehension does with one item -/
theorem compF_no {own is : List Nat} {fl : Bool} (h1 : asg is fl u (wip ρ own) = some ρ') (h2 : ev Γ a ρ' c = .ok v c1) : compF Γ own is fl false b a ρ u c = .ok (some v) c1 := by
  unfold compF
  rw [h1]
  show bnd (ev Γ a ρ') _ c = _
  rw [bnd_ok h2]; rfl
theorem compF_t {own is : List Nat} {fl : Bool} (h1 : asg is fl u (wip ρ own) = some ρ') (h2 : ev Γ b ρ' c = .ok (.bl true) c1) (h3 : ev Γ a ρ' c1 = .ok v c2) : compF Γ own is fl true b a ρ u c = .ok (some v) c2 := by
  unfold compF
  rw [h1]
  show bnd (ev Γ b ρ') _ c = _
  rw [bnd_ok h2]
  show bnd (ev Γ a ρ') _ c1 = _
  rw [bnd_ok h3]; rfl
theorem compF_f {own is : List Nat} {fl : Bool} (h1 : asg is fl u (wip ρ own) = some ρ') (h2 : ev Γ b ρ' c = .ok (.bl false) c1) : compF Γ own is fl true b a ρ u c = .ok none c1 := by
  unfold compF
  rw [h1]
  show bnd (ev Γ b ρ') _ c = _
  rw [bnd_ok h2]; rfl
/-! ### defs -/
theorem p_rt {st : S} (h : evS Γ st (enter n us) none = .ok (.rt u) none) : autoP Γ st n us = .ok u := by unfold autoP; rw [h]; rfl
theorem p_nx {st : S} (h : evS Γ st (enter n us) none = .ok (.nx ρ') none) : autoP Γ st n us = .ok .non := by unfold autoP; rw [h]; rfl
theorem c_rt {st : S} {cv cv' : List U} (h : evS Γ st (enterC n us) (some cv) = .ok (.rt u) (some cv')) : autoC Γ st n cv us = some (u, cv') := by unfold autoC; rw [h]; rfl
theorem s_rt {st : S} (h : evS Γ st (enterS n us) none = .ok (.rt u) c) : autoS Γ st n us = some u := by unfold autoS; rw [h]; rfl
theorem upTo_map (lo : Int) (n : Nat) : upTo lo n = ((List.range n).map fun (k : Nat) => lo + (k : Int)).map U.int := by
  unfold upTo
  rw [List.map_map]; rfl
end
end Mi

/-! F56.lean -/
namespace Lw
def strip (p : Int) : Nat → Int × Int → Int × Int
  | 0, s => s
  | f + 1, (n, o) => if n % p = 0 then strip p f (n / p, o + 1) else (n, o)
def ppStep (s : Int × List (Int × Int)) (p : Int) : Int × List (Int × Int) :=
  ((strip p 8 (s.1, 0)).1, if (strip p 8 (s.1, 0)).2 > 0 then s.2 ++ [(p, (strip p 8 (s.1, 0)).2)] else s.2)
def ps (n : Int) : List Int := (List.range (n + 1 - 2).toNat).map fun (k : Nat) => 2 + (k : Int)
def pp (n : Int) : List (Int × Int) := ((ps n).foldl ppStep (n, [])).2
def pw (n : Int) : List Int := (pp n).map fun x => x.1 ^ x.2.toNat
def okN (n : Int) : Bool := decide ((pp n).length ≤ 10) && (pp n).all (fun x => decide (2 ≤ x.1 ∧ x.1 ≤ 240 ∧ 0 ≤ x.2 ∧ x.2 < 1000)) && (pw n).all (fun q => decide (2 ≤ q ∧ q ≤ 240 ∧ n % q = 0))
theorem okN_all : (List.range 240).all (fun i => okN ((i : Int) + 1)) = true := by decide +kernel
theorem okN_at {n : Int} (h1 : 1 ≤ n) (h2 : n ≤ 240) : okN n = true := by
  have := List.all_eq_true.mp okN_all (n - 1).toNat (List.mem_range.mpr (by omega))
  rw [show (((n - 1).toNat : Nat) : Int) + 1 = n by omega] at this
  exact this
theorem pp_ok {n : Int} (h1 : 1 ≤ n) (h2 : n ≤ 240) : (pp n).length ≤ 10 ∧ (∀ x ∈ pp n, 2 ≤ x.1 ∧ x.1 ≤ 240 ∧ 0 ≤ x.2 ∧ x.2 < 1000) ∧ ∀ q ∈ pw n, 2 ≤ q ∧ q ≤ 240 ∧ n % q = 0 := by
  have := okN_at h1 h2
  unfold okN at this
  simp only [Bool.and_eq_true, decide_eq_true_eq, List.all_eq_true] at this
  exact ⟨this.1.1, this.1.2, this.2⟩
def lturn (p : Int) (s : Int × Int) : Int × Int := if s.2 % p = 0 then (s.1 * p, s.2 / p) else s
def lts (p : Int) : Nat → Int × Int → Int × Int
  | 0, s => s
  | k + 1, s => lts p k (lturn p s)
def lpStep (s : Int × List Int) (p : Int) : Int × List Int := ((lts p 8 (1, s.1)).2, if 1 < (lts p 8 (1, s.1)).1 then s.2 ++ [(lts p 8 (1, s.1)).1] else s.2)
def lpw (n : Int) : List Int := ((ps n).foldl lpStep (n, [])).2
theorem lpw_all : (List.range 240).all (fun i => decide (lpw ((i : Int) + 1) = pw ((i : Int) + 1))) = true := by decide +kernel
theorem lpw_eq {n : Int} (h1 : 1 ≤ n) (h2 : n ≤ 240) : lpw n = pw n := by
  have := List.all_eq_true.mp lpw_all (n - 1).toNat (List.mem_range.mpr (by omega))
  rw [show (((n - 1).toNat : Nat) : Int) + 1 = n by omega] at this
  exact of_decide_eq_true this
def seek (q r st : Int) : Nat → Int → Int
  | 0, f => f
  | k + 1, f => if f % q = r then f else seek q r st k (f + st)
def joinI : List (Int × Int) → Int × Int → Int × Int
  | [], s => s
  | (q, r) :: l, (f, st) => joinI l (seek q r st q.toNat f, st * q)


/-! ### rests joined -/
def goodQ : List Int → Int → Bool
  | [], _ => true
  | q :: l, st => decide (2 ≤ q) && (List.range q.toNat).any (fun (v : Nat) => decide ((st * (v : Int)) % q = 1)) && goodQ l (st * q)
def prod : List Int → Int → Int
  | [], st => st
  | q :: l, st => prod l (st * q)
theorem good_all : (List.range 240).all (fun i => goodQ (pw ((i : Int) + 1)) 1 && decide (prod (pw ((i : Int) + 1)) 1 = (i : Int) + 1)) = true := by decide +kernel
theorem good_at {n : Int} (h1 : 1 ≤ n) (h2 : n ≤ 240) : goodQ (pw n) 1 = true ∧ prod (pw n) 1 = n := by
  have := List.all_eq_true.mp good_all (n - 1).toNat (List.mem_range.mpr (by omega))
  rw [show (((n - 1).toNat : Nat) : Int) + 1 = n by omega] at this
  simp only [Bool.and_eq_true, decide_eq_true_eq] at this
  exact this
theorem dvd_sub_of {a b q : Int} (h : a % q = b % q) : q ∣ a - b := by
  apply Int.dvd_of_emod_eq_zero
  rw [Int.sub_emod, h, Int.sub_self, Int.zero_emod]
theorem emod_of_dvd {a b q : Int} (h : q ∣ a - b) : a % q = b % q := by
  have := Int.emod_emod_of_dvd
  obtain ⟨t, ht⟩ := h
  rw [show a = b + q * t by omega, Int.add_mul_emod_self_left]
/-- what is left where st has an inverse -/
theorem unst {q st v e : Int} (hv : (st * v) % q = 1) (hq : 2 ≤ q) (h : q ∣ e * st) : q ∣ e := by
  have h1 : q ∣ st * v - 1 := by
    have : (st * v) % q = 1 % q := by rw [hv, Int.emod_eq_of_lt (by omega) (by omega)]
    exact dvd_sub_of this
  obtain ⟨t, ht⟩ := h1
  obtain ⟨y, hy⟩ := h
  refine ⟨y * v - e * t, ?_⟩
  have e1 : e * (st * v - 1) = e * (q * t) := by rw [ht]
  have e2 : e * st * v = q * y * v := by rw [hy]
  rw [Int.mul_sub, Int.mul_one] at e1
  rw [Int.mul_sub]
  have e3 : e * (st * v) = e * st * v := (Int.mul_assoc ..).symm
  have e4 : q * (y * v) = q * y * v := (Int.mul_assoc ..).symm
  have e5 : q * (e * t) = e * (q * t) := by rw [← Int.mul_assoc, ← Int.mul_assoc, Int.mul_comm q e]
  omega
theorem eq0 {a b : Int} (h1 : 0 ≤ a) (h2 : a < b) (h : b ∣ a) : a = 0 := (Int.emod_eq_of_lt h1 h2).symm.trans (Int.emod_eq_zero_of_dvd h)
theorem seek_hit {q r st v f k : Int} (hq : 2 ≤ q) (hv : (st * v) % q = 1) (hk : k < q) (hr : (f + k * st) % q = r) : ∀ (m : Nat) (j : Int), 0 ≤ j → j ≤ k → k - j < m → seek q r st m (f + j * st) = f + k * st
  | 0, j, _, _, h => by omega
  | m + 1, j, h0, h1, h2 => by
    unfold seek
    by_cases hz : (f + j * st) % q = r
    · rw [if_pos hz]
      have d : q ∣ (k - j) * st := by
        have := dvd_sub_of (hr.trans hz.symm)
        rwa [show f + k * st - (f + j * st) = (k - j) * st by rw [Int.sub_mul]; omega] at this
      have := eq0 (a := k - j) (b := q) (by omega) (by omega) (unst hv hq d)
      rw [show k = j by omega]
    · rw [if_neg hz]
      have ne : j ≠ k := fun z => hz (z ▸ hr)
      have := seek_hit hq hv hk hr m (j + 1) (by omega) (by omega) (by omega)
      rw [Int.add_mul, Int.one_mul] at this
      rw [Int.add_assoc]
      exact this
theorem joinI_ok : ∀ (qs rs : List Int) (f st : Int), goodQ qs st = true → rs.length = qs.length → 0 ≤ f → f < st → (∀ x ∈ qs.zip rs, 0 ≤ x.2 ∧ x.2 < x.1) →
    0 ≤ (joinI (qs.zip rs) (f, st)).1 ∧ (joinI (qs.zip rs) (f, st)).1 < prod qs st ∧ st ∣ (joinI (qs.zip rs) (f, st)).1 - f ∧ qs.map (fun q => (joinI (qs.zip rs) (f, st)).1 % q) = rs ∧ (∀ q ∈ qs, 2 ≤ q)
  | [], [], f, st, _, _, h0, h1, _ => ⟨h0, h1, by show st ∣ f - f; rw [Int.sub_self]; exact Int.dvd_zero _, rfl, fun q z => nomatch z⟩
  | [], _ :: _, _, _, _, h, _, _, _ => by cases h
  | _ :: _, [], _, _, _, h, _, _, _ => by cases h
  | q :: qs, r :: rs, f, st, hg, hl, h0, h1, hr => by
    simp only [goodQ, Bool.and_eq_true, decide_eq_true_eq, List.any_eq_true, List.mem_range] at hg
    obtain ⟨⟨hq, v, _, hv⟩, hg⟩ := hg
    obtain ⟨r0, r1⟩ := hr (q, r) (List.mem_cons_self ..)
    have r0 : 0 ≤ r := r0
    have r1 : r < q := r1
    -- the step that hits
    obtain ⟨k, hk0, hk1, hhit⟩ : ∃ k, 0 ≤ k ∧ k < q ∧ (f + k * st) % q = r := by
      refine ⟨((r - f) * v) % q, Int.emod_nonneg _ (by omega), Int.emod_lt_of_pos _ (by omega), ?_⟩
      have e2 : q ∣ st * v - 1 := by
        have : (st * v) % q = 1 % q := by rw [hv, Int.emod_eq_of_lt (by omega) (by omega)]
        exact dvd_sub_of this
      have hy := Int.mul_ediv_add_emod ((r - f) * v) q
      obtain ⟨t, ht⟩ := e2
      have e3 : (f + ((r - f) * v) % q * st) % q = r % q := by
        apply emod_of_dvd
        refine ⟨(r - f) * t - ((r - f) * v) / q * st, ?_⟩
        have a1 : ((r - f) * v) % q = (r - f) * v - q * (((r - f) * v) / q) := by omega
        have a2 : (v : Int) * st = 1 + q * t := by rw [Int.mul_comm]; omega
        generalize ((r - f) * v) / q = y at *
        rw [a1, Int.sub_mul ((r - f) * v), Int.mul_assoc (r - f), a2, Int.mul_add, Int.mul_one, Int.mul_sub]
        have a3 : (r - f) * (q * t) = q * ((r - f) * t) := by rw [← Int.mul_assoc, ← Int.mul_assoc, Int.mul_comm q]
        have a4 : q * y * st = q * (y * st) := Int.mul_assoc ..
        omega
      rw [e3, Int.emod_eq_of_lt r0 r1]
    have hs := seek_hit (r := r) hq hv hk1 hhit q.toNat 0 (Int.le_refl _) hk0 (by omega)
    rw [Int.zero_mul, Int.add_zero] at hs
    have st0 : 0 < st := by omega
    have b0 : 0 ≤ k * st := Int.mul_nonneg hk0 (by omega)
    have b1 : k * st ≤ (q - 1) * st := Int.mul_le_mul_of_nonneg_right (by omega) (by omega)
    rw [Int.sub_mul, Int.one_mul] at b1
    have b2 : st * q = q * st := Int.mul_comm ..
    have i := joinI_ok qs rs (f + k * st) (st * q) hg (by simpa using hl) (by omega) (by omega) fun x hx => hr x (List.mem_cons_of_mem _ hx)
    have e : joinI ((q :: qs).zip (r :: rs)) (f, st) = joinI (qs.zip rs) (f + k * st, st * q) := by
      show joinI (qs.zip rs) (seek q r st q.toNat f, st * q) = _
      rw [hs]
    rw [e]
    obtain ⟨i1, i2, i3, i4, i5⟩ := i
    obtain ⟨y, hy⟩ := i3
    refine ⟨i1, i2, ⟨q * y + k, ?_⟩, ?_, fun x hx => ?_⟩
    · rw [Int.mul_add, ← Int.mul_assoc, Int.mul_comm st k]
      omega
    · rw [List.map_cons, i4]
      congr 1
      rw [show (joinI (qs.zip rs) (f + k * st, st * q)).1 = (f + k * st) + q * (st * y) by
        rw [← Int.mul_assoc, Int.mul_comm q st]; omega, Int.add_mul_emod_self_left]
      exact hhit
    · rcases List.mem_cons.mp hx with rfl | hx
      · exact hq
      · exact i5 x hx
theorem dvd_all : ∀ (qs : List Int) (st d : Int), goodQ qs st = true → st ∣ d → (∀ q ∈ qs, q ∣ d) → prod qs st ∣ d
  | [], _, _, _, h, _ => h
  | q :: qs, st, d, hg, h, hq => by
    simp only [goodQ, Bool.and_eq_true, decide_eq_true_eq, List.any_eq_true, List.mem_range] at hg
    obtain ⟨⟨h2, v, _, hv⟩, hg⟩ := hg
    refine dvd_all qs (st * q) d hg ?_ fun x hx => hq x (List.mem_cons_of_mem _ hx)
    obtain ⟨e, he⟩ := h
    have := hq q (List.mem_cons_self ..)
    rw [he, Int.mul_comm] at this
    obtain ⟨y, hy⟩ := unst hv h2 this
    exact ⟨y, by rw [he, hy, Int.mul_assoc]⟩
theorem join_ok {n : Int} (h1 : 1 ≤ n) (h2 : n ≤ 240) {rs : List Int} (hl : rs.length = (pw n).length) (hr : ∀ x ∈ (pw n).zip rs, 0 ≤ x.2 ∧ x.2 < x.1) :
    0 ≤ (joinI ((pw n).zip rs) (0, 1)).1 ∧ (joinI ((pw n).zip rs) (0, 1)).1 < n ∧ (pw n).map (fun q => (joinI ((pw n).zip rs) (0, 1)).1 % q) = rs := by
  obtain ⟨g1, g2⟩ := good_at h1 h2
  obtain ⟨i1, i2, _, i4, _⟩ := joinI_ok (pw n) rs 0 1 g1 hl (by omega) (by omega) hr
  rw [g2] at i2
  exact ⟨i1, i2, i4⟩
theorem zip_map_self {f : Int → Int} : ∀ {l : List Int} {x : Int × Int}, x ∈ l.zip (l.map f) → x.1 ∈ l ∧ x.2 = f x.1
  | [], x, h => by simp at h
  | a :: l, x, h => by
    rw [List.map_cons, List.zip_cons_cons, List.mem_cons] at h
    rcases h with rfl | h
    · exact ⟨List.mem_cons_self .., rfl⟩
    · obtain ⟨h1, h2⟩ := zip_map_self h
      exact ⟨List.mem_cons_of_mem _ h1, h2⟩
/-- a number's rests, joined -/
theorem join_split {n a : Int} (h1 : 1 ≤ n) (h2 : n ≤ 240) : (joinI ((pw n).zip ((pw n).map fun q => a % q)) (0, 1)).1 = a % n := by
  obtain ⟨g1, g2⟩ := good_at h1 h2
  have hok := okN_at h1 h2
  have hq : ∀ q ∈ pw n, 2 ≤ q ∧ q ∣ n := fun q hq => by
    obtain ⟨_, _, h⟩ := pp_ok h1 h2
    obtain ⟨b1, _, b3⟩ := h q hq
    exact ⟨b1, Int.dvd_of_emod_eq_zero b3⟩
  obtain ⟨i1, i2, i3⟩ := join_ok h1 h2 (rs := (pw n).map fun q => a % q) (by rw [List.length_map]) fun x hx => by
    obtain ⟨h3, h4⟩ := zip_map_self hx
    have := (hq x.1 h3).1
    rw [h4]
    exact ⟨Int.emod_nonneg _ (by omega), Int.emod_lt_of_pos _ (by omega)⟩
  have hd := dvd_all (pw n) 1 ((joinI ((pw n).zip ((pw n).map fun q => a % q)) (0, 1)).1 - a % n) g1 (Int.one_dvd _) fun q hq' => by
    have e : (joinI ((pw n).zip ((pw n).map fun q => a % q)) (0, 1)).1 % q = a % q := List.map_inj_left.mp i3 q hq'
    apply dvd_sub_of
    rw [e, Int.emod_emod_of_dvd a (hq q hq').2]
  rw [g2] at hd
  have m0 : 0 ≤ a % n := Int.emod_nonneg _ (by omega)
  have m1 : a % n < n := Int.emod_lt_of_pos _ (by omega)
  by_cases hc : a % n ≤ (joinI ((pw n).zip ((pw n).map fun q => a % q)) (0, 1)).1
  · have := eq0 (a := (joinI ((pw n).zip ((pw n).map fun q => a % q)) (0, 1)).1 - a % n) (b := n) (by omega) (by omega) hd
    omega
  · have hd' : n ∣ a % n - (joinI ((pw n).zip ((pw n).map fun q => a % q)) (0, 1)).1 := by
      obtain ⟨y, hy⟩ := hd
      exact ⟨-y, by rw [Int.mul_neg]; omega⟩
    have := eq0 (a := a % n - (joinI ((pw n).zip ((pw n).map fun q => a % q)) (0, 1)).1) (b := n) (by omega) (by omega) hd'
    omega
end Lw

/-! P56.lean -/
namespace Lw
open PySem Mi Wk
theorem is_whole {v l h : Int} (h1 : l ≤ v) (h2 : v ≤ h) : autoP g_is_whole s_is_whole 3 [.int v, .int l, .int h] = .ok (.bl true) := by
  have e1 : decide (l ≤ v) = true := decide_eq_true h1
  have e2 : decide (v ≤ h) = true := decide_eq_true h2
  refine p_rt (y_rt (y_ret (x_and_t rfl (x_and_t rfl ?_))))
  have := x_cmp2 (Γ := g_is_whole) (ρ := enter 3 [.int v, .int l, .int h]) (c := none) (o := .le) (o' := .le) (a := .var 1) (b := .var 0) (d := .var 2) (u := .int l) (v := .int v) (w := .int h) (t := decide (l ≤ v)) (t' := decide (v ≤ h)) rfl rfl rfl rfl rfl
  rw [e1, e2] at this
  exact this
theorem need_whole {v l h : Int} (h1 : l ≤ v) (h2 : v ≤ h) : autoP g_need_whole s_need_whole 3 [.int v, .int l, .int h] = .ok .non :=
  p_nx (y_cons (y_ite_f (x_not (x_call rfl rfl (is_whole h1 h2))) rfl) rfl)
theorem need_n {n : Int} (h1 : 1 ≤ n) (h2 : n ≤ 240) : autoP g_need_n s_need_n 1 [.int n] = .ok .non :=
  p_nx (y_cons (y_drop (x_call rfl rfl (need_whole h1 h2))) rfl)
theorem rest_in {a n : Int} (h : 0 < n) : autoP g_rest_in s_rest_in 2 [.int a, .int n] = .ok (.int (a % n)) :=
  p_rt (y_rt (y_ret (x_bin rfl rfl (v_mod h))))
theorem raised {p : Int} (hp : p.natAbs < 18446744073709551616) (e : Nat) (he : e < 1000) : autoP g_raised s_raised 4 [.int p, .int e] = .ok (.int (p ^ e)) := by
  refine p_rt (y_cons (y_set rfl) ?_)
  have key : ∀ (us : List U) (k : Nat) (j : Option Sl), ∃ j', loopL [3] true (evS g_raised (.cons (.set 2 (.bin .mul (.var 2) (.var 0))) .nil)) us [some (.bor (.int p)), some (.bor (.int e)), some (.fr (.int (p ^ k))), j] none = .ok (.nx [some (.bor (.int p)), some (.bor (.int e)), some (.fr (.int (p ^ (k + us.length)))), j']) none := by
    intro us
    induction us with
    | nil => exact fun k j => ⟨j, rfl⟩
    | cons u us ih =>
      intro k j
      obtain ⟨j', h⟩ := ih (k + 1) (some (.fr u))
      refine ⟨j', z_nx rfl (y_cons (y_set (x_bin rfl rfl (v_mul (.inr hp)))) rfl) ?_⟩
      rw [Int.pow_succ] at h
      rw [show k + (u :: us).length = k + 1 + us.length by simp only [List.length_cons]; omega]
      exact h
  obtain ⟨j', h⟩ := key (Mi.upTo 0 ((e : Int) - 0).toNat) 0 none
  have hl : (Mi.upTo 0 ((e : Int) - 0).toNat).length = e := by unfold Mi.upTo; simp
  rw [hl, Nat.zero_add, Int.pow_zero] at h
  exact y_cons (y_loop rfl (x_rng1 rfl (v_rng (by omega))) h) (y_rt rfl)

/-! ### the prime powers of n -/
def pair (x : Int × Int) : U := .tup [.int x.1, .int x.2]
def sb (b : Bool) (u : U) : Option Sl := if b then some (.bor u) else some (.fr u)
theorem strip_run (p : Int) (hp : 2 ≤ p ∧ p ≤ 240) (own : Option Sl) : ∀ (k F : Nat) (n o : Int) (b : Bool), 1 ≤ n → n < 2 ^ k → k < F →
    1 ≤ (strip p k (n, o)).1 ∧ (strip p k (n, o)).1 ≤ n ∧ ∃ b', whlL (ev g_prime_powers (E.cmp Cop.eq (E.bin Bop.mod (E.b1 Bi.int (E.var 0)) (E.var 2)) (E.con (U.int (Int.ofNat 0))))) (evS g_prime_powers ((S.par 0 3 (E.bin Bop.fdiv (E.var 0) (E.var 2)) (E.bin Bop.add (E.var 3) (E.con (U.int (Int.ofNat 1))))).cons S.nil)) F
      [sb b (.int n), own, some (.fr (.int p)), some (.fr (.int o))] none = .ok (.nx [sb b' (.int (strip p k (n, o)).1), own, some (.fr (.int p)), some (.fr (.int (strip p k (n, o)).2))]) none
  | 0, F, n, o, b, h1, h2, h3 => by
    rw [Int.pow_zero] at h2
    omega
  | k + 1, 0, n, o, b, h1, h2, h3 => by omega
  | k + 1, F + 1, n, o, b, h1, h2, h3 => by
    have hc : ev g_prime_powers (E.cmp Cop.eq (E.bin Bop.mod (E.b1 Bi.int (E.var 0)) (E.var 2)) (E.con (U.int (Int.ofNat 0)))) [sb b (.int n), own, some (.fr (.int p)), some (.fr (.int o))] none = .ok (.bl (decide (n % p = 0))) none := by
      cases b <;> exact x_cmp (x_bin rfl rfl (v_mod (by omega))) rfl v_eqi
    by_cases hz : n % p = 0
    · have e : strip p (k + 1) (n, o) = strip p k (n / p, o + 1) := by rw [strip, if_pos hz]
      rw [e]
      have hdm : p * (n / p) + n % p = n := Int.mul_ediv_add_emod n p
      rw [hz] at hdm
      have hlt : n / p < 2 ^ k := by
        rw [Int.pow_succ] at h2
        have : 2 * (n / p) ≤ p * (n / p) := Int.mul_le_mul_of_nonneg_right hp.1 (Int.ediv_nonneg (by omega) (by omega))
        omega
      have hge : 1 ≤ n / p := by
        have : ¬ n / p ≤ 0 := fun z => by
          have : p * (n / p) ≤ 0 := Int.mul_nonpos_of_nonneg_of_nonpos (by omega) z
          omega
        omega
      have hle : n / p ≤ n := Int.ediv_le_self p (by omega)
      obtain ⟨i1, i2, b', i3⟩ := strip_run p hp own k F (n / p) (o + 1) false hge hlt (by omega)
      refine ⟨i1, by omega, b', w_t (by rw [hc, hz]; rfl) (ρ2 := [some (.fr (.int (n / p))), own, some (.fr (.int p)), some (.fr (.int (o + 1)))]) ?_ i3⟩
      have lg : p.natAbs.log2 < 9000 := by
        have : p.natAbs.log2 ≤ p.natAbs := Nat.log2_le_self _
        omega
      cases b <;> exact y_cons (y_par (x_bin rfl rfl (v_fdiv ⟨by omega, lg⟩)) (x_bin rfl rfl rfl)) rfl
    · have e : strip p (k + 1) (n, o) = (n, o) := by rw [strip, if_neg hz]
      rw [e]
      exact ⟨h1, Int.le_refl _, b, w_f (by rw [hc]; simp [hz])⟩
theorem prime_powers {n : Int} (h1 : 1 ≤ n) (h2 : n ≤ 240) (hl : (pp n).length ≤ 10) : autoP g_prime_powers s_prime_powers 4 [.int n] = .ok (.tup ((pp n).map pair)) := by
  refine p_rt (y_cons (y_drop (x_call rfl rfl (need_n h1 h2))) (y_cons (y_set (x_lst rfl)) ?_))
  have key := loop_all (tg := [2]) (fl := true) (b := evS g_prime_powers ((S.set 3 (E.con (U.int (Int.ofNat 0)))).cons
              ((S.whl (E.cmp Cop.eq (E.bin Bop.mod (E.b1 Bi.int (E.var 0)) (E.var 2)) (E.con (U.int (Int.ofNat 0))))
                    ((S.par 0 3 (E.bin Bop.fdiv (E.var 0) (E.var 2))
                          (E.bin Bop.add (E.var 3) (E.con (U.int (Int.ofNat 1))))).cons
                      S.nil)).cons
                ((S.ite (E.cmp Cop.gt (E.var 3) (E.con (U.int (Int.ofNat 0))))
                      (((S.frz 2).cons ((S.frz 3).cons (S.app 1 ((E.evar 2).cons ((E.evar 3).cons E.nil)).tup))).cons
                        S.nil)
                      S.nil).cons
                  S.nil))))
    (fun us ρ => ∃ (b : Bool) (m : Int) (fnd : List (Int × Int)) (j2 j3 : Option Sl) (l : List Int), ρ = [sb b (.int m), some (.own (fnd.map pair)), j2, j3] ∧ 1 ≤ m ∧ m ≤ 240 ∧ us = l.map U.int ∧ (∀ p ∈ l, 2 ≤ p ∧ p ≤ 240) ∧ fnd.length + l.length ≤ 300 ∧ (l.foldl ppStep (m, fnd)).2 = pp n)
    ((ps n).map U.int) [sb true (.int n), some (.own []), none, none] none
    ⟨true, n, [], none, none, ps n, rfl, h1, h2, rfl, fun p hp => by
      unfold ps at hp
      rw [List.mem_map] at hp
      obtain ⟨k, hk, rfl⟩ := hp
      rw [List.mem_range] at hk
      omega, by unfold ps; simp; omega, rfl⟩ ?_
  · obtain ⟨ρ', e1, b, m, fnd, j2, j3, l, rfl, _, _, e2, _, _, e3⟩ := key
    have hl0 : l = [] := by cases l with | nil => rfl | cons => cases e2
    subst hl0
    have e3 : fnd = pp n := e3
    subst e3
    have hr : rng (.int 2) (.int (n + 1)) = some ((ps n).map U.int) := by
      rw [v_rng (by omega), upTo_map]; rfl
    refine y_cons (y_loop rfl (x_rng2 rfl (x_bin rfl rfl rfl) hr) e1) (y_rt (y_ret (x_b1 (u := .lst ((pp n).map pair)) ?_ rfl)))
    cases b <;> rfl
  · rintro u us ρ ⟨b, m, fnd, j2, j3, l, rfl, g1, g2, e2, hp, hlen, e3⟩
    cases l with
    | nil => cases e2
    | cons p l =>
      cases e2
      obtain ⟨p1, p2⟩ := hp p (List.mem_cons_self ..)
      obtain ⟨i1, i2, b', i3⟩ := strip_run p ⟨p1, p2⟩ (some (.own (fnd.map pair))) 8 fuel m 0 b g1 (by omega) (by decide)
      have a1 : asg [2] true (.int p) [sb b (.int m), some (.own (fnd.map pair)), j2, j3] = some [sb b (.int m), some (.own (fnd.map pair)), some (.fr (.int p)), j3] := rfl
      have cnd : ev g_prime_powers (E.cmp Cop.gt (E.var 3) (E.con (U.int (Int.ofNat 0)))) [sb b' (.int (strip p 8 (m, 0)).1), some (.own (fnd.map pair)), some (.fr (.int p)), some (.fr (.int (strip p 8 (m, 0)).2))] none = .ok (.bl (decide (0 < (strip p 8 (m, 0)).2))) none := rfl
      have st : ppStep (m, fnd) p = ((strip p 8 (m, 0)).1, if (strip p 8 (m, 0)).2 > 0 then fnd ++ [(p, (strip p 8 (m, 0)).2)] else fnd) := rfl
      by_cases hz : 0 < (strip p 8 (m, 0)).2
      · rw [if_pos hz] at st
        refine ⟨_, _, a1, y_cons (y_set rfl) (y_cons (y_whl i3) (y_cons (y_ite_t (dT cnd hz) (y_cons (y_cons rfl (y_cons rfl (y_app rfl (x_tup rfl) ?_))) rfl)) rfl)), b', (strip p 8 (m, 0)).1, fnd ++ [(p, (strip p 8 (m, 0)).2)], some (.fr (.int p)), some (.fr (.int (strip p 8 (m, 0)).2)), l, ?_, i1, by omega, rfl, fun q hq => hp q (List.mem_cons_of_mem _ hq), ?_, ?_⟩
        · rw [List.length_map]; simp only [List.length_cons] at hlen; unfold L; omega
        · rw [List.map_append]; rfl
        · simp only [List.length_cons, List.length_append, List.length_nil] at hlen ⊢; omega
        · rw [← e3, List.foldl_cons, st]
      · rw [if_neg hz] at st
        refine ⟨_, _, a1, y_cons (y_set rfl) (y_cons (y_whl i3) (y_cons (y_ite_f (dF cnd hz) rfl) rfl)), b', (strip p 8 (m, 0)).1, fnd, _, _, l, rfl, i1, by omega, rfl, fun q hq => hp q (List.mem_cons_of_mem _ hq), ?_, ?_⟩
        · simp only [List.length_cons] at hlen; omega
        · rw [← e3, List.foldl_cons, st]

theorem powers_in {n : Int} (h1 : 1 ≤ n) (h2 : n ≤ 240) : autoP g_powers_in s_powers_in 3 [.int n] = .ok (.tup ((pw n).map U.int)) := by
  obtain ⟨a1, a2, _⟩ := pp_ok h1 h2
  have hc := comp_map (f := compF g_powers_in [1, 2] [1, 2] false false E.nil (E.call 0 ((E.var 1).cons ((E.var 2).cons E.nil))) [some (.bor (.int n)), none, none]) pair (fun x => .int (x.1 ^ x.2.toNat)) none (pp n) [] (by simp only [List.length_nil, L]; omega) fun x hx => by
    obtain ⟨b1, b2, b3, b4⟩ := a2 x hx
    refine compF_no rfl (x_call rfl rfl ?_)
    have := raised (p := x.1) (by omega) x.2.toNat (by omega)
    rw [show ((x.2.toNat : Nat) : Int) = x.2 by omega] at this
    exact this
  refine p_rt (y_rt (y_ret (x_b1 (x_comp rfl (x_iseq (x_call rfl rfl (prime_powers h1 h2 a1)) rfl) hc) ?_)))
  show some (U.tup ([] ++ (pp n).map _)) = _
  rw [List.nil_append]
  unfold pw
  rw [List.map_map]; rfl
theorem split_in {a n : Int} (h1 : 1 ≤ n) (h2 : n ≤ 240) : autoP g_split_in s_split_in 3 [.int a, .int n] = .ok (.tup (((pw n).map fun q => a % q).map U.int)) := by
  obtain ⟨a1, _, a3⟩ := pp_ok h1 h2
  have hl : (pw n).length ≤ 10 := by unfold pw; rw [List.length_map]; exact a1
  have hc := comp_map (f := compF g_split_in [2] [2] true false E.nil (E.call 0 ((E.var 0).cons ((E.var 2).cons E.nil))) [some (.bor (.int a)), some (.bor (.int n)), none]) U.int (fun q => .int (a % q)) none (pw n) [] (by simp only [List.length_nil, L]; omega) fun q hq => by
    obtain ⟨b1, b2, b3⟩ := a3 q hq
    exact compF_no rfl (x_call rfl rfl (rest_in (by omega)))
  refine p_rt (y_rt (y_ret (x_b1 (x_comp rfl (x_iseq (x_call rfl rfl (powers_in h1 h2)) rfl) hc) ?_)))
  show some (U.tup ([] ++ (pw n).map _)) = _
  rw [List.nil_append, List.map_map]; rfl
theorem power_row {n : Int} (h1 : 1 ≤ n) (h2 : n ≤ 240) : autoP g_power_row s_power_row 1 [.int n] = .ok (.tup ((pw n).map U.int)) :=
  p_rt (y_cons (y_drop (x_call rfl rfl (need_n h1 h2))) (y_rt (y_ret (x_call rfl rfl (powers_in h1 h2)))))
theorem split_rest {a n : Int} (h1 : 1 ≤ n) (h2 : n ≤ 240) (h3 : -1000000000000000000000000000000000000000000000000000000000000 ≤ a) (h4 : a ≤ 1000000000000000000000000000000000000000000000000000000000000) : autoP g_split_rest s_split_rest 2 [.int a, .int n] = .ok (.tup (((pw n).map fun q => a % q).map U.int)) :=
  p_rt (y_cons (y_drop (x_call rfl rfl (need_whole h3 h4))) (y_cons (y_drop (x_call rfl rfl (need_n h1 h2))) (y_rt (y_ret (x_call rfl rfl (split_in h1 h2))))))
end Lw

/-! Q56.lean -/
namespace Lw
open PySem Mi Wk
/-! ### the law's own powers -/
theorem lturns {p : Int} (hp : 2 ≤ p ∧ p ≤ 240) (x0 x1 x2 : Option Sl) (h1 : x1 = some (.fr (.int p))) : ∀ (us : List U) (a m : Int) (j : Option Sl), ∃ j', loopL [5] true (evS g__law_powers (((S.ite (E.cmp Cop.eq (E.bin Bop.mod (E.b1 Bi.int (E.var 3)) (E.var 1)) (E.con (U.int (Int.ofNat 0))))
                        ((S.par 4 3 (E.bin Bop.mul (E.var 4) (E.var 1)) (E.bin Bop.fdiv (E.var 3) (E.var 1))).cons
                          S.nil)
                        S.nil).cons
                    S.nil))) us [x0, x1, x2, some (.fr (.int m)), some (.fr (.int a)), j] none = .ok (.nx [x0, x1, x2, some (.fr (.int (lts p us.length (a, m)).2)), some (.fr (.int (lts p us.length (a, m)).1)), j']) none
  | [], a, m, j => ⟨j, rfl⟩
  | u :: us, a, m, j => by
    subst h1
    have lg : p.natAbs.log2 < 9000 := by
      have : p.natAbs.log2 ≤ p.natAbs := Nat.log2_le_self _
      omega
    have cnd : ev g__law_powers (E.cmp Cop.eq (E.bin Bop.mod (E.b1 Bi.int (E.var 3)) (E.var 1)) (E.con (U.int (Int.ofNat 0)))) [x0, some (.fr (.int p)), x2, some (.fr (.int m)), some (.fr (.int a)), some (.fr u)] none = .ok (.bl (decide (m % p = 0))) none := x_cmp (x_bin rfl rfl (v_mod (by omega))) rfl v_eqi
    by_cases hz : m % p = 0
    · obtain ⟨j', h⟩ := lturns hp x0 _ x2 rfl us (a * p) (m / p) (some (.fr u))
      have e : lts p (u :: us).length (a, m) = lts p us.length (a * p, m / p) := by
        show lts p us.length (lturn p (a, m)) = _
        unfold lturn; rw [if_pos hz]
      rw [e]
      exact ⟨j', z_nx rfl (y_cons (y_ite_t (dT cnd hz) (y_cons (y_par (x_bin rfl rfl (v_mul (.inr (by omega)))) (x_bin rfl rfl (v_fdiv ⟨by omega, lg⟩))) rfl)) rfl) h⟩
    · obtain ⟨j', h⟩ := lturns hp x0 _ x2 rfl us a m (some (.fr u))
      have e : lts p (u :: us).length (a, m) = lts p us.length (a, m) := by
        show lts p us.length (lturn p (a, m)) = _
        unfold lturn; rw [if_neg hz]
      rw [e]
      exact ⟨j', z_nx rfl (y_cons (y_ite_f (dF cnd hz) rfl) rfl) h⟩
theorem law_powers {n : Int} (h1 : 1 ≤ n) (h2 : n ≤ 240) : autoP g__law_powers s__law_powers 6 [.int n] = .ok (.lst ((pw n).map U.int)) := by
  refine p_rt (y_cons (y_cons rfl (y_par (x_lst rfl) rfl)) ?_)
  have key := loop_all (tg := [1]) (fl := true) (b := evS g__law_powers ((S.set 4 (E.con (U.int (Int.ofNat 1)))).cons
            ((S.loop [5] true (E.con (U.int (Int.ofNat 8))).rng1
                  ((S.ite (E.cmp Cop.eq (E.bin Bop.mod (E.b1 Bi.int (E.var 3)) (E.var 1)) (E.con (U.int (Int.ofNat 0))))
                        ((S.par 4 3 (E.bin Bop.mul (E.var 4) (E.var 1)) (E.bin Bop.fdiv (E.var 3) (E.var 1))).cons
                          S.nil)
                        S.nil).cons
                    S.nil)).cons
              ((S.ite (E.cmp Cop.gt (E.var 4) (E.con (U.int (Int.ofNat 1))))
                    (((S.frz 4).cons (S.app 2 (E.evar 4))).cons S.nil) S.nil).cons
                S.nil))))
    (fun us ρ => ∃ (m : Int) (fnd : List Int) (j1 j4 j5 : Option Sl) (l : List Int), ρ = [some (.bor (.int n)), j1, some (.own (fnd.map U.int)), some (.fr (.int m)), j4, j5] ∧ us = l.map U.int ∧ (∀ p ∈ l, 2 ≤ p ∧ p ≤ 240) ∧ fnd.length + l.length ≤ 300 ∧ (l.foldl lpStep (m, fnd)).2 = lpw n)
    ((ps n).map U.int) [some (.bor (.int n)), none, some (.own []), some (.fr (.int n)), none, none] none
    ⟨n, [], none, none, none, ps n, rfl, rfl, fun p hp => by
      unfold ps at hp
      rw [List.mem_map] at hp
      obtain ⟨k, hk, rfl⟩ := hp
      rw [List.mem_range] at hk
      omega, by unfold ps; simp; omega, rfl⟩ ?_
  · obtain ⟨ρ', e1, m, fnd, j1, j4, j5, l, rfl, e2, _, _, e3⟩ := key
    have hl0 : l = [] := by cases l with | nil => rfl | cons => cases e2
    subst hl0
    have e3 : fnd = lpw n := e3
    rw [lpw_eq h1 h2] at e3
    subst e3
    have hr : rng (.int 2) (.int (n + 1)) = some ((ps n).map U.int) := by
      rw [v_rng (by omega), upTo_map]; rfl
    exact y_cons (y_loop rfl (x_rng2 rfl (x_bin rfl rfl rfl) hr) e1) (y_rt rfl)
  · rintro u us ρ ⟨m, fnd, j1, j4, j5, l, rfl, e2, hp, hlen, e3⟩
    cases l with
    | nil => cases e2
    | cons p l =>
      cases e2
      have hp' := hp p (List.mem_cons_self ..)
      obtain ⟨j', i3⟩ := lturns hp' (some (.bor (.int n))) _ (some (.own (fnd.map U.int))) rfl (Mi.upTo 0 8) 1 m j5
      have cnd : ev g__law_powers (E.cmp Cop.gt (E.var 4) (E.con (U.int (Int.ofNat 1)))) [some (.bor (.int n)), some (.fr (.int p)), some (.own (fnd.map U.int)), some (.fr (.int (lts p 8 (1, m)).2)), some (.fr (.int (lts p 8 (1, m)).1)), j'] none = .ok (.bl (decide (1 < (lts p 8 (1, m)).1))) none := rfl
      have st : lpStep (m, fnd) p = ((lts p 8 (1, m)).2, if 1 < (lts p 8 (1, m)).1 then fnd ++ [(lts p 8 (1, m)).1] else fnd) := rfl
      by_cases hz : 1 < (lts p 8 (1, m)).1
      · rw [if_pos hz] at st
        refine ⟨_, _, rfl, y_cons (y_set rfl) (y_cons (y_loop rfl (x_rng1 rfl rfl) i3) (y_cons (y_ite_t (dT cnd hz) (y_cons (y_cons rfl (y_app rfl rfl ?_)) rfl)) rfl)), (lts p 8 (1, m)).2, fnd ++ [(lts p 8 (1, m)).1], some (.fr (.int p)), some (.fr (.int (lts p 8 (1, m)).1)), j', l, ?_, rfl, fun q hq => hp q (List.mem_cons_of_mem _ hq), ?_, ?_⟩
        · rw [List.length_map]; simp only [List.length_cons] at hlen; unfold L; omega
        · rw [List.map_append]; rfl
        · simp only [List.length_cons, List.length_append, List.length_nil] at hlen ⊢; omega
        · rw [← e3, List.foldl_cons, st]
      · rw [if_neg hz] at st
        refine ⟨_, _, rfl, y_cons (y_set rfl) (y_cons (y_loop rfl (x_rng1 rfl rfl) i3) (y_cons (y_ite_f (dF cnd hz) rfl) rfl)), (lts p 8 (1, m)).2, fnd, some (.fr (.int p)), some (.fr (.int (lts p 8 (1, m)).1)), j', l, rfl, rfl, fun q hq => hp q (List.mem_cons_of_mem _ hq), ?_, ?_⟩
        · simp only [List.length_cons] at hlen; omega
        · rw [← e3, List.foldl_cons, st]
/-! ### joined -/
theorem seeks {q r st : Int} (hq : 0 < q) (x0 x1 : Option Sl) : ∀ (us : List U) (f : Int) (j : Option Sl), ∃ j', loopL [6] true (evS g_join_in ((S.ite (E.cmp Cop.eq (E.call 1 ((E.var 2).cons ((E.var 4).cons E.nil))) (E.var 5)) (S.brk.cons S.nil)
                        S.nil).cons
                    ((S.set 2 (E.bin Bop.add (E.var 2) (E.var 3))).cons S.nil))) us [x0, x1, some (.fr (.int f)), some (.fr (.int st)), some (.fr (.int q)), some (.fr (.int r)), j] none = .ok (.nx [x0, x1, some (.fr (.int (seek q r st us.length f))), some (.fr (.int st)), some (.fr (.int q)), some (.fr (.int r)), j']) none
  | [], f, j => ⟨j, rfl⟩
  | u :: us, f, j => by
    have cnd : ev g_join_in (E.cmp Cop.eq (E.call 1 ((E.var 2).cons ((E.var 4).cons E.nil))) (E.var 5)) [x0, x1, some (.fr (.int f)), some (.fr (.int st)), some (.fr (.int q)), some (.fr (.int r)), some (.fr u)] none = .ok (.bl (decide (f % q = r))) none := x_cmp (x_call rfl rfl (rest_in hq)) rfl v_eqi
    by_cases hz : f % q = r
    · have e : seek q r st (u :: us).length f = f := by
        show (if f % q = r then f else _) = f
        rw [if_pos hz]
      rw [e]
      exact ⟨some (.fr u), z_bk rfl (y_bk (y_ite_t (dT cnd hz) (y_bk rfl)))⟩
    · obtain ⟨j', h⟩ := seeks hq x0 x1 us (f + st) (some (.fr u))
      have e : seek q r st (u :: us).length f = seek q r st us.length (f + st) := by
        show (if f % q = r then f else _) = _
        rw [if_neg hz]
      rw [e]
      exact ⟨j', z_nx rfl (y_cons (y_ite_f (dF cnd hz) rfl) (y_cons (y_set rfl) rfl)) h⟩
theorem joins (x0 x1 : Option Sl) : ∀ (l : List (Int × Int)) (f st : Int) (j4 j5 j6 : Option Sl), (∀ x ∈ l, 2 ≤ x.1 ∧ x.1 ≤ 240) → ∃ j4' j5' j6', loopL [4, 5] false (evS g_join_in ((S.loop [6] true (E.var 4).rng1
                  ((S.ite (E.cmp Cop.eq (E.call 1 ((E.var 2).cons ((E.var 4).cons E.nil))) (E.var 5)) (S.brk.cons S.nil)
                        S.nil).cons
                    ((S.set 2 (E.bin Bop.add (E.var 2) (E.var 3))).cons S.nil))).cons
              ((S.set 3 (E.bin Bop.mul (E.var 3) (E.var 4))).cons S.nil))) (l.map pair) [x0, x1, some (.fr (.int f)), some (.fr (.int st)), j4, j5, j6] none = .ok (.nx [x0, x1, some (.fr (.int (joinI l (f, st)).1)), some (.fr (.int (joinI l (f, st)).2)), j4', j5', j6']) none
  | [], f, st, j4, j5, j6, _ => ⟨j4, j5, j6, rfl⟩
  | (q, r) :: l, f, st, j4, j5, j6, hq => by
    obtain ⟨q1, q2⟩ := hq (q, r) (List.mem_cons_self ..)
    have q1 : 2 ≤ q := q1
    have q2 : q ≤ 240 := q2
    obtain ⟨j', h1⟩ := seeks (q := q) (r := r) (st := st) (by omega) x0 x1 (Mi.upTo 0 (q - 0).toNat) f j6
    obtain ⟨a, b, d, h2⟩ := joins x0 x1 l (seek q r st q.toNat f) (st * q) (some (.fr (.int q))) (some (.fr (.int r))) j' fun x hx => hq x (List.mem_cons_of_mem _ hx)
    have hl : (Mi.upTo 0 (q - 0).toNat).length = q.toNat := by unfold Mi.upTo; simp
    rw [hl] at h1
    exact ⟨a, b, d, z_nx rfl (y_cons (y_loop rfl (x_rng1 rfl (v_rng (by omega))) h1) (y_cons (y_set (x_bin rfl rfl (v_mul (.inr (by omega))))) rfl)) h2⟩
theorem zip_ints : ∀ (a b : List Int), ((a.map U.int).zip (b.map U.int)).map (fun p => U.tup [p.1, p.2]) = (a.zip b).map pair
  | [], _ => by simp
  | _ :: _, [] => by simp
  | a :: as, b :: bs => by
    simp only [List.map_cons, List.zip_cons_cons]
    rw [zip_ints as bs]; rfl
theorem zip_mem : ∀ {a b : List Int} {x : Int × Int}, x ∈ a.zip b → x.1 ∈ a ∧ x.2 ∈ b := fun {a b x} h => List.of_mem_zip (a := x.1) (b := x.2) h
theorem join_in {n : Int} (h1 : 1 ≤ n) (h2 : n ≤ 240) (rs : List Int) : autoP g_join_in s_join_in 7 [.int n, .tup (rs.map U.int)] = .ok (.int (joinI ((pw n).zip rs) (0, 1)).1) := by
  obtain ⟨a1, _, a3⟩ := pp_ok h1 h2
  obtain ⟨j4, j5, j6, h⟩ := joins (some (.bor (.int n))) (some (.bor (.tup (rs.map U.int)))) ((pw n).zip rs) 0 1 none none none fun x hx => by
    obtain ⟨b1, b2, _⟩ := a3 x.1 (zip_mem hx).1
    exact ⟨b1, b2⟩
  exact p_rt (y_cons (y_unp (x_tup rfl) rfl) (y_cons (y_cons rfl (y_loop rfl (x_zip (x_call rfl rfl (powers_in h1 h2)) rfl (congrArg some (zip_ints (pw n) rs))) h)) (y_rt rfl)))
end Lw

/-! R56.lean -/
namespace Lw
open PySem Mi Wk
/-! ### like -/
def goodU : Nat → U → Bool
  | _, .int _ => true
  | d + 1, .tup us => decide (us.length ≤ 1000) && us.all (goodU d)
  | d + 1, .lst us => decide (us.length ≤ 1000) && us.all (goodU d)
  | _, _ => false
theorem sort_int (i : Int) : autoP g__law_sort s__law_sort 1 [.int i] = .ok (.int 2) := rfl
theorem sort_tup (us : List U) : autoP g__law_sort s__law_sort 1 [.tup us] = .ok (.int 3) := rfl
theorem sort_lst (us : List U) : autoP g__law_sort s__law_sort 1 [.lst us] = .ok (.int 4) := rfl
abbrev PL (d : Nat) (us : List U) : An := autoP [f__law_sort, h__law_like d] s__law_like 4 us
theorem zip_self {us : List U} {p : U × U} (h : p ∈ us.zip us) : p.1 = p.2 ∧ p.1 ∈ us := by
  induction us with
  | nil => simp at h
  | cons u us ih =>
    rw [List.zip_cons_cons, List.mem_cons] at h
    rcases h with rfl | h
    · exact ⟨rfl, List.mem_cons_self ..⟩
    · exact ⟨(ih h).1, List.mem_cons_of_mem _ (ih h).2⟩
theorem filterMap_none {α β : Type} : ∀ l : List α, l.filterMap (fun _ => (none : Option β)) = []
  | [] => rfl
  | _ :: l => by rw [List.filterMap_cons_none rfl]; exact filterMap_none l
theorem like_seq {d : Nat} {us : List U} (hl : us.length ≤ 1000) (ih : ∀ u ∈ us, ∃ n fr P, h__law_like d = .pure n fr P ∧ n = 2 ∧ P [u, u] = .ok (.bl true)) (ρ : Ev) (hρ : ρ.length = 4) :
    compL (compF [f__law_sort, h__law_like d] [2, 3] [2, 3] false true (E.call 1 ((E.var 2).cons ((E.var 3).cons E.nil))).not (E.con (U.int (Int.ofNat 1))) ρ) [] ((us.zip us).map fun p => U.tup [p.1, p.2]) none = .ok [] none := by
  have h := comp_filter (f := compF [f__law_sort, h__law_like d] [2, 3] [2, 3] false true (E.call 1 ((E.var 2).cons ((E.var 3).cons E.nil))).not (E.con (U.int (Int.ofNat 1))) ρ) (fun p : U × U => U.tup [p.1, p.2]) (fun _ => none) none (us.zip us) [] (by simp only [List.length_nil, List.length_zip, L]; omega) fun p hp => by
    obtain ⟨e, hm⟩ := zip_self hp
    obtain ⟨n, fr, P, h1, rfl, h3⟩ := ih p.1 hm
    obtain ⟨x, y⟩ := p
    have e : x = y := e
    subst e
    match ρ, hρ with
    | [a0, a1, a2, a3], _ =>
      refine compF_f (ρ' := [a0, a1, some (.fr x), some (.fr x)]) rfl (x_not (t := true) (x_call (us := [x, x]) (fr := fr) rfl ?_ h3))
      show some (h__law_like d) = _
      rw [h1]; rfl
  rw [filterMap_none] at h
  exact h
theorem like_refl : ∀ (d : Nat) (u : U), goodU d u = true → PL d [u, u] = .ok (.bl true)
  | d, .int i, _ => by
    have e : cop .eq (.int i) (.int i) = some true := by
      show some (i == i) = _
      rw [beq_self_eq_true]
    exact p_rt (y_cons (y_ite_f (x_cmp (x_call rfl rfl (sort_int i)) (x_call rfl rfl (sort_int i)) rfl) rfl) (y_rt (y_ite_t (x_cmp (x_call rfl rfl (sort_int i)) (x_tup rfl) rfl) (y_rt (y_ret (x_cmp rfl rfl e))))))
  | d + 1, .tup us, h => by
    simp only [goodU, Bool.and_eq_true, decide_eq_true_eq, List.all_eq_true] at h
    have hc := like_seq (d := d + 1) (us := us) h.1 (fun u hu => ⟨2, true, _, rfl, rfl, like_refl d u (h.2 u hu)⟩) [some (.bor (.tup us)), some (.bor (.tup us)), none, none] rfl
    have e : cop .eq (.int us.length) (.int us.length) = some true := by
      show some ((us.length : Int) == us.length) = _
      rw [beq_self_eq_true]
    exact p_rt (y_cons (y_ite_f (x_cmp (x_call rfl rfl (sort_tup us)) (x_call rfl rfl (sort_tup us)) rfl) rfl) (y_cons (y_ite_f (x_cmp (x_call rfl rfl (sort_tup us)) (x_tup rfl) rfl) rfl) (y_rt (y_ret (x_and_t (x_cmp (x_b1 rfl rfl) (x_b1 rfl rfl) e) (x_cmp (x_comp rfl (x_zip rfl rfl rfl) hc) (x_lst rfl) rfl))))))
  | d + 1, .lst us, h => by
    simp only [goodU, Bool.and_eq_true, decide_eq_true_eq, List.all_eq_true] at h
    have hc := like_seq (d := d + 1) (us := us) h.1 (fun u hu => ⟨2, true, _, rfl, rfl, like_refl d u (h.2 u hu)⟩) [some (.bor (.lst us)), some (.bor (.lst us)), none, none] rfl
    have e : cop .eq (.int us.length) (.int us.length) = some true := by
      show some ((us.length : Int) == us.length) = _
      rw [beq_self_eq_true]
    exact p_rt (y_cons (y_ite_f (x_cmp (x_call rfl rfl (sort_lst us)) (x_call rfl rfl (sort_lst us)) rfl) rfl) (y_cons (y_ite_f (x_cmp (x_call rfl rfl (sort_lst us)) (x_tup rfl) rfl) rfl) (y_rt (y_ret (x_and_t (x_cmp (x_b1 rfl rfl) (x_b1 rfl rfl) e) (x_cmp (x_comp rfl (x_zip rfl rfl rfl) hc) (x_lst rfl) rfl))))))
  | 0, .tup _, h => by cases h
  | 0, .lst _, h => by cases h
  | 0, .non, h => by cases h
  | 0, .bl _, h => by cases h
  | 0, .str _, h => by cases h
  | _ + 1, .non, h => by cases h
  | _ + 1, .bl _, h => by cases h
  | _ + 1, .str _, h => by cases h
/-! ### the rolls -/
theorem roll {m : Int} (hm : 0 < m) (hm2 : m ≤ 1000000000) (a b : Int) : ∃ r a' b', autoC g__law_roll s__law_roll 4 [.int a, .int b] [.int m] = some (.int r, [.int a', .int b']) ∧ 0 ≤ r ∧ r < m := by
  have lg : m.natAbs.log2 < 9000 := by
    have e : m.natAbs < 2 ^ 30 := by omega
    have := (Nat.log2_lt (by omega)).mpr e
    omega
  have cnd : ev g__law_roll (E.cmp Cop.gt ((E.var 0).sub (E.con (U.int (Int.ofNat 0)))) (E.con (U.int (Int.ofNat 0)))) (enterC 4 [.int m]) (some [.int a, .int b]) = .ok (.bl (decide (0 < a))) (some [.int a, .int b]) := x_cmp (x_subC rfl rfl rfl rfl) rfl rfl
  by_cases ha : 0 < a
  · exact ⟨a % m, a / m, b, c_rt (y_rt (y_ite_t (dT cnd ha) (y_cons (y_set (x_bin (x_b1 (x_subC rfl rfl rfl rfl) rfl) rfl (v_mod hm))) (y_cons (y_setC rfl (x_bin (x_subC rfl rfl rfl rfl) rfl (v_fdiv ⟨hm, lg⟩)) rfl rfl rfl) (y_rt rfl))))), Int.emod_nonneg _ (by omega), Int.emod_lt_of_pos _ hm⟩
  · refine ⟨_, _, _, c_rt (y_cons (y_ite_f (dF cnd ha) rfl) (y_cons (y_setC rfl (x_bin (x_b1 (x_bin (x_bin (x_subC rfl rfl rfl rfl) rfl (v_mul (.inr (by decide)))) rfl rfl) rfl) rfl (v_mod (by decide))) rfl rfl rfl)
      (y_cons (y_set (x_bin (x_b1 (x_bin (x_subC rfl rfl rfl rfl) (x_bin (x_subC rfl rfl rfl rfl) rfl rfl) (v_mul (.inl ?_))) rfl) rfl (v_mod (by decide))))
        (y_rt (y_ret (x_bin (x_b1 (x_bin rfl rfl (v_fdiv ⟨by decide, by decide⟩)) rfl) rfl (v_mod hm))))))), Int.emod_nonneg _ (by omega), Int.emod_lt_of_pos _ hm⟩
    have h1 := Int.emod_nonneg (b * 30881 + 8929) (b := 2147483549) (by decide)
    have h2 := Int.emod_lt_of_pos (b * 30881 + 8929) (b := 2147483549) (by decide)
    show ((b * 30881 + 8929) % 2147483549).natAbs < _
    omega

/-! ### join_rests -/
theorem is_tuple {us : List U} {l h : Int} (h1 : l ≤ us.length) (h2 : (us.length : Int) ≤ h) : autoP g_is_tuple_of s_is_tuple_of 3 [.tup us, .int l, .int h] = .ok (.bl true) := by
  have e1 : decide (l ≤ (us.length : Int)) = true := decide_eq_true h1
  have e2 : decide ((us.length : Int) ≤ h) = true := decide_eq_true h2
  refine p_rt (y_rt (y_ret (x_and_t rfl ?_)))
  have := x_cmp2 (Γ := g_is_tuple_of) (ρ := enter 3 [.tup us, .int l, .int h]) (c := none) (o := .le) (o' := .le) (a := .var 1) (b := .b1 .len (.var 0)) (d := .var 2) (u := .int l) (v := .int us.length) (w := .int h) (t := decide (l ≤ (us.length : Int))) (t' := decide ((us.length : Int) ≤ h)) rfl (x_b1 rfl rfl) rfl rfl rfl
  rw [e1, e2] at this
  exact this
theorem are_wholes {r h : Int} (h1 : 0 ≤ r) (h2 : r ≤ h) : autoP g_are_wholes s_are_wholes 5 [.tup [.int r], .int 1, .int 0, .int h] = .ok (.bl true) := by
  have hc := comp_map (f := compF g_are_wholes [4] [4] true false E.nil (E.call 1 ((E.var 4).cons ((E.var 2).cons ((E.var 3).cons E.nil)))) [some (.bor (.tup [.int r])), some (.bor (.int 1)), some (.bor (.int 0)), some (.bor (.int h)), none]) U.int (fun _ => .bl true) none [r] [] (by exact Nat.le_of_ble_eq_true rfl) fun x hx => by
    have : x = r := by simpa using hx
    subst this
    exact compF_no rfl (x_call rfl rfl (is_whole h1 h2))
  exact p_rt (y_rt (y_ret (x_and_t (x_call rfl rfl (is_tuple (Int.le_refl _) (Int.le_refl _))) (x_b1 (x_comp rfl (x_iseq rfl rfl) hc) rfl))))
theorem bls_true {α : Type} : ∀ l : List α, bls (l.map fun _ => U.bl true) = some (l.map fun _ => true)
  | [] => rfl
  | a :: l => by
    show (bls (l.map fun _ => U.bl true)).map (true :: ·) = _
    rw [bls_true l]; rfl
theorem all_true {α : Type} : ∀ l : List α, (l.map fun _ => true).all id = true
  | [] => rfl
  | a :: l => by rw [List.map_cons, List.all_cons, all_true l]; rfl
theorem bi_all {α : Type} (l : List α) : bi .all (.lst (l.map fun _ => U.bl true)) = some (.bl true) := by
  show (bls (l.map fun _ => U.bl true)).map _ = _
  rw [bls_true, Option.map_some, all_true]
theorem zip_swap : ∀ {a b : List Int} {x : Int × Int}, x ∈ a.zip b → (x.2, x.1) ∈ b.zip a
  | [], _, x, h => by simp at h
  | _ :: _, [], x, h => by simp at h
  | a :: as, b :: bs, x, h => by
    rw [List.zip_cons_cons, List.mem_cons] at h ⊢
    rcases h with rfl | h
    · exact .inl rfl
    · exact .inr (zip_swap h)
theorem join_rests {n : Int} (h1 : 1 ≤ n) (h2 : n ≤ 240) {rs : List Int} (hl : rs.length = (pw n).length) (hr : ∀ x ∈ (pw n).zip rs, 0 ≤ x.2 ∧ x.2 < x.1) :
    autoP g_join_rests s_join_rests 5 [.int n, .tup (rs.map U.int)] = .ok (.int (joinI ((pw n).zip rs) (0, 1)).1) := by
  obtain ⟨a1, _, _⟩ := pp_ok h1 h2
  have hl10 : (pw n).length ≤ 10 := by unfold pw; rw [List.length_map]; exact a1
  have e1 : (((pw n).map U.int).length : Int) = ((rs.map U.int).length : Int) := by rw [List.length_map, List.length_map, hl]
  have hc := comp_map (f := compF g_join_rests [3, 4] [3, 4] false false E.nil (E.call 4
                      (((E.evar 3).cons E.nil).tup.cons
                        ((E.con (U.int (Int.ofNat 1))).cons
                          ((E.con (U.int (Int.ofNat 0))).cons
                            ((E.bin Bop.sub (E.var 4) (E.con (U.int (Int.ofNat 1)))).cons E.nil))))) [some (.bor (.int n)), some (.bor (.tup (rs.map U.int))), some (.fr (.tup ((pw n).map U.int))), none, none]) pair (fun _ => .bl true) none (rs.zip (pw n)) [] (by rw [List.length_zip]; simp only [List.length_nil, L]; omega) fun x hx => by
    obtain ⟨b1, b2⟩ := hr _ (zip_swap hx)
    have b1 : 0 ≤ x.1 := b1
    have b2 : x.1 < x.2 := b2
    exact compF_no (ρ' := [some (.bor (.int n)), some (.bor (.tup (rs.map U.int))), some (.fr (.tup ((pw n).map U.int))), some (.fr (.int x.1)), some (.fr (.int x.2))]) rfl (x_call (x_cons (x_tup rfl) (x_cons rfl (x_cons rfl (x_cons (x_bin rfl rfl rfl) x_nil)))) rfl (are_wholes (h := x.2 - 1) b1 (by omega)))
  exact p_rt (y_cons (y_drop (x_call rfl rfl (need_n h1 h2))) (y_cons (y_set (x_call rfl rfl (powers_in h1 h2))) (y_cons (y_ite_f (x_not (t := true) (x_call rfl rfl (is_tuple (by rw [e1]; exact Int.le_refl _) (by rw [e1]; exact Int.le_refl _)))) rfl)
    (y_cons (y_ite_f (x_not (t := true) (x_b1 (x_comp rfl (x_zip rfl rfl (congrArg some (zip_ints rs (pw n)))) hc) (bi_all _))) rfl) (y_rt (y_ret (x_call rfl rfl (join_in h1 h2 rs))))))))
/-! ### the cup -/
theorem law_cup (ns : List Int) (hl : ns.length ≤ 63) : ∃ a b, autoS g__law_cup s__law_cup 2 (ns.map U.int) = some (.lst [.int a, .int b]) := by
  obtain ⟨x, hx⟩ : ∃ x : Int, at? (ns.map U.int ++ [.int 0]) 0 = some (.int x) := by
    cases ns with
    | nil => exact ⟨0, rfl⟩
    | cons y l =>
      refine ⟨y, ?_⟩
      show (ix (U.int y :: (l.map U.int ++ [.int 0])).length 0).bind _ = _
      rw [show ix (U.int y :: (l.map U.int ++ [.int 0])).length 0 = some 0 by
        unfold ix; rw [if_pos (by decide), if_pos (by simp only [List.length_cons]; omega)]; rfl]
      rfl
  have cell : ev g__law_cup (E.b1 Bi.abs ((E.bin Bop.add (E.lscr 0) ((E.con (U.int (Int.ofNat 0))).cons E.nil).lst).sub (E.con (U.int (Int.ofNat 0))))) (enterS 2 (ns.map U.int)) none = .ok (.int (if x < 0 then -x else x)) none :=
    x_b1 (x_sub rfl (x_bin rfl (x_lst rfl) (v_cat (by rw [List.length_map]; simp only [List.length_cons, List.length_nil, L]; omega))) rfl hx) rfl
  generalize (if x < 0 then -x else x) = y at cell
  have cnd : ev g__law_cup (E.cmp Cop.ge (E.var 1) (E.bin Bop.pow (E.con (U.int (Int.ofNat 10))) (E.con (U.int (Int.ofNat 18))))) [some (.scr (ns.map U.int)), some (.fr (.int y))] none = .ok (.bl (decide ((10 : Int) ^ 18 ≤ y))) none := x_cmp rfl (x_bin rfl rfl (v_pow (by decide))) rfl
  have rest := x_bin (Γ := g__law_cup) (ρ := [some (.scr (ns.map U.int)), some (.fr (.int y))]) (c := none) (x_b1 (f := .int) (x_bin (o := .add) (x_bin (o := .mul) (a := E.var 1) (b := E.con (U.int (Int.ofNat 601))) (u := .int y) (v := .int 601) rfl rfl (v_mul (.inr (by decide)))) (rfl : ev _ (E.con (U.int (Int.ofNat 6605))) _ _ = _) rfl) rfl) (rfl : ev _ (E.con (U.int (Int.ofNat 1994060489))) _ _ = _) (v_mod (by decide))
  by_cases hy : (10 : Int) ^ 18 ≤ y
  · exact ⟨_, _, s_rt (y_cons (y_set cell) (y_rt (y_ret (x_lst (x_cons (x_ite_t (dT cnd hy) (x_bin rfl rfl (v_fdiv ⟨by decide, by decide⟩))) (x_cons (x_bin rest rfl rfl) x_nil))))))⟩
  · exact ⟨_, _, s_rt (y_cons (y_set cell) (y_rt (y_ret (x_lst (x_cons (x_ite_f (dF cnd hy) rfl) (x_cons (x_bin rest rfl rfl) x_nil))))))⟩

theorem ueqs_ints : ∀ l : List Int, ueqs (l.map U.int) (l.map U.int) = true
  | [] => rfl
  | i :: l => by
    show ((i == i) && ueqs (l.map U.int) (l.map U.int)) = true
    rw [beq_self_eq_true, ueqs_ints l]; rfl
theorem deps_ints : ∀ l : List Int, deps (l.map U.int) = 0
  | [] => rfl
  | i :: l => by
    show max 0 (deps (l.map U.int)) = 0
    rw [deps_ints l]; rfl
theorem soks_ints : ∀ l : List Int, soks (l.map U.int) = true
  | [] => rfl
  | i :: l => by
    show (true && soks (l.map U.int)) = true
    rw [soks_ints l]; rfl
theorem eq_ints (l : List Int) : cop .eq (.lst (l.map U.int)) (.lst (l.map U.int)) = some true := by
  have f : fine (.lst (l.map U.int)) = true := by
    show (decide (deps (l.map U.int) + 1 ≤ 60) && soks (l.map U.int)) = true
    rw [deps_ints, soks_ints]; rfl
  show (if (fine (.lst (l.map U.int)) && fine (.lst (l.map U.int))) = true then some (ueqs (l.map U.int) (l.map U.int)) else none) = _
  rw [f, ueqs_ints]; rfl
/-- a row of rolls -/
theorem rolls (ρ : Ev) (h7 : ρ.length = 8) (h0 : ρ[0]? = some (some .cup)) : ∀ (qs acc : List Int) (a b : Int), (∀ q ∈ qs, 2 ≤ q ∧ q ≤ 240) → acc.length + qs.length ≤ 1000 →
    ∃ rs a' b', compL (compF g__law_right [7] [7] true false E.nil (E.callC 2 0 ((E.var 7).cons E.nil)) ρ) (acc.map U.int) (qs.map U.int) (some [.int a, .int b]) = .ok ((acc ++ rs).map U.int) (some [.int a', .int b']) ∧ rs.length = qs.length ∧ ∀ x ∈ qs.zip rs, 0 ≤ x.2 ∧ x.2 < x.1
  | [], acc, a, b, _, _ => ⟨[], a, b, by rw [List.append_nil]; rfl, rfl, fun x h => by simp at h⟩
  | q :: qs, acc, a, b, hq, hl => by
    obtain ⟨q1, q2⟩ := hq q (List.mem_cons_self ..)
    obtain ⟨r, a1, b1, hr, r0, r1⟩ := roll (m := q) (by omega) (by omega) a b
    simp only [List.length_cons] at hl
    obtain ⟨rs, a2, b2, h1, h2, h3⟩ := rolls ρ h7 h0 qs (acc ++ [r]) a1 b1 (fun x hx => hq x (List.mem_cons_of_mem _ hx)) (by rw [List.length_append]; simp only [List.length_cons, List.length_nil]; omega)
    refine ⟨r :: rs, a2, b2, ?_, by simp [h2], fun x hx => ?_⟩
    · have hf : compF g__law_right [7] [7] true false E.nil (E.callC 2 0 ((E.var 7).cons E.nil)) ρ (.int q) (some [.int a, .int b]) = .ok (some (.int r)) (some [.int a1, .int b1]) := by
        match ρ, h7, h0 with
        | [x0, x1, x2, x3, x4, x5, x6, x7], _, h0 =>
          have h0 : some x0 = some (some Sl.cup) := h0
          cases h0
          exact compF_no (ρ' := [some .cup, x1, x2, x3, x4, x5, x6, some (.fr (.int q))]) rfl (x_callC (us := [.int q]) rfl rfl rfl hr)
      rw [List.map_cons, compL, bndN_ok hf]
      show (if (acc.map U.int).length < L then compL _ (acc.map U.int ++ [.int r]) (qs.map U.int) else bad) _ = _
      rw [if_pos (by rw [List.length_map]; unfold L; omega)]
      rw [List.map_append] at h1
      rw [show acc ++ r :: rs = acc ++ [r] ++ rs by simp]
      exact h1
    · rw [List.zip_cons_cons, List.mem_cons] at hx
      rcases hx with rfl | hx
      · exact ⟨r0, r1⟩
      · exact h3 x hx
theorem goods (l : List Int) : (l.map U.int).all (goodU 0) = true := by
  induction l with
  | nil => rfl
  | cons i l ih => rw [List.map_cons, List.all_cons, ih]; rfl
theorem goods1 (l : List Int) (h : l.length ≤ 10) : goodU 1 (.tup (l.map U.int)) = true := by
  show (decide ((l.map U.int).length ≤ 1000) && (l.map U.int).all (goodU 0)) = true
  rw [goods, decide_eq_true (by rw [List.length_map]; omega)]; rfl
end Lw

/-! S56.lean -/
namespace Lw
open PySem Mi Wk
theorem ten8 : (10 : Int) ^ (8 : Int).toNat = 100000000 := by decide +kernel
theorem ten9 : (10 : Int) ^ (9 : Int).toNat = 1000000000 := by decide +kernel
theorem ten50 : (10 : Int) ^ (50 : Int).toNat = 100000000000000000000000000000000000000000000000000 := by decide +kernel
/-- the number that is split -/
theorem number (n a b : Int) : ∃ x a' b' : Int, -1000000000000000000000000000000000000000000000000000000000000 ≤ x ∧ x ≤ 1000000000000000000000000000000000000000000000000000000000000 ∧ ev g__law_right (E.bin Bop.add
            (E.bin Bop.mul
              (E.bin Bop.sub
                (E.callC 2 0 ((E.bin Bop.pow (E.con (U.int (Int.ofNat 10))) (E.con (U.int (Int.ofNat 9)))).cons E.nil))
                (E.bin Bop.mul (E.con (U.int (Int.ofNat 5)))
                  (E.bin Bop.pow (E.con (U.int (Int.ofNat 10))) (E.con (U.int (Int.ofNat 8))))))
              ((E.cmp Cop.eq (E.callC 2 0 ((E.con (U.int (Int.ofNat 3))).cons E.nil)) (E.con (U.int (Int.ofNat 0)))).ite
                (E.bin Bop.pow (E.con (U.int (Int.ofNat 10))) (E.con (U.int (Int.ofNat 50))))
                (E.con (U.int (Int.ofNat 1)))))
            (E.callC 2 0 ((E.con (U.int (Int.ofNat 999))).cons E.nil))) [some .cup, some (.fr (.int n)), none, none, none, none, none, none] (some [.int a, .int b]) = .ok (.int x) (some [.int a', .int b']) := by
  obtain ⟨r2, a2, b2, e2, l2, u2⟩ := roll (m := 1000000000) (by decide) (by decide) a b
  obtain ⟨r3, a3, b3, e3, l3, u3⟩ := roll (m := 3) (by decide) (by decide) a2 b2
  obtain ⟨r4, a4, b4, e4, l4, u4⟩ := roll (m := 999) (by decide) (by decide) a3 b3
  have p8 : bop .pow (.int 10) (.int 8) = some (.int 100000000) := by rw [v_pow (by decide), ten8]
  have p9 : bop .pow (.int 10) (.int 9) = some (.int 1000000000) := by rw [v_pow (by decide), ten9]
  have p50 : bop .pow (.int 10) (.int 50) = some (.int 100000000000000000000000000000000000000000000000000) := by rw [v_pow (by decide), ten50]
  obtain ⟨m, m0, m1, hm⟩ : ∃ m : Int, 0 ≤ m ∧ m ≤ 100000000000000000000000000000000000000000000000000 ∧ ev g__law_right ((E.cmp Cop.eq (E.callC 2 0 ((E.con (U.int (Int.ofNat 3))).cons E.nil)) (E.con (U.int (Int.ofNat 0)))).ite
                (E.bin Bop.pow (E.con (U.int (Int.ofNat 10))) (E.con (U.int (Int.ofNat 50))))
                (E.con (U.int (Int.ofNat 1)))) [some .cup, some (.fr (.int n)), none, none, none, none, none, none] (some [.int a2, .int b2]) = .ok (.int m) (some [.int a3, .int b3]) := by
    have cnd : ev g__law_right (E.cmp Cop.eq (E.callC 2 0 ((E.con (U.int (Int.ofNat 3))).cons E.nil)) (E.con (U.int (Int.ofNat 0)))) [some .cup, some (.fr (.int n)), none, none, none, none, none, none] (some [.int a2, .int b2]) = .ok (.bl (decide (r3 = 0))) (some [.int a3, .int b3]) := x_cmp (x_callC (us := [.int 3]) rfl rfl rfl e3) rfl v_eqi
    by_cases hz : r3 = 0
    · exact ⟨100000000000000000000000000000000000000000000000000, by omega, by omega, x_ite_t (dT cnd hz) (x_bin rfl rfl p50)⟩
    · exact ⟨1, by omega, by omega, x_ite_f (dF cnd hz) rfl⟩
  have m5 : bop .mul (.int 5) (.int 100000000) = some (.int 500000000) := by rw [v_mul (.inl (by decide))]; rfl
  have h1 : -500000000 * m ≤ (r2 - 500000000) * m := Int.mul_le_mul_of_nonneg_right (by omega) m0
  have h2 : (r2 - 500000000) * m ≤ 500000000 * m := Int.mul_le_mul_of_nonneg_right (by omega) m0
  exact ⟨(r2 - 500000000) * m + r4, a4, b4, by omega, by omega, x_bin (x_bin (x_bin (x_callC (us := [.int 1000000000]) rfl (x_cons (x_bin rfl rfl p9) x_nil) rfl e2) (x_bin rfl (x_bin rfl rfl p8) m5) rfl) hm (v_mul (.inl (by omega)))) (x_callC (us := [.int 999]) rfl rfl rfl e4) rfl⟩

theorem hl10 {n : Int} (n1 : 1 ≤ n) (n2 : n ≤ 240) : (pw n).length ≤ 10 := by
  obtain ⟨pl, _, _⟩ := pp_ok n1 n2
  unfold pw; rw [List.length_map]; exact pl
/-- state: cup, n, number, powers, split, rests, told, q -/
abbrev st8 (n x : Int) (x4 x5 x6 x7 : Option Sl) : Ev := [some .cup, some (.fr (.int n)), some (.fr (.int x)), some (.own ((pw n).map U.int)), x4, x5, x6, x7]
theorem mods {n x y : Int} (n1 : 1 ≤ n) (n2 : n ≤ 240) (x4 x5 x6 x7 : Option Sl) (j : Nat) (c : Cs) (hj : ∀ q, ev g__law_right (.var j) (st8 n x x4 x5 x6 (some (.fr (.int q)))) c = .ok (.int y) c) :
    compL (compF g__law_right [7] [7] true false E.nil (E.bin Bop.mod (E.b1 Bi.int (E.var j)) (E.var 7)) (st8 n x x4 x5 x6 x7)) [] ((pw n).map U.int) c = .ok (((pw n).map fun q => y % q).map U.int) c := by
  obtain ⟨_, _, pq⟩ := pp_ok n1 n2
  have h10 := hl10 n1 n2
  have hs := comp_map (f := compF g__law_right [7] [7] true false E.nil (E.bin Bop.mod (E.b1 Bi.int (E.var j)) (E.var 7)) (st8 n x x4 x5 x6 x7)) U.int (fun q => .int (y % q)) c (pw n) [] (by simp only [List.length_nil, L]; omega) fun q hq => by
    have := (pq q hq).1
    exact compF_no (ρ' := st8 n x x4 x5 x6 (some (.fr (.int q)))) rfl (x_bin (x_b1 (hj q) rfl) rfl (v_mod (by omega)))
  have es : ([] : List U) ++ (pw n).map (fun q => U.int (y % q)) = ((pw n).map fun q => y % q).map U.int := by rw [List.nil_append, List.map_map]; rfl
  rw [es] at hs
  exact hs
theorem goodsN (d : Nat) (l : List Int) : (l.map U.int).all (goodU d) = true := by
  induction l with
  | nil => rfl
  | cons i l ih => rw [List.map_cons, List.all_cons, ih]; cases d <;> rfl
theorem goodT (d : Nat) (l : List Int) (h : l.length ≤ 1000) : goodU (d + 1) (.tup (l.map U.int)) = true := by
  show (decide ((l.map U.int).length ≤ 1000) && (l.map U.int).all (goodU d)) = true
  rw [goodsN, decide_eq_true (by rw [List.length_map]; exact h)]; rfl
theorem like3 (a b : List Int) (i : Int) (ha : a.length ≤ 1000) (hb : b.length ≤ 1000) : PL 7 [.lst [.tup (a.map U.int), .tup (b.map U.int), .int i], .lst [.tup (a.map U.int), .tup (b.map U.int), .int i]] = .ok (.bl true) := by
  apply like_refl
  show (true && (goodU 6 _ && (goodU 6 _ && (true && true)))) = true
  rw [goodT 5 a ha, goodT 5 b hb]; rfl
theorem split_bound {n x : Int} (n1 : 1 ≤ n) (n2 : n ≤ 240) : ∀ y ∈ (pw n).zip ((pw n).map fun q => x % q), 0 ≤ y.2 ∧ y.2 < y.1 := fun y hy => by
  obtain ⟨_, _, pq⟩ := pp_ok n1 n2
  obtain ⟨h3, h4⟩ := zip_map_self hy
  have := (pq y.1 h3).1
  rw [h4]
  exact ⟨Int.emod_nonneg _ (by omega), Int.emod_lt_of_pos _ (by omega)⟩
theorem test1 {n x : Int} (n1 : 1 ≤ n) (n2 : n ≤ 240) (hx1 : -1000000000000000000000000000000000000000000000000000000000000 ≤ x) (hx2 : x ≤ 1000000000000000000000000000000000000000000000000000000000000) (c : Cs) :
    ev g__law_right (E.call 3
                      (((E.call 5 ((E.var 1).cons E.nil)).cons
                              ((E.call 6 ((E.var 2).cons ((E.var 1).cons E.nil))).cons
                                ((E.call 1 ((E.var 1).cons ((E.var 4).cons E.nil))).cons E.nil))).lst.cons
                        (((E.b1 Bi.tuple (E.var 3)).cons
                                ((E.evar 4).cons
                                  ((E.bin Bop.mod (E.b1 Bi.int (E.var 2)) (E.var 1)).cons E.nil))).lst.cons
                          E.nil))) (st8 n x (some (.fr (.tup (((pw n).map fun q => x % q).map U.int)))) none none none) c = .ok (.bl true) c := by
  have h10 := hl10 n1 n2
  have hj := join_rests n1 n2 (rs := (pw n).map fun q => x % q) (by rw [List.length_map]) (split_bound n1 n2)
  rw [join_split n1 n2] at hj
  have hlike := like3 (pw n) ((pw n).map fun q => x % q) (x % n) (by omega) (by rw [List.length_map]; omega)
  exact x_call (x_cons (x_lst (x_cons (x_call rfl rfl (power_row n1 n2)) (x_cons (x_call rfl rfl (split_rest n1 n2 hx1 hx2)) (x_cons (x_call rfl rfl hj) x_nil)))) (x_cons (x_lst (x_cons (x_b1 rfl rfl) (x_cons rfl (x_cons (x_bin (x_b1 rfl rfl) rfl (v_mod (by omega))) x_nil)))) x_nil)) rfl hlike
theorem between {n x f : Int} (k0 : 0 ≤ f) (k1 : f < n) (x4 x5 : Option Sl) (c : Cs) : ev g__law_right (E.cmp2 Cop.le Cop.lt (E.con (U.int (Int.ofNat 0))) (E.var 6) (E.var 1)) (st8 n x x4 x5 (some (.fr (.int f))) none) c = .ok (.bl true) c := by
  have := x_cmp2 (Γ := g__law_right) (ρ := st8 n x x4 x5 (some (.fr (.int f))) none) (c := c) (o := .le) (o' := .lt) (a := .con (.int 0)) (b := .var 6) (d := .var 1) (u := .int 0) (v := .int f) (w := .int n) (t := decide (0 ≤ f)) (t' := decide (f < n)) rfl rfl rfl rfl rfl
  rw [decide_eq_true k0, decide_eq_true k1] at this
  exact this
end Lw

/-! U56.lean -/
namespace Lw
open PySem Mi Wk
theorem right (a b : Int) : ∃ a' b', autoC g__law_right s__law_right 8 [.int a, .int b] [] = some (.bl true, [.int a', .int b']) := by
  obtain ⟨r1, a1, b1, e1, l1, u1⟩ := roll (m := 240) (by decide) (by decide) a b
  obtain ⟨x, a4, b4, hx1, hx2, hx⟩ := number (1 + r1) a1 b1
  have n1 : 1 ≤ 1 + r1 := by omega
  have n2 : 1 + r1 ≤ 240 := by omega
  generalize hn : 1 + r1 = n at *
  obtain ⟨_, _, pq⟩ := pp_ok n1 n2
  have h10 := hl10 n1 n2
  have first : ev g__law_right (E.bin Bop.add (E.con (U.int (Int.ofNat 1))) (E.callC 2 0 ((E.con (U.int (Int.ofNat 240))).cons E.nil))) (enterC 8 []) (some [.int a, .int b]) = .ok (.int n) (some [.int a1, .int b1]) := by
    rw [← hn]
    exact x_bin rfl (x_callC (us := [.int 240]) rfl rfl rfl e1) rfl
  have hs := mods (x := x) (y := x) n1 n2 none none none none 2 (some [.int a4, .int b4]) fun _ => rfl
  obtain ⟨rs, a5, b5, hr, hrl, hrb⟩ := rolls (st8 n x (some (.fr (.tup (((pw n).map fun q => x % q).map U.int)))) none none none) rfl rfl (pw n) [] a4 b4 (fun q hq => ⟨(pq q hq).1, (pq q hq).2.1⟩) (by simp only [List.length_nil]; omega)
  rw [List.nil_append] at hr
  have hj2 := join_rests n1 n2 hrl hrb
  obtain ⟨k0, k1, k2⟩ := join_ok n1 n2 hrl hrb
  generalize (joinI ((pw n).zip rs) (0, 1)).1 = f at hj2 k0 k1 k2
  have ht := mods (x := x) (y := f) n1 n2 (some (.fr (.tup (((pw n).map fun q => x % q).map U.int)))) (some (.fr (.tup (rs.map U.int)))) (some (.fr (.int f))) none 6 (some [.int a5, .int b5]) fun _ => rfl
  rw [k2] at ht
  have t1 := test1 n1 n2 hx1 hx2 (some [.int a4, .int b4])
  have t2 := between (n := n) (x := x) k0 k1 (some (.fr (.tup (((pw n).map fun q => x % q).map U.int)))) (some (.fr (.tup (rs.map U.int)))) (some [.int a5, .int b5])
  refine ⟨a5, b5, c_rt ?_⟩
  refine y_cons (ρ' := [some .cup, some (.fr (.int n)), none, none, none, none, none, none]) (y_set first) ?_
  refine y_cons (ρ' := [some .cup, some (.fr (.int n)), some (.fr (.int x)), none, none, none, none, none]) (y_set hx) ?_
  refine y_cons (ρ' := st8 n x none none none none) (y_set (u := .lst ((pw n).map U.int)) (x_call rfl rfl (law_powers n1 n2))) ?_
  refine y_cons (ρ' := st8 n x (some (.fr (.tup (((pw n).map fun q => x % q).map U.int)))) none none none) (y_set (u := .tup (((pw n).map fun q => x % q).map U.int)) (x_b1 (u := .lst (((pw n).map fun q => x % q).map U.int)) (x_comp rfl (x_iseq rfl rfl) hs) rfl)) ?_
  refine y_cons (ρ' := st8 n x (some (.fr (.tup (((pw n).map fun q => x % q).map U.int)))) none none none) (y_cons rfl (y_ite_f (x_not (t := true) t1) rfl)) ?_
  refine y_cons (ρ' := st8 n x (some (.fr (.tup (((pw n).map fun q => x % q).map U.int)))) (some (.fr (.tup (rs.map U.int)))) none none) (y_set (u := .tup (rs.map U.int)) (x_b1 (u := .lst (rs.map U.int)) (x_comp rfl (x_iseq rfl rfl) hr) rfl)) ?_
  refine y_cons (ρ' := st8 n x (some (.fr (.tup (((pw n).map fun q => x % q).map U.int)))) (some (.fr (.tup (rs.map U.int)))) (some (.fr (.int f))) none) (y_set (u := .int f) (x_call rfl rfl hj2)) ?_
  exact y_rt (y_ret (x_and_t (x_cmp (x_call rfl rfl (sort_int f)) rfl rfl) (x_and_t t2 (x_cmp (x_comp rfl (x_iseq rfl rfl) ht) (x_b1 rfl rfl) (eq_ints rs)))))
theorem fixed : autoP g__law_fixed_right s__law_fixed_right 1 [] = .ok (.bl true) := by kernel_rfl
theorem turns : ∀ (us : List U) (a b : Int) (x0 j : Option Sl), ∃ j' a' b', loopL [2] true (evS g_law ((S.ite (E.callC 2 1 E.nil).not ((S.ret (E.con (U.bl false))).cons S.nil) S.nil).cons S.nil)) us [x0, some .cup, j] (some [.int a, .int b]) = .ok (.nx [x0, some .cup, j']) (some [.int a', .int b'])
  | [], a, b, x0, j => ⟨j, a, b, rfl⟩
  | u :: us, a, b, x0, j => by
    obtain ⟨a1, b1, h⟩ := right a b
    obtain ⟨j', a2, b2, h2⟩ := turns us a1 b1 x0 (some (.fr u))
    exact ⟨j', a2, b2, z_nx rfl (y_cons (y_ite_f (x_not (t := true) (x_callC (us := []) rfl rfl rfl h)) rfl) rfl) h2⟩
theorem law_ok : ∀ ns : List Int, ns.length ≤ 63 → autoS g_law s_law 3 (ns.map U.int) = some (.bl true) := by
  intro ns hl
  obtain ⟨a, b, hc⟩ := law_cup ns hl
  obtain ⟨j', a', b', ht⟩ := turns (Mi.upTo 0 16) a b (some (.scr (ns.map U.int))) none
  exact s_rt (y_cons (y_ite_f (x_not (t := true) (x_call rfl rfl fixed)) rfl) (y_cons (y_mkcup (x_callS rfl rfl hc) rfl) (y_cons (y_loop rfl (x_rng1 rfl rfl) ht) (y_rt rfl))))
end Lw

open PySem PySem.W PySem.Calls PyProof.Rows
theorem PySem.Challenge.cw_restsmapped_k56_whole_split_rests_holds : PySem.Challenge.rw_restsmapped_k56_whole_split_rests.Holds := by
  w_on; o_law
  refine HandSHeadRun.head_any (r := OpenLaw.row PySem.Challenge.rw_restsmapped_k56_whole_split_rests) (q := view (OpenLaw.row PySem.Challenge.rw_restsmapped_k56_whole_split_rests).prog [31]) (H := Wk.hk) (ob := Wk.ob) (M := 4000) (loose := Wk.loose) (d := HandSHeadRun.topDef (OpenLaw.row PySem.Challenge.rw_restsmapped_k56_whole_split_rests).prog 31) (kwd := []) Wk.ob_eq
    (by kernel_rfl) (fun s => by kernel_rfl) Wk.run (by kernel_rfl) (by kernel_rfl) (by kernel_rfl) (by rfl) (by first | assumption | decide +kernel) (by decide +kernel) ⟨rfl, rfl, rfl, rfl, rfl, by decide +kernel⟩ ?hw ?hc
  case hw => w_witness2
  case hc =>
    refine L2.walk_ofE (l := PySem.Challenge.rw_restsmapped_k56_whole_split_rests) (n := 63) (k := 13) (x := "script") (CX := L2.CX0) rfl (by decide) (by kernel_rfl) ⟨rfl, by decide, by decide⟩ ?F (fun _ _ _ _ z => z)
    intro w mg fa h Y G hmg0
    obtain ⟨K, KX, c⟩ := Y
    have hmg : mg ("law" : PySem.Str) = some (.ref fa) := by
      have e : (HandSHeadRun.topDef (OpenLaw.row PySem.Challenge.rw_restsmapped_k56_whole_split_rests).prog 31).name = ("law" : PySem.Str) := by kernel_rfl
      rw [← e]
      exact hmg0
    obtain ⟨fd, hb, hF⟩ := Wk.facts Lw.law_ok (P := (PySem.Challenge.rw_restsmapped_k56_whole_split_rests).prog) (w := w) KX G hmg c
    exact ⟨K, fd, Mi.spLaw K, KX, hb, fun H a ns hl _ hS => ⟨a, ns, rfl, hl, hS, fun _ => rfl⟩, hF⟩
