import PyProof.Rows.All
import Wide.All
import OpenK.AllK
import Wide.FinOn
import KE.LtData
import HandS.ForMost
import HandS.More
import HandS.Deep
import HandS.Wide
import HandS.TupAny
import HandS.SortInts
import HandS.Walk
import HandS.Zip
import HandS.Rev
import HandS.Iter
import HandS.Style
import HandS.NoneIn
import HandS.Defaults
import HandS.WordsExc
import HandS.EndBits
import HandS.TupLe
import HandS.TupMul
import KE.KTupSum
import HandS.WideBits
import KE.GoesMore
import HandS.Head0
import HandS.Head1
import HandS.Head2
import HandS.HeadEnd
import HandS.HeadHook1
import HandS.HeadHook2
import PySem.Challenge.RW_wholeproof_k83_whole_figures_of_changed
set_option Elab.async false
set_option linter.all false
set_option maxRecDepth 100000
section
namespace De
open PySem

/-! ### data, slots, results -/
abbrev Dt := PyData
inductive Sv where
  | un
  | fz (d : Dt)
  | ow (pin : Bool) (xs : List Dt)
inductive Rv where
  | d (x : Dt)
  | own (xs : List Dt)
  | loc (i : Nat)
abbrev En := List Sv
inductive Fl where
  | nx (e : En)
  | rt (r : Rv) (e : En)
  | bk (e : En)
  | ct (e : En)

/-! ### syntax -/
inductive Bop where
  | add | sub | mul | fdiv | mod | pow | xor
inductive Cop where
  | eq | ne | lt | le | gt | ge | isn | nisn | mem | nmem
inductive Blt where
  | len | abs | int | max | min | sum | any | all | tuple | list | sorted
inductive Tg where
  | nm (i : Nat)
  | tp (t : Tg)
  | nil
  | cons (t u : Tg)
mutual
inductive E where
  | cst (d : Dt)
  | glob (x : Str) (d : Dt)
  | nm (i : Nat)
  | bin (op : Bop) (a b : E)
  | neg (a : E)
  | bits (a : E)
  | cmp (op : Cop) (a b : E)
  | cmp2 (op op2 : Cop) (a b c : E)
  | and (a b : E)
  | or (a b : E)
  | one (a : E)
  | not (a : E)
  | ite (c a b : E)
  | tup (es : Es)
  | lst (es : Es)
  | ix (a i : E)
  | slF (a lo : E)
  | slT (a hi : E)
  | sl (a lo hi : E)
  | rev (a : E)
  | call (f : Nat) (es : Es)
  | blt (b : Blt) (a : E)
  | blt2 (b : Blt) (a c : E)
  | pop (i : Nat)
  | popAt (i : Nat) (a : E)
  | comp (elt : E) (own : List Nat) (t : Tg) (it : E)
  | compIf (elt : E) (own : List Nat) (t : Tg) (it : E) (c : E)
  | rng1 (a : E)
  | rng2 (a b : E)
  | rng3 (a b c : E)
  | enum (a : E)
  | zip (a b : E)
  | revd (a : E)
  | fz (a : E)
inductive Es where
  | nil
  | cons (e : E) (es : Es)
end
mutual
inductive S where
  | asg (t : Tg) (e : E)
  | par (t : Tg) (es : Es)
  | set (i : Nat) (ix e : E)
  | aug (i : Nat) (op : Bop) (e : E)
  | augS (i : Nat) (ix : E) (op : Bop) (e : E)
  | app (i : Nat) (e : E)
  | ext (i : Nat) (e : E)
  | ex (e : E)
  | ite (c : E) (t f : Ss)
  | whl (c : E) (b : Ss)
  | for (t : Tg) (it : E) (b : Ss)
  | ret (e : E)
  | retN
  | brk
  | cont
  | pass
  | never
inductive Ss where
  | nil
  | cons (s : S) (ss : Ss)
end

/-! ### operations -/
abbrev lim : Nat := 1000000
def small (xs : List Dt) : Bool := decide (xs.length ≤ lim)
def mulOk (a b : Int) : Bool := decide (a.natAbs.log2 + b.natAbs.log2 < 1000000)
def divOk (b : Int) : Bool := decide (b ≠ 0) && decide (b.natAbs.log2 < 9000)
def rep (k : Nat) (xs : List Dt) : List Dt := (List.replicate k xs).flatten
def bop : Bop → Dt → Dt → Option Rv
  | .add, .int a, .int b => some (.d (.int (a + b)))
  | .sub, .int a, .int b => some (.d (.int (a - b)))
  | .mul, .int a, .int b => if mulOk a b then some (.d (.int (a * b))) else none
  | .fdiv, .int a, .int b => if divOk b then some (.d (.int (a.fdiv b))) else none
  | .mod, .int a, .int b => if decide (b ≠ 0) then some (.d (.int (a.fmod b))) else none
  | .pow, .int a, .int b => if decide (0 ≤ b) && decide (b ≤ 1000000) && decide (a.natAbs < 18446744073709551616) then some (.d (.int (a ^ b.toNat))) else none
  | .xor, .int a, .int b => some (.d (.int (Builtin.bitXor a b)))
  | .add, .list xs, .list ys => if decide (xs.length + ys.length ≤ lim) then some (.own (xs ++ ys)) else none
  | .add, .tuple xs, .tuple ys => if decide (xs.length + ys.length ≤ lim) then some (.d (.tuple (xs ++ ys))) else none
  | .mul, .list xs, .int k => if decide (-1 ≤ k) && decide (k ≤ 1000000) && decide (xs.length * k.toNat ≤ lim) then some (.own (rep k.toNat xs)) else none
  | .mul, .tuple xs, .int k => if decide (0 ≤ k) && decide (k ≤ 1000) && decide (xs.length ≤ 1000) then some (.d (.tuple (rep k.toNat xs))) else none
  | _, _, _ => none
def ixD (xs : List Dt) (i : Int) : Option Dt := L2.atI xs i
def isNone : Dt → Bool
  | .none => true
  | _ => false
def cop : Cop → Dt → Dt → Option Bool
  | .eq, .int a, .int b => some (decide (a = b))
  | .ne, .int a, .int b => some (!decide (a = b))
  | .lt, .int a, .int b => some (decide (a < b))
  | .le, .int a, .int b => some (decide (a ≤ b))
  | .gt, .int a, .int b => some (decide (b < a))
  | .ge, .int a, .int b => some (decide (b ≤ a))
  | .eq, a, b => if SeqAt.shaped a && SeqAt.shaped b then some (PyData.eqv a b) else none
  | .ne, a, b => if SeqAt.shaped a && SeqAt.shaped b then some (!PyData.eqv a b) else none
  | .isn, a, .none => some (isNone a)
  | .nisn, a, .none => some (!isNone a)
  | .mem, a, .list xs => if SeqAt.shaped a && SeqAt.shaped (.list xs) then some (xs.any fun z => PyData.eqv z a) else none
  | .nmem, a, .list xs => if SeqAt.shaped a && SeqAt.shaped (.list xs) then some (!xs.any fun z => PyData.eqv z a) else none
  | .mem, .int a, .tuple xs => if xs.all (fun z => match z with | .int _ => true | _ => false) then some (xs.any fun z => match z with | .int i => decide (i = a) | _ => false) else none
  | .nmem, .int a, .tuple xs => if xs.all (fun z => match z with | .int _ => true | _ => false) then some (!xs.any fun z => match z with | .int i => decide (i = a) | _ => false) else none
  | _, _, _ => none
def truth : Dt → Option Bool
  | .bool b => some b
  | .int i => some (i != 0)
  | .list xs => some (!xs.isEmpty)
  | .tuple xs => some (!xs.isEmpty)
  | .none => some false
  | _ => none
def intsOf : List Dt → Option (List Int)
  | [] => some []
  | .int i :: r => match intsOf r with
    | some l => some (i :: l)
    | none => none
  | _ :: _ => none
def boolsOf : List Dt → Option (List Bool)
  | [] => some []
  | .bool i :: r => match boolsOf r with
    | some l => some (i :: l)
    | none => none
  | _ :: _ => none
def maxL : Int → List Int → Int
  | m, [] => m
  | m, x :: r => maxL (if x > m then x else m) r
def minL : Int → List Int → Int
  | m, [] => m
  | m, x :: r => minL (if x < m then x else m) r
def items : Dt → Option (List Dt)
  | .list xs => some xs
  | .tuple xs => some xs
  | _ => none
def insI (x : Int) : List Int → List Int
  | [] => [x]
  | y :: r => if x ≤ y then x :: y :: r else y :: insI x r
def sortI : List Int → List Int
  | [] => []
  | x :: r => insI x (sortI r)
def blt : Blt → List Dt → Option Rv
  | .len, [.list xs] => some (.d (.int xs.length))
  | .len, [.tuple xs] => some (.d (.int xs.length))
  | .abs, [.int a] => some (.d (.int (if a < 0 then -a else a)))
  | .int, [.int a] => some (.d (.int a))
  | .int, [.bool b] => some (.d (.int (if b then 1 else 0)))
  | .max, [.int a, .int b] => some (.d (.int (if b > a then b else a)))
  | .min, [.int a, .int b] => some (.d (.int (if b < a then b else a)))
  | .max, [.list xs] => match intsOf xs with
    | some (x :: r) => some (.d (.int (maxL x r)))
    | _ => none
  | .min, [.list xs] => match intsOf xs with
    | some (x :: r) => some (.d (.int (minL x r)))
    | _ => none
  | .sum, [.list xs] => match intsOf xs with
    | some ns => some (.d (.int ns.sum))
    | none => none
  | .sum, [.tuple xs] => match intsOf xs with
    | some ns => some (.d (.int ns.sum))
    | none => none
  | .any, [.list xs] => match boolsOf xs with
    | some bs => some (.d (.bool (bs.any id)))
    | none => none
  | .all, [.list xs] => match boolsOf xs with
    | some bs => some (.d (.bool (bs.all id)))
    | none => none
  | .tuple, [.list xs] => some (.d (.tuple xs))
  | .tuple, [.tuple xs] => some (.d (.tuple xs))
  | .list, [.list xs] => some (.own xs)
  | .list, [.tuple xs] => some (.own xs)
  | .list, [.dict [(.none, .list xs)]] => some (.own xs)
  | .sorted, [.list xs] => match intsOf xs with
    | some ns => some (.own ((sortI ns).map .int))
    | none => none
  | _, _ => none
def cut (xs : List Dt) (lo hi : Option Int) : List Dt := (xs.drop (HT.sIx xs.length 0 lo)).take (HT.sIx xs.length xs.length hi - HT.sIx xs.length 0 lo)
def slice : Dt → Option Int → Option Int → Option Rv
  | .list xs, lo, hi => some (.own (cut xs lo hi))
  | .tuple xs, lo, hi => some (.d (.tuple (cut xs lo hi)))
  | _, _, _ => none
def intOf : Dt → Option Int
  | .int i => some i
  | _ => none
def rngL (lo c : Int) : Nat → Nat → List Dt
  | _, 0 => []
  | i, n + 1 => .int (lo + (i : Nat) * c) :: rngL lo c (i + 1) n
def big : Int := 4611686018427387904
def rngOk (a : Int) : Bool := decide (a.natAbs < 4611686018427387904)
def enumL : Nat → List Dt → List Dt
  | _, [] => []
  | i, x :: r => .tuple [.int (i : Nat), x] :: enumL (i + 1) r
def zipL : List Dt → List Dt → List Dt
  | x :: r, y :: s => .tuple [x, y] :: zipL r s
  | _, _ => []

/-! ### slots -/
def deref (e : En) : Rv → Option Dt
  | .d x => some x
  | .own xs => some (.list xs)
  | .loc i => match e[i]? with
    | some (.fz d) => some d
    | some (.ow _ xs) => some (.list xs)
    | _ => none
def frz : Rv → En → Option (Dt × En)
  | .d x, e => some (x, e)
  | .own xs, e => some (.list xs, e)
  | .loc i, e => match e[i]? with
    | some (.fz d) => some (d, e)
    | some (.ow false xs) => some (.list xs, e.set i (.fz (.list xs)))
    | _ => none
/-- store to a slot (a pinned one is never stored to) -/
def put (e : En) (i : Nat) (s : Sv) : Option En := match e[i]? with
  | some (.ow true _) => none
  | some _ => some (e.set i s)
  | none => none
def store (e : En) (i : Nat) : Rv → Option En
  | .d x => put e i (.fz x)
  | .own xs => put e i (.ow false xs)
  | .loc j => match frz (.loc j) e with
    | some (d, e') => put e' i (.fz d)
    | none => none
mutual
/-- a datum to a target -/
def tgt : Tg → Dt → En → Option En
  | .nm i, d, e => put e i (.fz d)
  | .tp t, .tuple ds, e => tgts t ds e
  | .tp t, .list ds, e => tgts t ds e
  | _, _, _ => none
def tgts : Tg → List Dt → En → Option En
  | .nil, [], e => some e
  | .cons t u, d :: ds, e => match tgt t d e with
    | some e' => tgts u ds e'
    | none => none
  | _, _, _ => none
end
def wipeE (e : En) : List Nat → En
  | [] => e
  | v :: vs => (wipeE e vs).set v .un
/-- a block's end: the block's own slots as they were -/
def back (e e' : En) : List Nat → En
  | [] => e'
  | v :: vs => (back e e' vs).set v (e.getD v .un)

/-! ### loops -/
def forL (f : Dt → En → Option Fl) : List Dt → En → Option Fl
  | [], e => some (.nx e)
  | x :: xs, e => match f x e with
    | some (.nx e') => forL f xs e'
    | some (.ct e') => forL f xs e'
    | some (.bk e') => some (.nx e')
    | some (.rt r e') => some (.rt r e')
    | none => none
def whL (c : En → Option (Bool × En)) (b : En → Option Fl) : Nat → En → Option Fl
  | 0, _ => none
  | n + 1, e => match c e with
    | some (true, e1) => match b e1 with
      | some (.nx e2) => whL c b n e2
      | some (.ct e2) => whL c b n e2
      | some (.bk e2) => some (.nx e2)
      | some (.rt r e2) => some (.rt r e2)
      | none => none
    | some (false, e1) => some (.nx e1)
    | none => none
def compL (f : Dt → En → Option (List Dt × En)) : List Dt → En → Option (List Dt × En)
  | [], e => some ([], e)
  | x :: xs, e => match f x e with
    | some (ys, e1) => match compL f xs e1 with
      | some (zs, e2) => some (ys ++ zs, e2)
      | none => none
    | none => none

abbrev CF := Nat → List Sv → Option (Rv × En)
/-- an argument: a datum, or an own list that comes back -/
def argOf (e : En) : Rv → Option Sv
  | .d x => some (.fz x)
  | .own xs => some (.fz (.list xs))
  | .loc i => match e[i]? with
    | some (.fz d) => some (.fz d)
    | some (.ow _ xs) => some (.ow true xs)
    | _ => none
def argsOf (e : En) : List Rv → Option (List Sv)
  | [] => some []
  | r :: rs => match argOf e r with
    | some s => match argsOf e rs with
      | some l => some (s :: l)
      | none => none
    | none => none
/-- the places of the own lists that are passed -/
def locs : List Rv → List Nat
  | [] => []
  | .loc i :: rs => i :: locs rs
  | _ :: rs => locs rs
/-- what the callee left of them -/
def backs (e : En) : List Rv → En → Option En
  | [], _ => some e
  | .loc i :: rs, s :: ss => match e[i]? with
    | some (.ow b _) => match s with
      | .ow _ xs => backs (e.set i (.ow b xs)) rs ss
      | _ => none
    | _ => backs e rs ss
  | .d _ :: rs, _ :: ss => backs e rs ss
  | .own _ :: rs, _ :: ss => backs e rs ss
  | _ :: _, [] => none
/-- own slots of a block hold no own list -/
def ownOk (e : En) (own : List Nat) : Bool := own.all fun i => match e[i]? with
  | some (.fz _) => true
  | some .un => true
  | _ => false

/-! ### the evaluator, a combinator a construct -/
abbrev FV := En → Option (Rv × En)
abbrev FT := En → Option (Bool × En)
abbrev FI := En → Option (List Dt × En)
abbrev FA := En → Option (List Rv × En)
abbrev FS := En → Option Fl
def vCst (d : Dt) : FV := fun e => some (.d d, e)
def vNm (i : Nat) : FV := fun e => match e[i]? with
  | some (.fz d) => some (.d d, e)
  | some (.ow _ _) => some (.loc i, e)
  | _ => none
def vBin (op : Bop) (a b : FV) : FV := fun e => match a e with
  | some (x, e1) => match b e1 with
    | some (y, e2) => match deref e2 x, deref e2 y with
      | some p, some q => match bop op p q with
        | some r => some (r, e2)
        | none => none
      | _, _ => none
    | none => none
  | none => none
def vNeg (a : FV) : FV := fun e => match a e with
  | some (.d (.int i), e1) => some (.d (.int (-i)), e1)
  | _ => none
def vBits (a : FV) : FV := fun e => match a e with
  | some (.d (.int i), e1) => some (.d (.int (Builtin.Int.intBits i : Nat)), e1)
  | _ => none
def vCmp (op : Cop) (a b : FV) : FV := fun e => match a e with
  | some (x, e1) => match b e1 with
    | some (y, e2) => match deref e2 x, deref e2 y with
      | some p, some q => match cop op p q with
        | some k => some (.d (.bool k), e2)
        | none => none
      | _, _ => none
    | none => none
  | none => none
def vCmp2 (op op2 : Cop) (a b c : FV) : FV := fun e => match a e with
  | some (x, e1) => match b e1 with
    | some (y, e2) => match deref e2 x, deref e2 y with
      | some p, some q => match cop op p q with
        | some true => match c e2 with
          | some (z, e3) => match deref e3 y, deref e3 z with
            | some q', some r => match cop op2 q' r with
              | some k => some (.d (.bool k), e3)
              | none => none
            | _, _ => none
          | none => none
        | some false => some (.d (.bool false), e2)
        | none => none
      | _, _ => none
    | none => none
  | none => none
def vAnd (a b : FV) : FV := fun e => match a e with
  | some (.d (.bool true), e1) => b e1
  | some (.d (.bool false), e1) => some (.d (.bool false), e1)
  | _ => none
def vOr (a b : FV) : FV := fun e => match a e with
  | some (.d (.bool true), e1) => some (.d (.bool true), e1)
  | some (.d (.bool false), e1) => b e1
  | _ => none
def vNot (a : FV) : FV := fun e => match a e with
  | some (.d (.bool k), e1) => some (.d (.bool (!k)), e1)
  | _ => none
def vIte (c : FT) (a b : FV) : FV := fun e => match c e with
  | some (true, e1) => a e1
  | some (false, e1) => b e1
  | none => none
def vTup (es : FI) : FV := fun e => match es e with
  | some (ds, e2) => if small ds then some (.d (.tuple ds), e2) else none
  | none => none
def vLst (es : FI) : FV := fun e => match es e with
  | some (ds, e2) => if small ds then some (.own ds, e2) else none
  | none => none
def vIx (a i : FV) : FV := fun e => match a e with
  | some (x, e1) => match i e1 with
    | some (.d (.int k), e2) => match deref e2 x with
      | some (.list xs) => match ixD xs k with
        | some d => some (.d d, e2)
        | none => none
      | some (.tuple xs) => match ixD xs k with
        | some d => some (.d d, e2)
        | none => none
      | _ => none
    | _ => none
  | none => none
def vSlF (a lo : FV) : FV := fun e => match a e with
  | some (x, e1) => match lo e1 with
    | some (.d (.int k), e2) => match deref e2 x with
      | some d => match slice d (some k) none with
        | some r => some (r, e2)
        | none => none
      | none => none
    | _ => none
  | none => none
def vSlT (a hi : FV) : FV := fun e => match a e with
  | some (x, e1) => match hi e1 with
    | some (.d (.int k), e2) => match deref e2 x with
      | some d => match slice d none (some k) with
        | some r => some (r, e2)
        | none => none
      | none => none
    | _ => none
  | none => none
def vSl (a lo hi : FV) : FV := fun e => match a e with
  | some (x, e1) => match lo e1 with
    | some (.d (.int k), e2) => match hi e2 with
      | some (.d (.int l), e3) => match deref e3 x with
        | some d => match slice d (some k) (some l) with
          | some r => some (r, e3)
          | none => none
        | none => none
      | _ => none
    | _ => none
  | none => none
def vRev (a : FV) : FV := fun e => match a e with
  | some (x, e1) => match deref e1 x with
    | some (.list xs) => some (.own xs.reverse, e1)
    | _ => none
  | none => none
def vCall (c : List Sv → Option (Rv × En)) (es : FA) : FV := fun e => match es e with
  | some (rs, e1) => match argsOf e1 rs with
    | some svs => if decide (locs rs).Nodup then match c svs with
        | some (r, ec) => match backs e1 rs ec with
          | some e2 => some (r, e2)
          | none => none
        | none => none
      else none
    | none => none
  | none => none
def vBlt (b : Blt) (a : FV) : FV := fun e => match a e with
  | some (x, e1) => match deref e1 x with
    | some d => match blt b [d] with
      | some r => some (r, e1)
      | none => none
    | none => none
  | none => none
def vBlt2 (b : Blt) (a c : FV) : FV := fun e => match a e with
  | some (.d x, e1) => match c e1 with
    | some (.d y, e2) => match blt b [x, y] with
      | some r => some (r, e2)
      | none => none
    | _ => none
  | _ => none
def vPop (i : Nat) : FV := fun e => match e[i]? with
  | some (.ow b xs) => match xs[xs.length - 1]? with
    | some d => some (.d d, e.set i (.ow b xs.dropLast))
    | none => none
  | _ => none
def isOw (e : En) (i : Nat) : Bool := match e[i]? with
  | some (.ow _ _) => true
  | _ => false
def vPopAt (i : Nat) (a : FV) : FV := fun e => match a e with
  | some (.d (.int k), e1) => match e1[i]? with
    | some (.ow b xs) => match L2.ixN xs.length k with
      | some j => match xs[j]? with
        | some d => if rngOk k && isOw e i then some (.d d, e1.set i (.ow b (xs.eraseIdx j))) else none
        | none => none
      | none => none
    | _ => none
  | _ => none
/-- one turn of a comprehension -/
def turnC (elt : FV) (own : List Nat) (t : Tg) (c : FT) : Dt → En → Option (List Dt × En) := fun d e => match tgt t d e with
  | some e2 => match c e2 with
    | some (true, e2) => match elt e2 with
      | some (r, e3) => match frz r e3 with
        | some (y, e4) => some ([y], wipeE e4 own)
        | none => none
      | none => none
    | some (false, e2) => some ([], wipeE e2 own)
    | none => none
  | none => none
def fYes : FT := fun e => some (true, e)
def tgN : Tg → List Nat
  | .nm i => [i]
  | .tp t => tgN t
  | .nil => []
  | .cons t u => tgN t ++ tgN u
def vComp (elt : FV) (own : List Nat) (t : Tg) (it : FI) (c : FT) : FV := fun e => match it e with
  | some (ds, e1) => match compL (turnC elt own t c) ds (wipeE e1 own) with
    | some (ys, e2) => if small ys && ownOk e1 own then some (.own ys, back e1 e2 own) else none
    | none => none
  | none => none
def vFz (a : FV) : FV := fun e => match a e with
  | some (x, e1) => match frz x e1 with
    | some (d, e2) => some (.d d, e2)
    | none => none
  | none => none
def vNo : FV := fun _ => none
/-- a test by a value -/
def tOf (a : FV) : FT := fun e => match a e with
  | some (x, e1) => match deref e1 x with
    | some d => match truth d with
      | some k => some (k, e1)
      | none => none
    | none => none
  | none => none
def tAnd (a b : FT) : FT := fun e => match a e with
  | some (true, e1) => b e1
  | some (false, e1) => some (false, e1)
  | none => none
def tOr (a b : FT) : FT := fun e => match a e with
  | some (true, e1) => some (true, e1)
  | some (false, e1) => b e1
  | none => none
def tNot (a : FT) : FT := fun e => match a e with
  | some (k, e1) => some (!k, e1)
  | none => none
/-- walked as a list or a tuple -/
def iOf (a : FV) : FI := fun e => match a e with
  | some (x, e1) => match frz x e1 with
    | some (.list xs, e2) => some (xs, e2)
    | some (.tuple xs, e2) => some (xs, e2)
    | _ => none
  | none => none
def iNo : FI := fun _ => none
def iRng1 (a : FV) : FI := fun e => match a e with
  | some (.d (.int n), e1) => if rngOk n then some (rngL 0 1 0 n.toNat, e1) else none
  | _ => none
def iRng2 (a b : FV) : FI := fun e => match a e with
  | some (.d (.int m), e1) => match b e1 with
    | some (.d (.int n), e2) => if rngOk m && rngOk n then some (rngL m 1 0 (n - m).toNat, e2) else none
    | _ => none
  | _ => none
def rng3Ok (m n k : Int) : Bool := decide (k ≠ 0) && decide (k.natAbs < 1073741824) && Builtin.Range.small m n k && decide (0 ≤ Builtin.Range.rangeSize m n k)
def iRng3 (a b c : FV) : FI := fun e => match a e with
  | some (.d (.int m), e1) => match b e1 with
    | some (.d (.int n), e2) => match c e2 with
      | some (.d (.int k), e3) => if rng3Ok m n k then some (rngL m k 0 (Builtin.Range.rangeSize m n k).toNat, e3) else none
      | _ => none
    | _ => none
  | _ => none
def iEnum (a : FV) : FI := fun e => match a e with
  | some (x, e1) => match frz x e1 with
    | some (.list xs, e2) => some (enumL 0 xs, e2)
    | some (.tuple xs, e2) => some (enumL 0 xs, e2)
    | _ => none
  | none => none
def iZip (a b : FV) : FI := fun e => match a e with
  | some (x, e1) => match frz x e1 with
    | some (p, e2) => match b e2 with
      | some (y, e3) => match frz y e3 with
        | some (q, e4) => match p, q with
          | .list xs, .list ys => some (zipL xs ys, e4)
          | .tuple xs, .tuple ys => some (zipL xs ys, e4)
          | _, _ => none
        | none => none
      | none => none
    | none => none
  | none => none
def iRevd (a : FV) : FI := fun e => match a e with
  | some (x, e1) => match frz x e1 with
    | some (.list xs, e2) => some (xs.reverse, e2)
    | some (.tuple xs, e2) => some (xs.reverse, e2)
    | _ => none
  | none => none
/-- arguments: a new list is frozen, an own one of a slot is passed -/
def aNil : FA := fun e => some ([], e)
def aCons (a : FV) (es : FA) : FA := fun e => match a e with
  | some (.loc i, e1) => match es e1 with
    | some (xs, e2) => some (.loc i :: xs, e2)
    | none => none
  | some (.d x, e1) => match es e1 with
    | some (xs, e2) => some (.d x :: xs, e2)
    | none => none
  | some (.own x, e1) => match es e1 with
    | some (xs, e2) => some (.d (.list x) :: xs, e2)
    | none => none
  | none => none
/-- frozen items -/
def dNil : FI := fun e => some ([], e)
def dCons (a : FV) (es : FI) : FI := fun e => match a e with
  | some (x, e1) => match frz x e1 with
    | some (d, e2) => match es e2 with
      | some (ds, e3) => some (d :: ds, e3)
      | none => none
    | none => none
  | none => none
structure Fs where
  v : FV
  t : FT
  i : FI
structure FsA where
  a : FA
  d : FI
def mkV (f : FV) : Fs := ⟨f, tOf f, iOf f⟩
def mkI (f : FI) : Fs := ⟨vNo, tOf vNo, f⟩
mutual
def ev (cf : CF) : E → Fs
  | .cst d => mkV (vCst d)
  | .glob _ d => mkV (vCst d)
  | .nm i => mkV (vNm i)
  | .bin op a b => mkV (vBin op (ev cf a).v (ev cf b).v)
  | .neg a => mkV (vNeg (ev cf a).v)
  | .bits a => mkV (vBits (ev cf a).v)
  | .cmp op a b => mkV (vCmp op (ev cf a).v (ev cf b).v)
  | .cmp2 op op2 a b c => mkV (vCmp2 op op2 (ev cf a).v (ev cf b).v (ev cf c).v)
  | .and a b => ⟨vAnd (ev cf a).v (ev cf b).v, tAnd (ev cf a).t (ev cf b).t, iNo⟩
  | .or a b => ⟨vOr (ev cf a).v (ev cf b).v, tOr (ev cf a).t (ev cf b).t, iNo⟩
  | .one a => ⟨(ev cf a).v, (ev cf a).t, iNo⟩
  | .not a => ⟨vNot (ev cf a).v, tNot (ev cf a).t, iNo⟩
  | .ite c a b => mkV (vIte (ev cf c).t (ev cf a).v (ev cf b).v)
  | .tup es => mkV (vTup (evs cf es).d)
  | .lst es => mkV (vLst (evs cf es).d)
  | .ix a i => mkV (vIx (ev cf a).v (ev cf i).v)
  | .slF a lo => mkV (vSlF (ev cf a).v (ev cf lo).v)
  | .slT a hi => mkV (vSlT (ev cf a).v (ev cf hi).v)
  | .sl a lo hi => mkV (vSl (ev cf a).v (ev cf lo).v (ev cf hi).v)
  | .rev a => mkV (vRev (ev cf a).v)
  | .call f es => mkV (vCall (cf f) (evs cf es).a)
  | .blt b a => mkV (vBlt b (ev cf a).v)
  | .blt2 b a c => mkV (vBlt2 b (ev cf a).v (ev cf c).v)
  | .pop i => mkV (vPop i)
  | .popAt i a => mkV (vPopAt i (ev cf a).v)
  | .comp elt own t it => mkV (vComp (ev cf elt).v own t (ev cf it).i fYes)
  | .compIf elt own t it c => mkV (vComp (ev cf elt).v own t (ev cf it).i (ev cf c).t)
  | .rng1 a => mkI (iRng1 (ev cf a).v)
  | .rng2 a b => mkI (iRng2 (ev cf a).v (ev cf b).v)
  | .rng3 a b c => mkI (iRng3 (ev cf a).v (ev cf b).v (ev cf c).v)
  | .enum a => mkI (iEnum (ev cf a).v)
  | .zip a b => mkI (iZip (ev cf a).v (ev cf b).v)
  | .revd a => mkI (iRevd (ev cf a).v)
  | .fz a => mkV (vFz (ev cf a).v)
def evs (cf : CF) : Es → FsA
  | .nil => ⟨aNil, dNil⟩
  | .cons a es => ⟨aCons (ev cf a).v (evs cf es).a, dCons (ev cf a).v (evs cf es).d⟩
end

/-! ### statements -/
def sAsg (i : Nat) (a : FV) : FS := fun e => match a e with
  | some (x, e1) => match store e1 i x with
    | some e2 => some (.nx e2)
    | none => none
  | none => none
def sAsgT (t : Tg) (a : FV) : FS := fun e => match a e with
  | some (x, e1) => match frz x e1 with
    | some (d, e2) => match tgt (.tp t) d e2 with
      | some e3 => some (.nx e3)
      | none => none
    | none => none
  | none => none
def sPar (t : Tg) (es : FI) : FS := fun e => match es e with
  | some (ds, e2) => match tgts t ds e2 with
    | some e3 => if small ds then some (.nx e3) else none
    | none => none
  | none => none
def sSet (i : Nat) (ix a : FV) : FS := fun e => match a e with
  | some (x, e1) => match frz x e1 with
    | some (d, e2) => match ix e2 with
      | some (.d (.int k), e3) => match e3[i]? with
        | some (.ow b xs) => match L2.ixN xs.length k with
          | some j => if isOw e2 i then some (.nx (e3.set i (.ow b (xs.set j d)))) else none
          | none => none
        | _ => none
      | _ => none
    | none => none
  | none => none
def sAug (i : Nat) (op : Bop) (a : FV) : FS := fun e => match e[i]? with
  | some (.fz (.int p)) => match a e with
    | some (.d (.int q), e1) => match bop op (.int p) (.int q) with
      | some (.d r) => match put e1 i (.fz r) with
        | some e2 => some (.nx e2)
        | none => none
      | _ => none
    | _ => none
  | _ => none
def sAugS (i : Nat) (ix : FV) (op : Bop) (a : FV) : FS := fun e => match ix e with
  | some (.d (.int k), e1) => match e1[i]? with
    | some (.ow _ xs) => match ixD xs k with
      | some (.int p) => match a e1 with
        | some (.d (.int q), e2) => match bop op (.int p) (.int q) with
          | some (.d r) => match e2[i]? with
            | some (.ow b ys) => match L2.ixN ys.length k with
              | some j => if isOw e i then some (.nx (e2.set i (.ow b (ys.set j r)))) else none
              | none => none
            | _ => none
          | _ => none
        | _ => none
      | _ => none
    | _ => none
  | _ => none
def sApp (i : Nat) (a : FV) : FS := fun e => match a e with
  | some (x, e1) => match frz x e1 with
    | some (d, e2) => match e2[i]? with
      | some (.ow b xs) => if decide (xs.length < lim) && isOw e i then some (.nx (e2.set i (.ow b (xs ++ [d])))) else none
      | _ => none
    | none => none
  | none => none
def sExt (i : Nat) (a : FV) : FS := fun e => match a e with
  | some (x, e1) => match frz x e1 with
    | some (.list ds, e2) => match e2[i]? with
      | some (.ow b xs) => if decide (xs.length + ds.length ≤ lim) && isOw e i then some (.nx (e2.set i (.ow b (xs ++ ds)))) else none
      | _ => none
    | _ => none
  | none => none
def sEx (a : FV) : FS := fun e => match a e with
  | some (_, e1) => some (.nx e1)
  | none => none
def sIte (c : FT) (t f : FS) : FS := fun e => match c e with
  | some (true, e1) => t e1
  | some (false, e1) => f e1
  | none => none
def sFor (t : Tg) (it : FI) (b : FS) : FS := fun e => match it e with
  | some (ds, e1) => forL (fun d e => match tgt t d e with
      | some e2 => b e2
      | none => none) ds e1
  | none => none
def sRet (a : FV) : FS := fun e => match a e with
  | some (.d x, e1) => some (.rt (.d x) e1)
  | some (.own xs, e1) => some (.rt (.own xs) e1)
  | some (.loc i, e1) => match e1[i]? with
    | some (.fz d) => some (.rt (.d d) e1)
    | some (.ow false xs) => some (.rt (.own xs) (e1.set i .un))
    | _ => none
  | none => none
def sRetN : FS := fun e => some (.rt (.d .none) e)
def sBrk : FS := fun e => some (.bk e)
def sCont : FS := fun e => some (.ct e)
def sPass : FS := fun e => some (.nx e)
def sNo : FS := fun _ => none
def sSeq (s b : FS) : FS := fun e => match s e with
  | some (.nx e1) => b e1
  | some (.rt r e1) => some (.rt r e1)
  | some (.bk e1) => some (.bk e1)
  | some (.ct e1) => some (.ct e1)
  | none => none
mutual
def evS (cf : CF) (M : Nat) : S → FS
  | .asg (.nm i) a => sAsg i (ev cf a).v
  | .asg (.tp t) a => sAsgT t (ev cf a).v
  | .asg _ _ => sNo
  | .par t es => sPar t (evs cf es).d
  | .set i ix a => sSet i (ev cf ix).v (ev cf a).v
  | .aug i op a => sAug i op (ev cf a).v
  | .augS i ix op a => sAugS i (ev cf ix).v op (ev cf a).v
  | .app i a => sApp i (ev cf a).v
  | .ext i a => sExt i (ev cf a).v
  | .ex a => sEx (ev cf a).v
  | .ite c t f => sIte (ev cf c).t (evB cf M t) (evB cf M f)
  | .whl c b => whL (ev cf c).t (evB cf M b) M
  | .for t it b => sFor t (ev cf it).i (evB cf M b)
  | .ret a => sRet (ev cf a).v
  | .retN => sRetN
  | .brk => sBrk
  | .cont => sCont
  | .pass => sPass
  | .never => sNo
def evB (cf : CF) (M : Nat) : Ss → FS
  | .nil => sPass
  | .cons s ss => sSeq (evS cf M s) (evB cf M ss)
end
/-- a def -/
structure Df where
  name : Str
  np : Nat
  ns : Nat
  body : Ss
def runD (cf : CF) (M : Nat) (d : Df) (svs : List Sv) : Option (Rv × En) :=
  if decide (svs.length = d.np) then match evB cf M d.body (svs ++ List.replicate (d.ns - d.np) .un) with
    | some (.rt (.d x) e) => some (.d x, e)
    | some (.rt (.own xs) e) => some (.own xs, e)
    | some (.nx e) => some (.d .none, e)
    | _ => none
  else none
def run (M : Nat) (P : List Df) : Nat → CF
  | 0, _, _ => none
  | k + 1, f, svs => match P[f]? with
    | some d => runD (run M P k) M d svs
    | none => none
end De
end

section
set_option maxHeartbeats 4000000
namespace De
open PySem PySem.Spec PyProof.Rows L2

/-! ### data and heaps -/
mutual
inductive Rp (K : PySem.W.Frag) (H : Hp) : V → PyData → Prop
  | non : Rp K H .non .none
  | bl (b : Bool) : Rp K H (.bl b) (.bool b)
  | int (i : Int) : Rp K H (.int i) (.int i)
  | str (x : Str) : Rp K H (.str x) (.str x)
  | lst {a : Addr} {xs : List V} {ds : List PyData} : H a = some (.lst xs) → RpA K H xs ds → Rp K H (.ref a) (.list ds)
  | tup {a : Addr} {xs : List V} {ds : List PyData} : SqT K H a xs → RpA K H xs ds → Rp K H (.ref a) (.tuple ds)
  | scr {a : Addr} {xs : List V} {ds : List PyData} : SqL K H a xs → RpA K H xs ds → Rp K H (.ref a) (.dict [(.none, .list ds)])
inductive RpA (K : PySem.W.Frag) (H : Hp) : List V → List PyData → Prop
  | nil : RpA K H [] []
  | cons {v : V} {vs : List V} {d : PyData} {ds : List PyData} : Rp K H v d → RpA K H vs ds → RpA K H (v :: vs) (d :: ds)
end
/-- F is a part of H -/
def Sub (F H : Hp) : Prop := ∀ a o, F a = some o → H a = some o
theorem Sub.refl (F : Hp) : Sub F F := fun _ _ h => h
theorem Sub.trans {F G H : Hp} (h : Sub F G) (g : Sub G H) : Sub F H := fun a o e => g a o (h a o e)
section
variable {K : PySem.W.Frag} {F H : Hp}
theorem Sub.sqT (s : Sub F H) {a : Addr} {xs : List V} (h : SqT K F a xs) : SqT K H a xs := by
  rcases h with (h | ⟨o, h⟩) | h
  · exact .inl (.inl (s _ _ h))
  · exact .inl (.inr ⟨o, s _ _ h⟩)
  · exact .inr h
theorem Sub.sqL (s : Sub F H) {a : Addr} {xs : List V} (h : SqL K F a xs) : SqL K H a xs := by
  rcases h with (h | ⟨o, h⟩) | h
  · exact .inl (.inl (s _ _ h))
  · exact .inl (.inr ⟨o, s _ _ h⟩)
  · exact .inr h
mutual
theorem Rp.mono (s : Sub F H) : ∀ {v : V} {d : PyData}, Rp K F v d → Rp K H v d
  | _, _, .non => .non
  | _, _, .bl b => .bl b
  | _, _, .int i => .int i
  | _, _, .str x => .str x
  | _, _, .lst h r => .lst (s _ _ h) (RpA.mono s r)
  | _, _, .tup h r => .tup (s.sqT h) (RpA.mono s r)
  | _, _, .scr h r => .scr (s.sqL h) (RpA.mono s r)
theorem RpA.mono (s : Sub F H) : ∀ {vs : List V} {ds : List PyData}, RpA K F vs ds → RpA K H vs ds
  | _, _, .nil => .nil
  | _, _, .cons h r => .cons (Rp.mono s h) (RpA.mono s r)
end
mutual
theorem Rp.dp : ∀ {v : V} {d : PyData}, Rp K H v d → d.canLay0 = true → Dp K H v d
  | _, _, .non, _ => .non
  | _, _, .bl b, _ => .bl b
  | _, _, .int i, _ => .int i
  | _, _, .str x, _ => .str x
  | _, _, .lst h r, c => .lst (SqL.of h) (RpA.dp r (by rw [PyData.canLay0] at c; exact c))
  | _, _, .tup h r, c => .tup h (RpA.dp r (by rw [PyData.canLay0] at c; exact c))
  | _, _, .scr _ _, c => by rw [PyData.canLay0] at c; cases c
theorem RpA.dp : ∀ {vs : List V} {ds : List PyData}, RpA K H vs ds → PyData.canLayAll0 ds = true → DpAll K H vs ds
  | _, _, .nil, _ => .nil
  | _, _, .cons h r, c => by
    rw [PyData.canLayAll0, Bool.and_eq_true] at c
    exact .cons (Rp.dp h c.1) (RpA.dp r c.2)
end
theorem RpA.length : ∀ {vs : List V} {ds : List PyData}, RpA K H vs ds → vs.length = ds.length
  | _, _, .nil => rfl
  | _, _, .cons _ r => congrArg Nat.succ (RpA.length r)
theorem RpA.get : ∀ {vs : List V} {ds : List PyData} {i : Nat} {d : PyData}, RpA K H vs ds → ds[i]? = some d → ∃ v, vs[i]? = some v ∧ Rp K H v d
  | _, _, _, _, .nil, e => by simp at e
  | _, _, 0, _, .cons h _, e => by simp at e; subst e; exact ⟨_, rfl, h⟩
  | _, _, i + 1, _, .cons _ r, e => by
    obtain ⟨v, h1, h2⟩ := RpA.get (i := i) r (by simpa using e)
    exact ⟨v, by simpa using h1, h2⟩
theorem RpA.getV : ∀ {vs : List V} {ds : List PyData} {i : Nat} {v : V}, RpA K H vs ds → vs[i]? = some v → ∃ d, ds[i]? = some d ∧ Rp K H v d
  | _, _, _, _, .nil, e => by simp at e
  | _, _, 0, _, .cons h _, e => by simp at e; subst e; exact ⟨_, rfl, h⟩
  | _, _, i + 1, _, .cons _ r, e => by
    obtain ⟨v, h1, h2⟩ := RpA.getV (i := i) r (by simpa using e)
    exact ⟨v, by simpa using h1, h2⟩
theorem RpA.append : ∀ {vs ws : List V} {ds es : List PyData}, RpA K H vs ds → RpA K H ws es → RpA K H (vs ++ ws) (ds ++ es)
  | _, _, _, _, .nil, s => s
  | _, _, _, _, .cons h r, s => .cons h (RpA.append r s)
theorem RpA.take : ∀ {vs : List V} {ds : List PyData} (n : Nat), RpA K H vs ds → RpA K H (vs.take n) (ds.take n)
  | _, _, 0, _ => .nil
  | _, _, _ + 1, .nil => .nil
  | _, _, n + 1, .cons h r => .cons h (RpA.take n r)
theorem RpA.drop : ∀ {vs : List V} {ds : List PyData} (n : Nat), RpA K H vs ds → RpA K H (vs.drop n) (ds.drop n)
  | _, _, 0, r => r
  | _, _, _ + 1, .nil => .nil
  | _, _, n + 1, .cons _ r => RpA.drop n r
theorem RpA.set {v : V} {d : PyData} (h : Rp K H v d) : ∀ {vs : List V} {ds : List PyData} (n : Nat), RpA K H vs ds → RpA K H (vs.set n v) (ds.set n d)
  | _, _, _, .nil => .nil
  | _, _, 0, .cons _ r => .cons h r
  | _, _, n + 1, .cons g r => .cons g (RpA.set h n r)
theorem RpA.reverse : ∀ {vs : List V} {ds : List PyData}, RpA K H vs ds → RpA K H vs.reverse ds.reverse
  | _, _, .nil => .nil
  | _, _, .cons h r => by
    rw [List.reverse_cons, List.reverse_cons]
    exact RpA.append (RpA.reverse r) (.cons h .nil)
theorem RpA.eraseIdx : ∀ {vs : List V} {ds : List PyData} (n : Nat), RpA K H vs ds → RpA K H (vs.eraseIdx n) (ds.eraseIdx n)
  | _, _, _, .nil => .nil
  | _, _, 0, .cons _ r => r
  | _, _, n + 1, .cons h r => .cons h (RpA.eraseIdx n r)
theorem RpA.dropLast {vs : List V} {ds : List PyData} (r : RpA K H vs ds) : RpA K H vs.dropLast ds.dropLast := by
  rw [List.dropLast_eq_take, List.dropLast_eq_take, r.length]
  exact r.take _
theorem RpA.rep {vs : List V} {ds : List PyData} (r : RpA K H vs ds) : ∀ k : Nat, RpA K H (List.replicate k vs).flatten (List.replicate k ds).flatten
  | 0 => .nil
  | k + 1 => by
    rw [List.replicate_succ, List.replicate_succ, List.flatten_cons, List.flatten_cons]
    exact r.append (RpA.rep r k)
theorem RpA.ints : ∀ {ds : List PyData} {vs : List V} {ns : List Int}, RpA K H vs ds → intsOf ds = some ns → vs = ns.map V.int
  | [], _, _, .nil, e => by
    rw [intsOf] at e
    cases e
    rfl
  | .int i :: ds, _, ns, .cons h r, e => by
    rw [intsOf] at e
    cases q : intsOf ds with
    | none => rw [q] at e; cases e
    | some l =>
      rw [q] at e
      cases e
      cases h
      rw [RpA.ints r q]
      rfl
  | .none :: _, _, _, _, e => by rw [intsOf] at e; cases e; intro i h; cases h
  | .bool _ :: _, _, _, _, e => by rw [intsOf] at e; cases e; intro i h; cases h
  | .str _ :: _, _, _, _, e => by rw [intsOf] at e; cases e; intro i h; cases h
  | .list _ :: _, _, _, _, e => by rw [intsOf] at e; cases e; intro i h; cases h
  | .tuple _ :: _, _, _, _, e => by rw [intsOf] at e; cases e; intro i h; cases h
  | .dict _ :: _, _, _, _, e => by rw [intsOf] at e; cases e; intro i h; cases h
theorem RpA.bools : ∀ {ds : List PyData} {vs : List V} {ns : List Bool}, RpA K H vs ds → boolsOf ds = some ns → vs = ns.map V.bl
  | [], _, _, .nil, e => by
    rw [boolsOf] at e
    cases e
    rfl
  | .bool i :: ds, _, ns, .cons h r, e => by
    rw [boolsOf] at e
    cases q : boolsOf ds with
    | none => rw [q] at e; cases e
    | some l =>
      rw [q] at e
      cases e
      cases h
      rw [RpA.bools r q]
      rfl
  | .none :: _, _, _, _, e => by rw [boolsOf] at e; cases e; intro i h; cases h
  | .int _ :: _, _, _, _, e => by rw [boolsOf] at e; cases e; intro i h; cases h
  | .str _ :: _, _, _, _, e => by rw [boolsOf] at e; cases e; intro i h; cases h
  | .list _ :: _, _, _, _, e => by rw [boolsOf] at e; cases e; intro i h; cases h
  | .tuple _ :: _, _, _, _, e => by rw [boolsOf] at e; cases e; intro i h; cases h
  | .dict _ :: _, _, _, _, e => by rw [boolsOf] at e; cases e; intro i h; cases h
theorem rpA_ints : ∀ ns : List Int, RpA K H (ns.map V.int) (ns.map PyData.int)
  | [] => .nil
  | n :: ns => .cons (.int n) (rpA_ints ns)
end

/-! ### frozen part and heap: how both grow -/
structure Gr (F H F' H' : Hp) : Prop where
  f : Sub F F'
  h : Sub H H'
  new : ∀ a, F' a ≠ none → F a ≠ none ∨ H a = none
  sub : Sub F' H'
theorem Gr.refl {F H : Hp} (s : Sub F H) : Gr F H F H := ⟨Sub.refl _, Sub.refl _, fun _ h => .inl h, s⟩
theorem sub_upd {H : Hp} {p : Addr} {o : HO} (h : H p = none) : Sub H (upd H p o) := fun b x e => by
  rw [upd_ne (ne_of_none e h)]
  exact e
theorem sub_upd2 {F H : Hp} {p : Addr} {o : HO} (s : Sub F H) : Sub (upd F p o) (upd H p o) := fun b x e => by
  by_cases q : b = p
  · subst q
    rw [upd_same] at e ⊢
    exact e
  · rw [upd_ne q] at e ⊢
    exact s _ _ e
theorem sub_none {F H : Hp} {p : Addr} (s : Sub F H) (h : H p = none) : F p = none := by
  cases q : F p with
  | none => rfl
  | some o =>
    rw [s _ _ q] at h
    cases h
/-- a new frozen object -/
theorem Gr.both {F H : Hp} {p : Addr} {o : HO} (s : Sub F H) (h : H p = none) : Gr F H (upd F p o) (upd H p o) where
  f := sub_upd (sub_none s h)
  h := sub_upd h
  new := fun a e => by
    by_cases q : a = p
    · subst q
      exact .inr h
    · rw [upd_ne q] at e
      exact .inl e
  sub := sub_upd2 s
/-- what a value shows: frozen data, or a list that stands in H with frozen items -/
def Vw (K : PySem.W.Frag) (F H : Hp) (v : V) (d : PyData) : Prop :=
  Rp K F v d ∨ ∃ (a : Addr) (vs : List V) (xs : List PyData), v = .ref a ∧ d = .list xs ∧ H a = some (.lst vs) ∧ RpA K F vs xs
/-- what is done with a result -/
def Res (K : PySem.W.Frag) (F H : Hp) (Q : VK) : Rv → Prop
  | .d d => ∀ v F' H', Gr F H F' H' → Rp K F' v d → Q v H'
  | .own xs => ∀ p vs, H p = none → RpA K F vs xs → Q (.ref p) (upd H p (.lst vs))
  | .loc _ => False
section
variable {K : PySem.W.Frag} {F H : Hp} {v : V} {d : PyData}
theorem Vw.rp (s : Sub F H) (h : Vw K F H v d) : Rp K H v d := by
  rcases h with h | ⟨a, vs, xs, rfl, rfl, h, r⟩
  · exact h.mono s
  · exact .lst h (r.mono s)
theorem Vw.int {i : Int} (h : Vw K F H v (.int i)) : v = .int i := by
  rcases h with h | ⟨a, vs, xs, _, e, _⟩
  · cases h
    rfl
  · cases e
theorem Vw.bool {i : Bool} (h : Vw K F H v (.bool i)) : v = .bl i := by
  rcases h with h | ⟨a, vs, xs, _, e, _⟩
  · cases h
    rfl
  · cases e
theorem Vw.list {xs : List PyData} (s : Sub F H) (h : Vw K F H v (.list xs)) : ∃ a vs, v = .ref a ∧ H a = some (.lst vs) ∧ RpA K F vs xs := by
  rcases h with h | ⟨a, vs, xs, rfl, e, h, r⟩
  · cases h with
    | lst h r => exact ⟨_, _, rfl, s _ _ h, r⟩
  · cases e
    exact ⟨a, vs, rfl, h, r⟩
theorem Vw.tup {xs : List PyData} (s : Sub F H) (h : Vw K F H v (.tuple xs)) : ∃ a vs, v = .ref a ∧ SqT K H a vs ∧ SqT K F a vs ∧ RpA K F vs xs := by
  rcases h with h | ⟨a, vs, xs, _, e, _⟩
  · cases h with
    | tup h r => exact ⟨_, _, rfl, s.sqT h, h, r⟩
  · cases e
theorem Vw.scr {xs : List PyData} (s : Sub F H) (h : Vw K F H v (.dict [(.none, .list xs)])) : ∃ a vs, v = .ref a ∧ SqL K H a vs ∧ RpA K F vs xs := by
  rcases h with h | ⟨a, vs, xs, _, e, _⟩
  · cases h with
    | scr h r => exact ⟨_, _, rfl, s.sqL h, r⟩
  · cases e
theorem Res.int {Q : VK} {i : Int} (s : Sub F H) (h : Res K F H Q (.d (.int i))) : Q (.int i) H := h _ _ _ (Gr.refl s) (.int i)
theorem Res.bool {Q : VK} {i : Bool} (s : Sub F H) (h : Res K F H Q (.d (.bool i))) : Q (.bl i) H := h _ _ _ (Gr.refl s) (.bl i)
theorem Res.newT {Q : VK} {ds : List PyData} {vs : List V} {p : Addr} (s : Sub F H) (h : Res K F H Q (.d (.tuple ds))) (hp : H p = none) (r : RpA K F vs ds) : Q (.ref p) (upd H p (.tup vs)) :=
  h _ _ _ (Gr.both s hp) (.tup (.inl (.inl upd_same)) (r.mono (sub_upd (sub_none s hp))))
end
theorem lim_le : lim ≤ sizeLine := by rw [sizeLine_eq]; decide
end De
end

section
set_option maxHeartbeats 4000000
namespace De
open PySem PySem.Spec PyProof.Rows L2
theorem tuple_mul1 (l : Addr) (items : Array Value) (n : Nat) (dd : Option Addr) (sl : Array (Option Value)) (x : Int) (u : Tok) (c0 : (decide (x < -(2 ^ 63)) || decide (x ≥ 2 ^ 63)) = false) (c1 : (items.isEmpty || x == 1) = true) :
    Meets (Builtin.«tuple.__mul__» ⟨[.ref l, .int x u], []⟩) (fun _ R s => s.heap.get? l = some { cls := .type "tuple", dict := dd, data := .seq items n, slots := sl } ∧
      R (.ok (.ret (Value.ref l))) s) :=
  .of_wp fun prog w A R s h => by
    obtain ⟨hp, g, d, tk, os⟩ := s
    obtain ⟨hl, h⟩ := h
    have f1 := AutoSeq1.idx_int
    wp_walk using wpAny_loadPart' hl
    repeat (first
      | (refine wpAny_ite_false (decide_eq_false (by rw [c0]; exact Bool.false_ne_true)) ?_; wp_walk using wpAny_loadPart' hl)
      | (refine wpAny_ite_true (decide_eq_true c1) ?_; wp_walk using wpAny_loadPart' hl))
    exact ⟨_, rfl, h⟩
theorem tuple_mul0 (l : Addr) (items : Array Value) (n : Nat) (dd : Option Addr) (sl : Array (Option Value)) (x : Int) (u : Tok) (c0 : (decide (x < -(2 ^ 63)) || decide (x ≥ 2 ^ 63)) = false) (c1 : (items.isEmpty || x == 1) = false) (c2 : (decide (x ≤ 0) || items.isEmpty) = true) :
    Meets (Builtin.«tuple.__mul__» ⟨[.ref l, .int x u], []⟩) (fun _ R s => s.heap.get? l = some { cls := .type "tuple", dict := dd, data := .seq items n, slots := sl } ∧
      R (.ok (.ret (Value.ref s.heap.objs.size))) { s with heap := s.heap.push { cls := Value.type "tuple", data := Data.seq #[] }, toks := s.toks }) :=
  .of_wp fun prog w A R s h => by
    obtain ⟨hp, g, d, tk, os⟩ := s
    obtain ⟨hl, h⟩ := h
    have f1 := AutoSeq1.idx_int
    have hz : (#[] : Array Value).size ≤ sizeLine := Nat.zero_le _
    wp_walk using wpAny_loadPart' hl
    repeat (first
      | (refine wpAny_ite_false (decide_eq_false (by rw [c0]; exact Bool.false_ne_true)) ?_; wp_walk using wpAny_loadPart' hl)
      | (refine wpAny_ite_false (decide_eq_false (by rw [c1]; exact Bool.false_ne_true)) ?_; wp_walk using wpAny_loadPart' hl)
      | (refine wpAny_ite_true (decide_eq_true c2) ?_; wp_walk using wpAny_loadPart' hl)
      | (refine wpAny_ite_false (decide_eq_false (Nat.not_lt.mpr hz)) ?_; wp_walk using wpAny_loadPart' hl))
    exact ⟨_, rfl, h⟩

def rRep1 (K : PySem.W.Frag) : R2 := fun x y H Q => ∃ l k xs, x = .ref l ∧ y = .int k ∧ SqT K H l xs ∧ (xs = [] ∨ k = 1) ∧ 0 ≤ k ∧ k ≤ 1000 ∧ Q (.ref l) H
def rRep0 (K : PySem.W.Frag) : R2 := fun x y H Q => ∃ l k xs, x = .ref l ∧ y = .int k ∧ SqT K H l xs ∧ xs ≠ [] ∧ k = 0 ∧ ∀ p, H p = none → Q (.ref p) (upd H p (.tup []))
section
variable {X : Cx}
theorem op_rep1 : OpR X (binaryOp .Mult) (rRep1 X.K) := by
  intro pins s σ H x y v u Q I rx ry h
  obtain ⟨l, k, xs, rfl, rfl, hT, hne, h1, h2, q⟩ := h
  cases rx
  obtain ⟨t, rfl⟩ := ry
  obtain ⟨its, r, ⟨⟨cls, dd, data, sl⟩, ho, hc, n, hd⟩, hs⟩ := I.tuple hT
  simp only at hc hd
  subst hc hd
  have hle : its.length = xs.length := r.length.symm
  have c0 : (decide (k < -(2 ^ 63)) || decide (k ≥ 2 ^ 63)) = false := by
    rw [decide_eq_false (by omega), decide_eq_false (by omega)] <;> rfl
  have c1 : (its.toArray.isEmpty || k == 1) = true := by
    rcases hne with e | e
    · subst e
      cases its with
      | nil => rfl
      | cons a b => cases hle
    · subst e
      rw [Bool.or_eq_true]
      exact .inr rfl
  exact wpAny_binaryOp_repeat_ref (T := "tuple") (U := "int") (by decide) ⟨_, ho, rfl⟩ (fun s' => typeIs_int s' k t) noFill_tuple_mul F.fills_int_mul F.slot_int_rmul repeat_tuple F.slot_int_index.lookup
    (call_meets F.slot_int_rmul (typeIs_int s k t) F.entry_int_rmul (F.args_int_rmul_2 _ _) (int_rmul_tuple k t l its.toArray n dd sl)
      ⟨ho, rfl, ⟨_, ho, rfl⟩, call_meets F.slot_tuple_mul ⟨_, ho, rfl⟩ F.entry_tuple_mul (F.args_tuple_mul_2 _ _) (tuple_mul1 l its.toArray n dd sl k t c0 c1) ⟨ho, .ref l, H, I, rfl, q⟩⟩)
theorem op_rep0 : OpR X (binaryOp .Mult) (rRep0 X.K) := by
  intro pins s σ H x y v u Q I rx ry h
  obtain ⟨l, k, xs, rfl, rfl, hT, hne, rfl, q⟩ := h
  cases rx
  obtain ⟨t, rfl⟩ := ry
  obtain ⟨its, r, ⟨⟨cls, dd, data, sl⟩, ho, hc, n, hd⟩, hs⟩ := I.tuple hT
  simp only at hc hd
  subst hc hd
  have hle : its.length = xs.length := r.length.symm
  have hi : its.toArray.isEmpty = false := by
    cases its with
    | nil => exact absurd (List.eq_nil_of_length_eq_zero hle.symm) hne
    | cons a b => rfl
  have c1 : (its.toArray.isEmpty || (0 : Int) == 1) = false := by
    rw [hi]
    rfl
  refine wpAny_binaryOp_repeat_ref (T := "tuple") (U := "int") (by decide) ⟨_, ho, rfl⟩ (fun s' => typeIs_int s' 0 t) noFill_tuple_mul F.fills_int_mul F.slot_int_rmul repeat_tuple F.slot_int_index.lookup
    (call_meets F.slot_int_rmul (typeIs_int s 0 t) F.entry_int_rmul (F.args_int_rmul_2 _ _) (int_rmul_tuple 0 t l its.toArray n dd sl)
      ⟨ho, rfl, ⟨_, ho, rfl⟩, call_meets F.slot_tuple_mul ⟨_, ho, rfl⟩ F.entry_tuple_mul (F.args_tuple_mul_2 _ _) (tuple_mul0 l its.toArray n dd sl 0 t (by decide) c1 (by rfl)) ⟨ho, ?_⟩⟩)
  refine ⟨.ref s.heap.objs.size, _, I.laid (t' := s.toks) (o := .tup []) (fun b ob q => Heap.get?_push_of_some _ q) (Nat.le_refl _) ?_, rfl, q _ (I.hok.fresh (Nat.le_refl _))⟩
  exact ⟨Nat.zero_le _, [], .nil, IsTup.new _ _⟩
end
end De
end

section
set_option maxHeartbeats 4000000
namespace De
open PySem PySem.Spec PyProof.Rows L2

/-! ### operators by data -/
def opB : Bop → Operator
  | .add => .Add
  | .sub => .Sub
  | .mul => .Mult
  | .fdiv => .FloorDiv
  | .mod => .Mod
  | .pow => .Pow
  | .xor => .BitXor
def rB (K : PySem.W.Frag) (op : Bop) : R2 := fun x y H Q => ∃ F p q rv, Sub F H ∧ Vw K F H x p ∧ Vw K F H y q ∧ bop op p q = some rv ∧ Res K F H Q rv
section
variable {X : Cx}
theorem ob_fdiv : OpR X (binaryOp .FloorDiv) (rI (fun _ j => j ≠ 0 ∧ j.natAbs.log2 < 9000) fun i j => .int (i.fdiv j)) :=
  opI fun _ _ _ _ _ _ _ hc q => floordiv_int hc.1 q (.inl (PyProof.noPylong_of_log2 hc.2))
theorem and3 {a b c : Bool} (h : (a && b && c) = true) : a = true ∧ b = true ∧ c = true := by
  rw [Bool.and_eq_true, Bool.and_eq_true] at h
  exact ⟨h.1.1, h.1.2, h.2⟩
theorem iteS {α : Type} {c : Prop} [Decidable c] {a : α} {r : α} (h : (if c then some a else none) = some r) : c ∧ a = r := by
  by_cases hc : c
  · rw [if_pos hc] at h
    exact ⟨hc, Option.some.inj h⟩
  · rw [if_neg hc] at h
    cases h
theorem ob (op : Bop) : OpR X (binaryOp (opB op)) (rB X.K op) := by
  intro pins s σ H x y v u Q I rx ry h
  obtain ⟨F, p, q, rv, sb, hx, hy, e, res⟩ := h
  cases p with
  | int i =>
    cases q with
    | int j =>
      have ex := hx.int
      have ey := hy.int
      cases op with
      | add => cases e; exact op_add pins s σ H x y v u Q I rx ry ⟨i, j, ex, ey, res.int sb⟩
      | sub => cases e; exact op_sub pins s σ H x y v u Q I rx ry ⟨i, j, ex, ey, res.int sb⟩
      | mul =>
        obtain ⟨hc, rfl⟩ := iteS e
        exact op_mulW pins s σ H x y v u Q I rx ry ⟨i, j, ex, ey, (of_decide_eq_true hc : i.natAbs.log2 + j.natAbs.log2 < 1000000), res.int sb⟩
      | fdiv =>
        obtain ⟨hc, rfl⟩ := iteS e
        unfold divOk at hc
        rw [Bool.and_eq_true] at hc
        exact ob_fdiv pins s σ H x y v u Q I rx ry ⟨i, j, ex, ey, ⟨of_decide_eq_true hc.1, of_decide_eq_true hc.2⟩, res.int sb⟩
      | mod =>
        obtain ⟨hc, rfl⟩ := iteS e
        exact op_modN pins s σ H x y v u Q I rx ry ⟨i, j, ex, ey, of_decide_eq_true hc, res.int sb⟩
      | pow =>
        obtain ⟨hc, rfl⟩ := iteS e
        obtain ⟨h1, h2, h3⟩ := and3 hc
        exact op_pow pins s σ H x y v u Q I rx ry ⟨i, j, ex, ey, ⟨of_decide_eq_true h1, of_decide_eq_true h2, of_decide_eq_true h3⟩, res.int sb⟩
      | xor => cases e; exact op_xor pins s σ H x y v u Q I rx ry ⟨i, j, ex, ey, res.int sb⟩
    | _ => cases op <;> cases e
  | list xs =>
    cases q with
    | list ys =>
      cases op with
      | add =>
        obtain ⟨hc, rfl⟩ := iteS e
        obtain ⟨a, vs, rfl, ha, ra⟩ := hx.list sb
        obtain ⟨b, ws, rfl, hb, rb⟩ := hy.list sb
        refine op_cat pins s σ H _ _ v u Q I rx ry ⟨a, b, vs, ws, rfl, rfl, ha, hb, ?_, fun p hp => res p _ hp (ra.append rb)⟩
        rw [ra.length, rb.length]
        exact Nat.le_trans (of_decide_eq_true hc) lim_le
      | _ => cases e
    | int k =>
      cases op with
      | mul =>
        obtain ⟨hc, rfl⟩ := iteS e
        obtain ⟨h1, h2, h3⟩ := and3 hc
        obtain ⟨a, vs, rfl, ha, ra⟩ := hx.list sb
        have h1 := of_decide_eq_true h1
        have h2 := of_decide_eq_true h2
        have h3 := of_decide_eq_true h3
        refine op_rep pins s σ H _ y v u Q I rx ry ⟨a, k, vs, rfl, hy.int, ha, by omega, by omega, ?_, fun p hp => res p _ hp (ra.rep _)⟩
        rw [ra.length]
        exact Nat.le_trans h3 lim_le
      | _ => cases e
    | _ => cases op <;> cases e
  | tuple xs =>
    cases q with
    | tuple ys =>
      cases op with
      | add =>
        obtain ⟨hc, rfl⟩ := iteS e
        obtain ⟨a, vs, rfl, ha, fa, ra⟩ := hx.tup sb
        obtain ⟨b, ws, rfl, hb, fb, rb⟩ := hy.tup sb
        refine op_catA pins s σ H _ _ v u Q I rx ry ⟨a, b, vs, ws, rfl, rfl, ha, hb, ?_, fun e0 => ?_, fun _ e1 => ?_, fun _ _ p hp => res.newT sb hp (ra.append rb)⟩
        · rw [ra.length, rb.length]
          exact Nat.le_trans (of_decide_eq_true hc) lim_le
        · subst e0
          cases ra
          exact res _ _ _ (Gr.refl sb) (.tup fb rb)
        · subst e1
          cases rb
          rw [List.append_nil] at res
          exact res _ _ _ (Gr.refl sb) (.tup fa ra)
      | _ => cases e
    | int k =>
      cases op with
      | mul =>
        obtain ⟨hc, rfl⟩ := iteS e
        obtain ⟨h1, h2, h3⟩ := and3 hc
        obtain ⟨a, vs, rfl, ha, fa, ra⟩ := hx.tup sb
        have h1 := of_decide_eq_true h1
        have h2 := of_decide_eq_true h2
        have h3 := of_decide_eq_true h3
        by_cases h4 : vs = [] ∨ k = 1
        · refine op_rep1 pins s σ H _ y v u Q I rx ry ⟨a, k, vs, rfl, hy.int, ha, h4, h1, h2, res _ _ _ (Gr.refl sb) ?_⟩
          have h5 : rep k.toNat xs = xs := by
            rcases h4 with h4 | h4
            · subst h4
              cases ra
              unfold rep
              exact List.flatten_replicate_nil
            · subst h4
              show (List.replicate 1 xs).flatten = xs
              simp
          rw [h5]
          exact .tup fa ra
        · rw [not_or] at h4
          by_cases h5 : k = 0
          · subst h5
            exact op_rep0 pins s σ H _ y v u Q I rx ry ⟨a, 0, vs, rfl, hy.int, ha, h4.1, rfl, fun p hp => res.newT sb hp .nil⟩
          · exact op_repT pins s σ H _ y v u Q I rx ry ⟨a, k, vs, rfl, hy.int, ha, h4.1, by have := h4.2; omega, h2, by rw [ra.length]; exact h3, fun p hp => res.newT sb hp (ra.rep _)⟩
      | _ => cases e
    | _ => cases op <;> cases e
  | _ => cases op <;> cases q <;> cases e

/-! ### comparisons by data -/
def opC : Cop → CmpOp
  | .eq => .Eq
  | .ne => .NotEq
  | .lt => .Lt
  | .le => .LtE
  | .gt => .Gt
  | .ge => .GtE
  | .isn => .Is
  | .nisn => .IsNot
  | .mem => .In
  | .nmem => .NotIn
def rC (K : PySem.W.Frag) (op : Cop) : R2 := fun x y H Q => ∃ F p q k, Sub F H ∧ Vw K F H x p ∧ Vw K F H y q ∧ cop op p q = some k ∧ Q (.bl k) H
theorem lay_of {d : PyData} (h : SeqAt.shaped d = true) : d.canLay0 = true := SeqAt.canLay_of_shaped h
theorem dec_intV (i j : Int) : decide (V.int i = V.int j) = decide (i = j) := by
  rw [dec_int]
  exact Bool.beq_eq_decide_eq i j
theorem Vw.is_none {K : PySem.W.Frag} {F H : Hp} {v : V} {d : PyData} (h : Vw K F H v d) : decide (v = .non) = isNone d := by
  rcases h with h | ⟨a, vs, xs, rfl, rfl, _⟩
  · cases h <;> rfl
  · rfl
theorem ints_all : ∀ {K : PySem.W.Frag} {H : Hp} {vs : List V} {xs : List PyData} {a : Int}, RpA K H vs xs → (xs.all fun z => match z with | .int _ => true | _ => false) = true →
    vs.all flatV = true ∧ inV (.int a) vs = xs.any (fun z => match z with | .int i => decide (i = a) | _ => false)
  | _, _, _, _, _, .nil, _ => ⟨rfl, rfl⟩
  | K, H, _, _, a, .cons (v := v) (vs := vs) (d := d) (ds := ds) h r, e => by
    rw [List.all_cons, Bool.and_eq_true] at e
    obtain ⟨e1, e2⟩ := e
    obtain ⟨i1, i2⟩ := ints_all (a := a) r e2
    cases h with
    | int i =>
      refine ⟨?_, ?_⟩
      · rw [List.all_cons, i1] <;> rfl
      · show (eqV (.int i) (.int a) || inV (.int a) vs) = _
        rw [i2, List.any_cons]
        have e3 : eqV (.int i) (.int a) = decide (i = a) := by
          first
            | rfl
            | exact Bool.beq_eq_decide_eq i a
        rw [e3]
    | non => cases e1
    | bl b => cases e1
    | str x => cases e1
    | lst _ _ => cases e1
    | tup _ _ => cases e1
    | scr _ _ => cases e1
theorem oc (hu : X.A.units + 65 < cLine) (op : Cop) : OpR X (compareOp (opC op)) (rC X.K op) := by
  intro pins s σ H x y v u Q I rx ry h
  obtain ⟨F, p, q, k, sb, hx, hy, e, res⟩ := h
  have isI : ∀ {i j : Int}, p = .int i → q = .int j → cop op p q = some k → wpAny (model X.prog X.w) X.A (compareOp (opC op) v u) (EP X pins σ Q) X.xe s := by
    rintro i j rfl rfl e
    have ex := hx.int
    have ey := hy.int
    subst ex ey
    cases op with
    | eq => cases e; exact op_eq pins s σ H _ _ v u Q I rx ry ⟨rfl, by rw [dec_intV]; exact res⟩
    | ne => cases e; exact op_ne pins s σ H _ _ v u Q I rx ry ⟨rfl, by rw [dec_intV]; exact res⟩
    | lt => cases e; exact op_lt pins s σ H _ _ v u Q I rx ry ⟨i, j, rfl, rfl, res⟩
    | le => cases e; exact op_le pins s σ H _ _ v u Q I rx ry ⟨i, j, rfl, rfl, res⟩
    | gt => cases e; exact op_gt pins s σ H _ _ v u Q I rx ry ⟨i, j, rfl, rfl, res⟩
    | ge => cases e; exact op_ge pins s σ H _ _ v u Q I rx ry ⟨i, j, rfl, rfl, res⟩
    | isn => cases e
    | nisn => cases e
    | mem => cases e
    | nmem => cases e
  by_cases hi : (∃ i, p = .int i) ∧ ∃ j, q = .int j
  · obtain ⟨⟨i, h1⟩, j, h2⟩ := hi
    exact isI h1 h2 e
  · have eqD : op = .eq → (if SeqAt.shaped p && SeqAt.shaped q then some (PyData.eqv p q) else none) = some k → wpAny (model X.prog X.w) X.A (compareOp (opC op) v u) (EP X pins σ Q) X.xe s := by
      rintro rfl e
      obtain ⟨hc, rfl⟩ := iteS e
      rw [Bool.and_eq_true] at hc
      exact op_eqD (by omega) pins s σ H x y v u Q I rx ry ⟨p, q, (hx.rp sb).dp (lay_of hc.1), (hy.rp sb).dp (lay_of hc.2), hc.1, hc.2, res⟩
    have neD : op = .ne → (if SeqAt.shaped p && SeqAt.shaped q then some (!PyData.eqv p q) else none) = some k → wpAny (model X.prog X.w) X.A (compareOp (opC op) v u) (EP X pins σ Q) X.xe s := by
      rintro rfl e
      obtain ⟨hc, rfl⟩ := iteS e
      rw [Bool.and_eq_true] at hc
      exact op_neD (by omega) pins s σ H x y v u Q I rx ry ⟨p, q, (hx.rp sb).dp (lay_of hc.1), (hy.rp sb).dp (lay_of hc.2), hc.1, hc.2, res⟩
    cases op with
    | eq =>
      refine eqD rfl ?_
      rw [← e]
      cases p <;> cases q <;> first | rfl | exact absurd ⟨⟨_, rfl⟩, _, rfl⟩ hi
    | ne =>
      refine neD rfl ?_
      rw [← e]
      cases p <;> cases q <;> first | rfl | exact absurd ⟨⟨_, rfl⟩, _, rfl⟩ hi
    | isn =>
      cases q with
      | none =>
        have ey : y = .non := by
          rcases hy with h | ⟨_, _, _, _, e2, _⟩
          · cases h; rfl
          · cases e2
        refine op_isN pins s σ H x y v u Q I rx ry ⟨ey, ?_⟩
        rw [hx.is_none]
        have e' : some (isNone p) = some k := by
          rw [← e]
          cases p <;> rfl
        rw [Option.some.inj e']
        exact res
      | _ => cases p <;> cases e
    | nisn =>
      cases q with
      | none =>
        have ey : y = .non := by
          rcases hy with h | ⟨_, _, _, _, e2, _⟩
          · cases h; rfl
          · cases e2
        refine op_notN pins s σ H x y v u Q I rx ry ⟨ey, ?_⟩
        rw [hx.is_none]
        have e' : some (!isNone p) = some k := by
          rw [← e]
          cases p <;> rfl
        rw [Option.some.inj e']
        exact res
      | _ => cases p <;> cases e
    | mem =>
      cases q with
      | list xs =>
        have e' : (if SeqAt.shaped p && SeqAt.shaped (.list xs) then some (xs.any fun z => PyData.eqv z p) else none) = some k := by
          rw [← e]
          cases p <;> rfl
        obtain ⟨hc, rfl⟩ := iteS e'
        rw [Bool.and_eq_true] at hc
        exact op_inD (by omega) pins s σ H x y v u Q I rx ry ⟨p, xs, (hx.rp sb).dp (lay_of hc.1), (hy.rp sb).dp (lay_of hc.2), hc.1, hc.2, res⟩
      | tuple xs =>
        cases p with
        | int a =>
          obtain ⟨hc, rfl⟩ := iteS e
          obtain ⟨b, vs, rfl, hb, fb, rb⟩ := hy.tup sb
          obtain ⟨f1, f2⟩ := ints_all (a := a) rb hc
          have ex := hx.int
          subst ex
          refine op_in_seq pins s σ H _ _ v u Q I rx ry ⟨b, vs, rfl, .inr hb, rfl, f1, ?_⟩
          show Q (.bl (inV (.int a) vs)) H
          rw [f2]
          exact res
        | _ => cases e
      | _ => cases p <;> cases e
    | nmem =>
      cases q with
      | list xs =>
        have e' : (if SeqAt.shaped p && SeqAt.shaped (.list xs) then some (!xs.any fun z => PyData.eqv z p) else none) = some k := by
          rw [← e]
          cases p <;> rfl
        obtain ⟨hc, rfl⟩ := iteS e'
        rw [Bool.and_eq_true] at hc
        exact op_notInD (by omega) pins s σ H x y v u Q I rx ry ⟨p, xs, (hx.rp sb).dp (lay_of hc.1), (hy.rp sb).dp (lay_of hc.2), hc.1, hc.2, res⟩
      | tuple xs =>
        cases p with
        | int a =>
          obtain ⟨hc, rfl⟩ := iteS e
          obtain ⟨b, vs, rfl, hb, fb, rb⟩ := hy.tup sb
          obtain ⟨f1, f2⟩ := ints_all (a := a) rb hc
          have ex := hx.int
          subst ex
          refine op_notIn_seq pins s σ H _ _ v u Q I rx ry ⟨b, vs, rfl, .inr hb, rfl, f1, ?_⟩
          show Q (.bl (!inV (.int a) vs)) H
          rw [f2]
          exact res
        | _ => cases e
      | _ => cases p <;> cases e
    | _ =>
      cases p <;> cases q <;> first | exact absurd ⟨⟨_, rfl⟩, _, rfl⟩ hi | cases e
end
end De
end

section
set_option maxHeartbeats 4000000
namespace De
open PySem PySem.Spec PyProof.Rows L2

/-! ### built-ins by data -/
inductive VwA (K : PySem.W.Frag) (F H : Hp) : List V → List PyData → Prop
  | nil : VwA K F H [] []
  | cons {v : V} {vs : List V} {d : PyData} {ds : List PyData} : Vw K F H v d → VwA K F H vs ds → VwA K F H (v :: vs) (d :: ds)
def nmB : Blt → String
  | .len => "len"
  | .abs => "abs"
  | .int => "int"
  | .max => "max"
  | .min => "min"
  | .sum => "sum"
  | .any => "any"
  | .all => "all"
  | .tuple => "tuple"
  | .list => "list"
  | .sorted => "sorted"
def isTy : Blt → Bool
  | .int => true
  | .tuple => true
  | .list => true
  | _ => false
def valB (b : Blt) : Value := if isTy b then .type (nmB b) else .builtin (nmB b)
def rBl (K : PySem.W.Frag) (b : Blt) : List V → Hp → VK → Prop := fun vs H Q => ∃ F ds rv, Sub F H ∧ VwA K F H vs ds ∧ blt b ds = some rv ∧ Res K F H Q rv
section
variable {K : PySem.W.Frag} {F H : Hp}
theorem VwA.one {vs : List V} {d : PyData} (h : VwA K F H vs [d]) : ∃ v, vs = [v] ∧ Vw K F H v d := by
  cases h with
  | cons h r => cases r; exact ⟨_, rfl, h⟩
theorem VwA.two {vs : List V} {d e : PyData} (h : VwA K F H vs [d, e]) : ∃ v u, vs = [v, u] ∧ Vw K F H v d ∧ Vw K F H u e := by
  cases h with
  | cons h r => cases r with
    | cons g r => cases r; exact ⟨_, _, rfl, h, g⟩
end
theorem maxL_mem : ∀ (r : List Int) (m : Int), maxL m r ∈ m :: r ∧ ∀ y ∈ m :: r, y ≤ maxL m r
  | [], m => ⟨List.mem_cons_self, fun y h => by
    rw [List.mem_singleton] at h
    rw [h]
    exact Int.le_refl _⟩
  | x :: r, m => by
    obtain ⟨h1, h2⟩ := maxL_mem r (if x > m then x else m)
    show maxL (if x > m then x else m) r ∈ _ ∧ ∀ y ∈ _, y ≤ maxL (if x > m then x else m) r
    have h3 := h2 _ List.mem_cons_self
    refine ⟨?_, fun y hy => ?_⟩
    · rcases List.mem_cons.mp h1 with e | e
      · rw [e]
        split
        · exact List.mem_cons_of_mem _ List.mem_cons_self
        · exact List.mem_cons_self
      · exact List.mem_cons_of_mem _ (List.mem_cons_of_mem _ e)
    · rcases List.mem_cons.mp hy with e | hy
      · subst e
        by_cases hc : x > y
        · rw [if_pos hc] at h3 ⊢
          omega
        · rw [if_neg hc] at h3 ⊢
          omega
      · rcases List.mem_cons.mp hy with e | hy
        · subst e
          by_cases hc : y > m
          · rw [if_pos hc] at h3 ⊢
            omega
          · rw [if_neg hc] at h3 ⊢
            omega
        · exact h2 y (List.mem_cons_of_mem _ hy)
theorem minL_mem : ∀ (r : List Int) (m : Int), minL m r ∈ m :: r ∧ ∀ y ∈ m :: r, minL m r ≤ y
  | [], m => ⟨List.mem_cons_self, fun y h => by
    rw [List.mem_singleton] at h
    rw [h]
    exact Int.le_refl _⟩
  | x :: r, m => by
    obtain ⟨h1, h2⟩ := minL_mem r (if x < m then x else m)
    show minL (if x < m then x else m) r ∈ _ ∧ ∀ y ∈ _, minL (if x < m then x else m) r ≤ y
    have h3 := h2 _ List.mem_cons_self
    refine ⟨?_, fun y hy => ?_⟩
    · rcases List.mem_cons.mp h1 with e | e
      · rw [e]
        split
        · exact List.mem_cons_of_mem _ List.mem_cons_self
        · exact List.mem_cons_self
      · exact List.mem_cons_of_mem _ (List.mem_cons_of_mem _ e)
    · rcases List.mem_cons.mp hy with e | hy
      · subst e
        by_cases hc : x < y
        · rw [if_pos hc] at h3 ⊢
          omega
        · rw [if_neg hc] at h3 ⊢
          omega
      · rcases List.mem_cons.mp hy with e | hy
        · subst e
          by_cases hc : y < m
          · rw [if_pos hc] at h3 ⊢
            omega
          · rw [if_neg hc] at h3 ⊢
            omega
        · exact h2 y (List.mem_cons_of_mem _ hy)
theorem insI_perm (x : Int) : ∀ l : List Int, (insI x l).Perm (x :: l)
  | [] => .refl _
  | y :: r => by
    unfold insI
    split
    · exact .refl _
    · exact ((insI_perm x r).cons y).trans (.swap x y r)
theorem sortI_perm : ∀ l : List Int, (sortI l).Perm l
  | [] => .refl _
  | x :: r => (insI_perm x (sortI r)).trans ((sortI_perm r).cons x)
theorem insI_sorted (x : Int) : ∀ l : List Int, l.Pairwise (· ≤ ·) → (insI x l).Pairwise (· ≤ ·)
  | [], _ => List.pairwise_singleton _ _
  | y :: r, h => by
    unfold insI
    have h' := List.pairwise_cons.mp h
    split
    · rename_i hc
      refine List.pairwise_cons.mpr ⟨fun z hz => ?_, h⟩
      rcases List.mem_cons.mp hz with e | hz
      · rw [e]
        exact hc
      · exact Int.le_trans hc (h'.1 z hz)
    · rename_i hc
      refine List.pairwise_cons.mpr ⟨fun z hz => ?_, insI_sorted x r h'.2⟩
      rcases List.mem_cons.mp ((insI_perm x r).mem_iff.mp hz) with e | hz
      · rw [e]
        omega
      · exact h'.1 z hz
theorem sortI_sorted : ∀ l : List Int, (sortI l).Pairwise (· ≤ ·)
  | [] => .nil
  | x :: r => insI_sorted x _ (sortI_sorted r)
/-- two sorted lists of the same numbers are one -/
theorem sorted_one : ∀ {l m : List Int}, l.Perm m → l.Pairwise (· ≤ ·) → m.Pairwise (· ≤ ·) → l = m
  | [], m, p, _, _ => (List.nil_perm.mp p).symm
  | x :: r, [], p, _, _ => absurd p.length_eq (by simp)
  | x :: r, y :: s, p, h1, h2 => by
    have a1 := List.pairwise_cons.mp h1
    have a2 := List.pairwise_cons.mp h2
    have e : x = y := by
      have m1 : x ∈ y :: s := p.mem_iff.mp List.mem_cons_self
      have m2 : y ∈ x :: r := p.mem_iff.mpr List.mem_cons_self
      rcases List.mem_cons.mp m1 with e | m1
      · exact e
      · rcases List.mem_cons.mp m2 with e | m2
        · exact e.symm
        · exact Int.le_antisymm (a1.1 y m2) (a2.1 x m1)
    subst e
    rw [sorted_one (p.cons_inv) a1.2 a2.2]
theorem map_int_rp {K : PySem.W.Frag} {H : Hp} (ns : List Int) : RpA K H (ns.map V.int) (ns.map PyData.int) := rpA_ints ns
section
variable {X : Cx}
def rSumT (K : PySem.W.Frag) : List V → Hp → VK → Prop := fun vs H Q => ∃ (a : Addr) (ns : List Int), vs = [V.ref a] ∧ SqT K H a (ns.map V.int) ∧ Q (.int ns.sum) H
theorem cr_sumT (hc : X.calm = true) : CallR X (.builtin "sum") (rSumT X.K) := by
  intro pins s σ H vs us Q I r h
  obtain ⟨a, ns, rfl, hs, q⟩ := h
  obtain ⟨its, rv, hl, _⟩ := I.tuple hs
  rw [Vals.ref1 r]
  obtain ⟨xs, e⟩ := rv.ints.allInts.items
  have hn : numsOf (intItems xs).toList = ns := by
    rw [← e]
    exact rv.ints.numsOf
  rw [nums_intItems] at hn
  rw [e] at hl
  refine PySem.W.ktm_sumG (I.ok.hd hc) hl fun h' tk t' hk => ?_
  rw [preSum_eq, List.take_of_length_le (by simp), hn]
  exact ⟨.int _, H, I.kept hk, ⟨_, rfl⟩, q⟩
theorem cb (hc : X.calm = true) (b : Blt) : CallR X (valB b) (rBl X.K b) := by
  intro pins s σ H vs us Q I r h
  obtain ⟨F, ds, rv, sb, hv, e, res⟩ := h
  cases b with
  | len =>
    match ds, e with
    | [.list xs], e =>
      cases e
      obtain ⟨v, rfl, h1⟩ := hv.one
      obtain ⟨a, ws, rfl, ha, ra⟩ := h1.list sb
      refine call_len_seq pins s σ H _ us Q I r ⟨a, ws, rfl, .inl (SqL.of ha), ?_⟩
      rw [ra.length]
      exact res.int sb
    | [.tuple xs], e =>
      cases e
      obtain ⟨v, rfl, h1⟩ := hv.one
      obtain ⟨a, ws, rfl, ha, _, ra⟩ := h1.tup sb
      refine call_len_seq pins s σ H _ us Q I r ⟨a, ws, rfl, .inr ha, ?_⟩
      rw [ra.length]
      exact res.int sb
  | abs =>
    match ds, e with
    | [.int a], e =>
      cases e
      obtain ⟨v, rfl, h1⟩ := hv.one
      exact call_abs pins s σ H _ us Q I r ⟨a, by rw [h1.int], res.int sb⟩
  | int =>
    match ds, e with
    | [.int a], e =>
      cases e
      obtain ⟨v, rfl, h1⟩ := hv.one
      exact call_int1 pins s σ H _ us Q I r (.inl ⟨a, by rw [h1.int], res.int sb⟩)
    | [.bool a], e =>
      cases e
      obtain ⟨v, rfl, h1⟩ := hv.one
      exact call_int1 pins s σ H _ us Q I r (.inr ⟨a, by rw [h1.bool], res.int sb⟩)
  | max =>
    match ds, e with
    | [.int a, .int b], e =>
      cases e
      obtain ⟨v, u, rfl, h1, h2⟩ := hv.two
      exact call_max2 hc pins s σ H _ us Q I r ⟨a, b, by rw [h1.int, h2.int], res.int sb⟩
    | [.list xs], e =>
      obtain ⟨v, rfl, h1⟩ := hv.one
      obtain ⟨a, ws, rfl, ha, ra⟩ := h1.list sb
      have e : (match intsOf xs with
        | some (x :: r) => some (Rv.d (.int (maxL x r)))
        | _ => none) = some rv := e
      cases q : intsOf xs with
      | none => rw [q] at e; cases e
      | some ns =>
        rw [q] at e
        cases ns with
        | nil => cases e
        | cons x r' =>
          cases e
          have hw := ra.ints q
          subst hw
          obtain ⟨m1, m2⟩ := maxL_mem r' x
          refine cr_max hc pins s σ H _ us Q I r ⟨a, x :: r', rfl, SqL.of ha, Nat.zero_lt_succ _, fun m h1 h2 => ?_⟩
          rw [Int.le_antisymm (m2 m h1) (h2 _ m1)]
          exact res.int sb
  | min =>
    match ds, e with
    | [.int a, .int b], e =>
      cases e
      obtain ⟨v, u, rfl, h1, h2⟩ := hv.two
      exact call_min2 hc pins s σ H _ us Q I r ⟨a, b, by rw [h1.int, h2.int], res.int sb⟩
    | [.list xs], e =>
      obtain ⟨v, rfl, h1⟩ := hv.one
      obtain ⟨a, ws, rfl, ha, ra⟩ := h1.list sb
      have e : (match intsOf xs with
        | some (x :: r) => some (Rv.d (.int (minL x r)))
        | _ => none) = some rv := e
      cases q : intsOf xs with
      | none => rw [q] at e; cases e
      | some ns =>
        rw [q] at e
        cases ns with
        | nil => cases e
        | cons x r' =>
          cases e
          have hw := ra.ints q
          subst hw
          obtain ⟨m1, m2⟩ := minL_mem r' x
          refine cr_min hc pins s σ H _ us Q I r ⟨a, x :: r', rfl, SqL.of ha, Nat.zero_lt_succ _, fun m h1 h2 => ?_⟩
          rw [Int.le_antisymm (h2 _ m1) (m2 m h1)]
          exact res.int sb
  | sum =>
    match ds, e with
    | [.list xs], e =>
      obtain ⟨v, rfl, h1⟩ := hv.one
      obtain ⟨a, ws, rfl, ha, ra⟩ := h1.list sb
      have e : (match intsOf xs with
        | some ns => some (Rv.d (.int ns.sum))
        | none => none) = some rv := e
      cases q : intsOf xs with
      | none => rw [q] at e; cases e
      | some ns =>
        rw [q] at e
        cases e
        have hw := ra.ints q
        subst hw
        exact cr_sum hc pins s σ H _ us Q I r ⟨a, ns, rfl, SqL.of ha, res.int sb⟩
    | [.tuple xs], e =>
      obtain ⟨v, rfl, h1⟩ := hv.one
      obtain ⟨a, ws, rfl, ha, _, ra⟩ := h1.tup sb
      have e : (match intsOf xs with
        | some ns => some (Rv.d (.int ns.sum))
        | none => none) = some rv := e
      cases q : intsOf xs with
      | none => rw [q] at e; cases e
      | some ns =>
        rw [q] at e
        cases e
        have hw := ra.ints q
        subst hw
        exact cr_sumT hc pins s σ H _ us Q I r ⟨a, ns, rfl, ha, res.int sb⟩
  | any =>
    match ds, e with
    | [.list xs], e =>
      obtain ⟨v, rfl, h1⟩ := hv.one
      obtain ⟨a, ws, rfl, ha, ra⟩ := h1.list sb
      have e : (match boolsOf xs with
        | some ns => some (Rv.d (.bool (ns.any id)))
        | none => none) = some rv := e
      cases q : boolsOf xs with
      | none => rw [q] at e; cases e
      | some ns =>
        rw [q] at e
        cases e
        have hw := ra.bools q
        subst hw
        exact cr_any hc pins s σ H _ us Q I r ⟨a, ns, rfl, SqL.of ha, res.bool sb⟩
  | all =>
    match ds, e with
    | [.list xs], e =>
      obtain ⟨v, rfl, h1⟩ := hv.one
      obtain ⟨a, ws, rfl, ha, ra⟩ := h1.list sb
      have e : (match boolsOf xs with
        | some ns => some (Rv.d (.bool (ns.all id)))
        | none => none) = some rv := e
      cases q : boolsOf xs with
      | none => rw [q] at e; cases e
      | some ns =>
        rw [q] at e
        cases e
        have hw := ra.bools q
        subst hw
        exact cr_all hc pins s σ H _ us Q I r ⟨a, ns, rfl, SqL.of ha, res.bool sb⟩
  | tuple =>
    match ds, e with
    | [.list xs], e =>
      cases e
      obtain ⟨v, rfl, h1⟩ := hv.one
      obtain ⟨a, ws, rfl, ha, ra⟩ := h1.list sb
      exact call_tuple_of pins s σ H _ us Q I r ⟨a, ws, rfl, .inl ⟨SqL.of ha, fun l hl => res.newT sb hl ra⟩⟩
    | [.tuple xs], e =>
      cases e
      obtain ⟨v, rfl, h1⟩ := hv.one
      obtain ⟨a, ws, rfl, ha, fa, ra⟩ := h1.tup sb
      exact call_tuple_of pins s σ H _ us Q I r ⟨a, ws, rfl, .inr ⟨ha, res _ _ _ (Gr.refl sb) (.tup fa ra)⟩⟩
  | list =>
    match ds, e with
    | [.list xs], e =>
      cases e
      obtain ⟨v, rfl, h1⟩ := hv.one
      obtain ⟨a, ws, rfl, ha, ra⟩ := h1.list sb
      exact call_list_of pins s σ H _ us Q I r ⟨a, ws, rfl, .inl (SqL.of ha), fun l hl => res l ws hl ra⟩
    | [.tuple xs], e =>
      cases e
      obtain ⟨v, rfl, h1⟩ := hv.one
      obtain ⟨a, ws, rfl, ha, fa, ra⟩ := h1.tup sb
      exact call_list_of pins s σ H _ us Q I r ⟨a, ws, rfl, .inr ha, fun l hl => res l ws hl ra⟩
    | [.dict [(.none, .list xs)]], e =>
      cases e
      obtain ⟨v, rfl, h1⟩ := hv.one
      obtain ⟨a, ws, rfl, ha, ra⟩ := h1.scr sb
      exact call_list_of pins s σ H _ us Q I r ⟨a, ws, rfl, .inl ha, fun l hl => res l ws hl ra⟩
  | sorted =>
    match ds, e with
    | [.list xs], e =>
      obtain ⟨v, rfl, h1⟩ := hv.one
      obtain ⟨a, ws, rfl, ha, ra⟩ := h1.list sb
      have e : (match intsOf xs with
        | some ns => some (Rv.own ((sortI ns).map .int))
        | none => none) = some rv := e
      cases q : intsOf xs with
      | none => rw [q] at e; cases e
      | some ns =>
        rw [q] at e
        cases e
        have hw := ra.ints q
        subst hw
        refine cr_sortedI pins s σ H _ us Q I r ⟨a, ns, rfl, SqL.of ha, fun ns' p h1 h2 hp => ?_⟩
        rw [sorted_one (h1.trans (sortI_perm ns).symm) h2 (sortI_sorted ns)]
        exact res p _ hp (rpA_ints _)
end
end De
end

section
set_option maxHeartbeats 4000000
namespace De
open PySem PySem.Spec PyProof.Rows L2

/-! ### either of two rules -/
section
variable {X : Cx}
theorem _root_.L2.PE.or {e : Expr} {t u : TE} (h : PE X e t) (g : PE X e u) : PE X e (fun σ H Q => t σ H Q ∨ u σ H Q) :=
  ⟨fun pins s σ H Q I q => q.elim (h.run pins s σ H Q I) (g.run pins s σ H Q I)⟩
theorem _root_.L2.PS.or {e : Stmt} {t u : TS} (h : PS X e t) (g : PS X e u) : PS X e (fun D σ H => t D σ H ∨ u D σ H) :=
  ⟨fun pins s σ H Q I q => q.elim (h.run pins s σ H Q I) (g.run pins s σ H Q I)⟩
theorem _root_.L2.PI.or {tg e : Expr} {t u : TI} (h : PI X tg e t) (g : PI X tg e u) : PI X tg e (fun σ H Q => t σ H Q ∨ u σ H Q) :=
  ⟨fun pins s σ H Q I q => q.elim (h.run pins s σ H Q I) (g.run pins s σ H Q I)⟩
theorem _root_.L2.PG.or {e : Expr} {t u : TG} (h : PG X e t) (g : PG X e u) : PG X e (fun v σ H Q => t v σ H Q ∨ u v σ H Q) :=
  ⟨fun pins s σ H v w Q I r q => q.elim (h.run pins s σ H v w Q I r) (g.run pins s σ H v w Q I r)⟩
end

/-! ### slots and heaps -/
/-- the slot i has the own list at p -/
def OwnAt (σ : L2.St) (e : En) (i : Nat) (p : Addr) : Prop := (∃ b xs, e[i]? = some (Sv.ow b xs)) ∧ σ[i]? = some (some (V.ref p))
/-- what stays the same through a def's run: heap and frozen part at the entry, the own lists passed in, and where they are -/
structure Fx where
  H0 : Hp
  F0 : Hp
  io : List Addr
  pn : Nat → Option V
structure Ok (K : PySem.W.Frag) (Y : Fx) (σ : L2.St) (e : En) (F H : Hp) : Prop where
  len : e.length = σ.length
  sub : Sub F H
  fz : ∀ (i : Nat) (d : PyData), e[i]? = some (Sv.fz d) → ∃ v, σ[i]? = some (some v) ∧ Rp K F v d
  ow : ∀ (i : Nat) (b : Bool) (xs : List PyData), e[i]? = some (Sv.ow b xs) → ∃ (p : Addr) (vs : List V), σ[i]? = some (some (V.ref p)) ∧ H p = some (.lst vs) ∧ F p = none ∧ RpA K F vs xs ∧ ((b = false ∧ Y.H0 p = none) ∨ (b = true ∧ p ∈ Y.io))
  inj : ∀ i j p, OwnAt σ e i p → OwnAt σ e j p → i = j
  grow0 : Sub Y.F0 F
  new0 : ∀ a, F a ≠ none → Y.F0 a ≠ none ∨ Y.H0 a = none
  keep0 : ∀ a o, Y.H0 a = some o → a ∉ Y.io → H a = some o
  stay0 : ∀ a, Y.H0 a ≠ none → H a ≠ none
  pin : ∀ i v, Y.pn i = some v → σ[i]? = some (some v) ∧ ∃ xs, e[i]? = some (Sv.ow true xs)
/-- from one state to the next within an expression -/
structure Step (σ : L2.St) (e : En) (F H : Hp) (e' : En) (F' H' : Hp) : Prop where
  len : e'.length = e.length
  grow : Sub F F'
  keep : ∀ a o, H a = some o → (∀ i, ¬ OwnAt σ e i a) → H' a = some o
  new : ∀ a, F' a ≠ none → F a ≠ none ∨ H a = none ∨ ∃ i, OwnAt σ e i a
  own : ∀ i a, OwnAt σ e' i a → OwnAt σ e i a
  stay : ∀ a, H a ≠ none → H' a ≠ none
/-- a result; Hs: the heap where the expression began -/
def RvOk (K : PySem.W.Frag) (Hs : Hp) (σ : L2.St) (e : En) (F H : Hp) (v : V) : Rv → Prop
  | .d d => Rp K F v d
  | .own xs => ∃ p vs, v = .ref p ∧ H p = some (.lst vs) ∧ F p = none ∧ Hs p = none ∧ (∀ i, ¬ OwnAt σ e i p) ∧ RpA K F vs xs
  | .loc i => σ[i]? = some (some v)
section
variable {K : PySem.W.Frag} {Y : Fx} {σ : L2.St} {e e' e'' : En} {F F' F'' H H' H'' Hs Ht : Hp} {v : V} {r : Rv} {d : PyData}
theorem not_none {α : Type} {x : Option α} {o : α} (h : x = some o) : x ≠ none := by
  rw [h]
  exact fun q => nomatch q
theorem none_of_not {α : Type} {x : Option α} (h : ¬ x ≠ none) : x = none := Classical.byContradiction h
theorem Step.refl : Step σ e F H e F H := ⟨rfl, Sub.refl _, fun _ _ h _ => h, fun _ h => .inl h, fun _ _ h => h, fun _ h => h⟩
theorem Step.trans (s : Step σ e F H e' F' H') (t : Step σ e' F' H' e'' F'' H'') : Step σ e F H e'' F'' H'' where
  len := t.len.trans s.len
  grow := s.grow.trans t.grow
  keep := fun a o h n => t.keep a o (s.keep a o h n) fun i q => n i (s.own i a q)
  new := fun a h => by
    rcases t.new a h with h | h | ⟨i, h⟩
    · exact s.new a h
    · exact .inr (.inl (Classical.byContradiction fun q => s.stay a q h))
    · exact .inr (.inr ⟨i, s.own i a h⟩)
  own := fun i a h => s.own i a (t.own i a h)
  stay := fun a h => t.stay a (s.stay a h)
/-- new frozen objects alone -/
theorem Gr.step (g : Gr F H F' H') : Step σ e F H e F' H' :=
  ⟨rfl, g.f, fun a o h _ => g.h a o h, fun a h => (g.new a h).elim .inl fun q => .inr (.inl q), fun _ _ h => h, fun a h q => by
    cases z : H a with
    | none => exact h z
    | some o => rw [g.h a o z] at q; cases q⟩
theorem Ok.gr (k : Ok K Y σ e F H) (g : Gr F H F' H') : Ok K Y σ e F' H' where
  len := k.len
  sub := g.sub
  fz := fun i d h => by
    obtain ⟨v, h1, h2⟩ := k.fz i d h
    exact ⟨v, h1, h2.mono g.f⟩
  ow := fun i b xs h => by
    obtain ⟨p, vs, h1, h2, h3, h4, h5⟩ := k.ow i b xs h
    refine ⟨p, vs, h1, g.h _ _ h2, Classical.byContradiction fun q => ?_, h4.mono g.f, h5⟩
    rcases g.new p q with z | z
    · exact z h3
    · rw [h2] at z
      cases z
  inj := k.inj
  grow0 := k.grow0.trans g.f
  new0 := fun a h => by
    rcases g.new a h with z | z
    · exact k.new0 a z
    · exact .inr (Classical.byContradiction fun q => k.stay0 a q z)
  keep0 := fun a o h n => g.h _ _ (k.keep0 a o h n)
  stay0 := fun a h => Step.stay (Gr.step (σ := σ) (e := e) g) a (k.stay0 a h)
  pin := k.pin
theorem OwnAt.of (k : Ok K Y σ e F H) {i : Nat} {b : Bool} {xs : List PyData} (h : e[i]? = some (.ow b xs)) : ∃ p, OwnAt σ e i p := by
  obtain ⟨p, vs, h1, _⟩ := k.ow i b xs h
  exact ⟨p, ⟨b, xs, h⟩, h1⟩
theorem RvOk.step (h : RvOk K Hs σ e F H v r) (s : Step σ e F H e' F' H') : RvOk K Hs σ e' F' H' v r := by
  cases r with
  | d d => exact Rp.mono s.grow h
  | loc i => exact h
  | own xs =>
    obtain ⟨p, vs, rfl, h1, h2, h3, h4, h5⟩ := h
    refine ⟨p, vs, rfl, s.keep p _ h1 h4, Classical.byContradiction fun q => ?_, h3, fun i q => h4 i (s.own i p q), h5.mono s.grow⟩
    rcases s.new p q with z | z | ⟨i, z⟩
    · exact z h2
    · rw [h1] at z
      cases z
    · exact h4 i z
/-- the same for an earlier beginning -/
theorem RvOk.from (h : RvOk K Hs σ e F H v r) (s : ∀ a, Ht a ≠ none → Hs a ≠ none) : RvOk K Ht σ e F H v r := by
  cases r with
  | d d => exact h
  | loc i => exact h
  | own xs =>
    obtain ⟨p, vs, rfl, h1, h2, h3, h4, h5⟩ := h
    exact ⟨p, vs, rfl, h1, h2, Classical.byContradiction fun q => s p q h3, h4, h5⟩
theorem RvOk.view (h : RvOk K Hs σ e F H v r) (k : Ok K Y σ e F H) (hd : deref e r = some d) : Vw K F H v d := by
  cases r with
  | d x =>
    cases hd
    exact .inl h
  | own xs =>
    cases hd
    obtain ⟨p, vs, rfl, h1, _, _, _, h5⟩ := h
    exact .inr ⟨p, vs, xs, rfl, rfl, h1, h5⟩
  | loc i =>
    have hd : (match e[i]? with
      | some (.fz d) => some d
      | some (.ow _ xs) => some (.list xs)
      | _ => none) = some d := hd
    have h : σ[i]? = some (some v) := h
    cases q : e[i]? with
    | none => rw [q] at hd; cases hd
    | some s =>
      rw [q] at hd
      cases s with
      | un => cases hd
      | fz x =>
        cases hd
        obtain ⟨u, h1, h2⟩ := k.fz i _ q
        rw [h] at h1
        cases h1
        exact .inl h2
      | ow b xs =>
        cases hd
        obtain ⟨p, vs, h1, h2, _, h4, _⟩ := k.ow i b xs q
        rw [h] at h1
        cases h1
        exact .inr ⟨p, vs, xs, rfl, rfl, h2, h4⟩
theorem getSet {e : En} {i j : Nat} {s t : Sv} (h : (e.set i s)[j]? = some t) : (i = j ∧ t = s) ∨ (i ≠ j ∧ e[j]? = some t) := by
  by_cases q : i = j
  · subst q
    rw [List.getElem?_set_self'] at h
    cases z : e[i]? with
    | none => rw [z] at h; cases h
    | some x => rw [z] at h; cases h; exact .inl ⟨rfl, rfl⟩
  · rw [List.getElem?_set_ne q] at h
    exact .inr ⟨q, h⟩
/-- an unpinned own list of a slot is frozen -/
theorem Ok.freeze (k : Ok K Y σ e F H) {i : Nat} {xs : List PyData} (h : e[i]? = some (.ow false xs)) :
    ∃ F' p vs, σ[i]? = some (some (.ref p)) ∧ F' p = some (.lst vs) ∧ RpA K F' vs xs ∧ Ok K Y σ (e.set i (.fz (.list xs))) F' H ∧ Step σ e F H (e.set i (.fz (.list xs))) F' H := by
  obtain ⟨p, vs, h1, h2, h3, h4, h5⟩ := k.ow i false xs h
  have hp : Y.H0 p = none := by
    rcases h5 with ⟨_, h5⟩ | ⟨h5, _⟩
    · exact h5
    · cases h5
  have g : Sub F (upd F p (.lst vs)) := sub_upd h3
  have own : ∀ j a, OwnAt σ (e.set i (.fz (.list xs))) j a → OwnAt σ e j a := fun j a ⟨⟨b, ys, q⟩, q2⟩ => by
    rcases getSet q with ⟨_, z⟩ | ⟨_, z⟩
    · cases z
    · exact ⟨⟨b, ys, z⟩, q2⟩
  have oi : OwnAt σ e i p := ⟨⟨_, _, h⟩, h1⟩
  refine ⟨upd F p (.lst vs), p, vs, h1, upd_same, h4.mono g, ⟨?_, ?_, ?_, ?_, ?_, ?_, ?_, ?_, ?_, ?_⟩, ⟨?_, ?_, ?_, ?_, ?_, ?_⟩⟩
  · rw [List.length_set]
    exact k.len
  · intro a o z
    by_cases q : a = p
    · subst q
      rw [upd_same] at z
      rw [← z]
      exact h2
    · rw [upd_ne q] at z
      exact k.sub a o z
  · intro j d z
    rcases getSet z with ⟨e1, e2⟩ | ⟨e1, e2⟩
    · subst e1
      cases e2
      exact ⟨_, h1, .lst upd_same (h4.mono g)⟩
    · obtain ⟨v, z1, z2⟩ := k.fz j d e2
      exact ⟨v, z1, z2.mono g⟩
  · intro j b ys z
    rcases getSet z with ⟨e1, e2⟩ | ⟨e1, e2⟩
    · cases e2
    · obtain ⟨q, ws, z1, z2, z3, z4, z5⟩ := k.ow j b ys e2
      refine ⟨q, ws, z1, z2, ?_, z4.mono g, z5⟩
      rw [upd_ne fun z => e1 (k.inj i j p oi ⟨⟨_, _, e2⟩, by rw [← z]; exact z1⟩)]
      exact z3
  · exact fun a b q z1 z2 => k.inj a b q (own a q z1) (own b q z2)
  · exact k.grow0.trans g
  · intro a z
    by_cases q : a = p
    · subst q
      exact .inr hp
    · rw [upd_ne q] at z
      exact k.new0 a z
  · exact k.keep0
  · exact k.stay0
  · intro j u z
    obtain ⟨z1, ys, z2⟩ := k.pin j u z
    refine ⟨z1, ys, ?_⟩
    rw [List.getElem?_set_ne fun q => ?_]
    · exact z2
    · subst q
      rw [h] at z2
      cases z2
  · rw [List.length_set]
  · exact g
  · exact fun a o z _ => z
  · intro a z
    by_cases q : a = p
    · subst q
      exact .inr (.inr ⟨i, oi⟩)
    · rw [upd_ne q] at z
      exact .inl z
  · exact own
  · exact fun a z => z
/-- freezing a result: from the expression's beginning (es, Fs, Hs) -/
theorem frz_ok {es : En} {Fs : Hp} (k : Ok K Y σ e F H) (s : Step σ es Fs Hs e F H) (h0 : ∀ a, Y.H0 a ≠ none → Hs a ≠ none) (h : RvOk K Hs σ e F H v r) (hf : frz r e = some (d, e')) :
    ∃ F', Ok K Y σ e' F' H ∧ Step σ es Fs Hs e' F' H ∧ Rp K F' v d := by
  cases r with
  | d x =>
    cases hf
    exact ⟨F, k, s, h⟩
  | own xs =>
    cases hf
    obtain ⟨p, vs, rfl, h1, h2, h3, h4, h5⟩ := h
    have g : Sub F (upd F p (.lst vs)) := sub_upd h2
    have hp : Y.H0 p = none := Classical.byContradiction fun q => h0 p q h3
    refine ⟨upd F p (.lst vs), ⟨k.len, ?_, ?_, ?_, k.inj, k.grow0.trans g, ?_, k.keep0, k.stay0, k.pin⟩, ⟨s.len, s.grow.trans g, s.keep, ?_, s.own, s.stay⟩, .lst upd_same (h5.mono g)⟩
    · intro a o z
      by_cases q : a = p
      · subst q
        rw [upd_same] at z
        rw [← z]
        exact h1
      · rw [upd_ne q] at z
        exact k.sub a o z
    · intro j d z
      obtain ⟨u, z1, z2⟩ := k.fz j d z
      exact ⟨u, z1, z2.mono g⟩
    · intro j b ys z
      obtain ⟨q, ws, z1, z2, z3, z4, z5⟩ := k.ow j b ys z
      refine ⟨q, ws, z1, z2, ?_, z4.mono g, z5⟩
      rw [upd_ne fun w => h4 j ⟨⟨_, _, z⟩, by rw [← w]; exact z1⟩]
      exact z3
    · intro a z
      by_cases q : a = p
      · subst q
        exact .inr hp
      · rw [upd_ne q] at z
        exact k.new0 a z
    · intro a z
      by_cases q : a = p
      · subst q
        exact .inr (.inl h3)
      · rw [upd_ne q] at z
        exact s.new a z
  | loc i =>
    have hf : (match e[i]? with
      | some (.fz d) => some (d, e)
      | some (.ow false xs) => some (.list xs, e.set i (.fz (.list xs)))
      | _ => none) = some (d, e') := hf
    have h : σ[i]? = some (some v) := h
    cases q : e[i]? with
    | none => rw [q] at hf; cases hf
    | some t =>
      rw [q] at hf
      cases t with
      | un => cases hf
      | fz x =>
        cases hf
        obtain ⟨u, h1, h2⟩ := k.fz i _ q
        rw [h] at h1
        cases h1
        exact ⟨F, k, s, h2⟩
      | ow b xs =>
        cases b with
        | true => cases hf
        | false =>
          cases hf
          obtain ⟨F', p, vs, z1, z2, z3, z4, z5⟩ := k.freeze q
          rw [h] at z1
          cases z1
          exact ⟨F', z4, s.trans z5, .lst z2 z3⟩
/-- a slot's own list is changed -/
theorem Ok.write (k : Ok K Y σ e F H) {i : Nat} {b : Bool} {xs ys : List PyData} {p : Addr} {ws : List V} (h : e[i]? = some (.ow b xs)) (hp : σ[i]? = some (some (.ref p))) (r : RpA K F ws ys) :
    Ok K Y σ (e.set i (.ow b ys)) F (upd H p (.lst ws)) ∧ Step σ e F H (e.set i (.ow b ys)) F (upd H p (.lst ws)) := by
  obtain ⟨p', vs, h1, h2, h3, h4, h5⟩ := k.ow i b xs h
  rw [hp] at h1
  cases h1
  have oi : OwnAt σ e i p := ⟨⟨_, _, h⟩, hp⟩
  have own : ∀ j a, OwnAt σ (e.set i (.ow b ys)) j a → OwnAt σ e j a := fun j a ⟨⟨c, zs, q⟩, q2⟩ => by
    rcases getSet q with ⟨e1, z⟩ | ⟨_, z⟩
    · subst e1
      exact ⟨⟨_, _, h⟩, q2⟩
    · exact ⟨⟨c, zs, z⟩, q2⟩
  have nf : ∀ a o, F a = some o → a ≠ p := fun a o z q => by
    subst q
    rw [h3] at z
    cases z
  refine ⟨⟨?_, ?_, ?_, ?_, ?_, k.grow0, k.new0, ?_, ?_, ?_⟩, ⟨?_, Sub.refl _, ?_, fun a z => .inl z, own, ?_⟩⟩
  · rw [List.length_set]
    exact k.len
  · intro a o z
    rw [upd_ne (nf a o z)]
    exact k.sub a o z
  · intro j d z
    rcases getSet z with ⟨e1, e2⟩ | ⟨e1, e2⟩
    · cases e2
    · exact k.fz j d e2
  · intro j c zs z
    rcases getSet z with ⟨e1, e2⟩ | ⟨e1, e2⟩
    · subst e1
      cases e2
      exact ⟨p, ws, hp, upd_same, h3, r, h5⟩
    · obtain ⟨q, us, z1, z2, z3, z4, z5⟩ := k.ow j c zs e2
      refine ⟨q, us, z1, ?_, z3, z4, z5⟩
      rw [upd_ne fun w => e1 (k.inj i j p oi ⟨⟨_, _, e2⟩, by rw [← w]; exact z1⟩)]
      exact z2
  · exact fun a c q z1 z2 => k.inj a c q (own a q z1) (own c q z2)
  · intro a o z n
    rw [upd_ne fun w => ?_]
    · exact k.keep0 a o z n
    · subst w
      rcases h5 with ⟨_, q⟩ | ⟨_, q⟩
      · rw [q] at z
        cases z
      · exact n q
  · intro a z w
    by_cases q : a = p
    · subst q
      rw [upd_same] at w
      cases w
    · rw [upd_ne q] at w
      exact k.stay0 a z w
  · intro j u z
    obtain ⟨z1, zs, z2⟩ := k.pin j u z
    refine ⟨z1, ?_⟩
    by_cases q : i = j
    · subst q
      rw [h] at z2
      cases z2
      exact ⟨ys, by rw [List.getElem?_set_self']; rw [h]; rfl⟩
    · exact ⟨zs, by rw [List.getElem?_set_ne q]; exact z2⟩
  · rw [List.length_set]
  · intro a o z n
    rw [upd_ne fun w => n i (by rw [w]; exact oi)]
    exact z
  · intro a z w
    by_cases q : a = p
    · subst q
      rw [upd_same] at w
      cases w
    · rw [upd_ne q] at w
      exact z w
end
end De
end

section
set_option maxHeartbeats 4000000
namespace De
open PySem PySem.Spec PyProof.Rows L2

/-! ### does a term match the text -/
/-- a program: its defs, the names by which they are called, its numbers -/
structure Pg where
  P : List Df
  nm : List Str
  gl : List (Str × Int)
  M : Nat
def glO (sc : Scope) (x : Str) : Bool := match sc.names.lookup x with
  | some .globalImplicit => !(x == ("__debug__" : Str))
  | _ => false
def visO (sc : Scope) (x : Str) : Bool := match sc.names.lookup x with
  | some .local => true
  | some .cell => true
  | some .free => true
  | _ => false
def locO (sc : Scope) (x : Str) : Bool := match sc.names.lookup x with
  | some .local => true
  | some .cell => true
  | _ => false
def plO (sc : Scope) (x : Str) : Bool := match sc.names.lookup x with
  | some .local => true
  | _ => false
def nmO (N : List Str) (sc : Scope) (i : Nat) (x : Str) : Bool := decide (N[i]? = some x) && visO sc x && !(x == ("__debug__" : Str)) && !(x == ("__classdict__" : Str))
def cstO : Dt → Const → Bool
  | .none, .none => true
  | .bool a, .bool b => a == b
  | .int a, .int b => decide (a = b)
  | .str a, .str b => decide (a = b)
  | _, _ => false
def notSl : Expr → Bool
  | .Slice .. => false
  | _ => true
def notStar : Expr → Bool
  | .Starred .. => false
  | _ => true
def notSet : Expr → Bool
  | .Set .. => false
  | _ => true
def notLc : Expr → Bool
  | .ListComp .. => false
  | .SetComp .. => false
  | .DictComp .. => false
  | _ => true
def notTup : Expr → Bool
  | .Tuple .. => false
  | _ => true
def notCall0 : Expr → Bool
  | .Call _ [] _ _ => false
  | _ => true
def plainT : Expr → Bool
  | .BoolOp .. => false
  | .UnaryOp .. => false
  | .IfExp .. => false
  | .Compare .. => false
  | _ => true
def isTup : Expr → Bool
  | .Tuple .. => true
  | _ => false
section
variable (G : Pg) (N : List Str)
mutual
def chkTg (sc : Scope) : Tg → Expr → Bool
  | .nm i, .Name x _ => decide (N[i]? = some x) && locO sc x
  | .tp t, .Tuple es _ _ => chkTs sc t es
  | _, _ => false
def chkTs (sc : Scope) : Tg → List Expr → Bool
  | .nil, [] => true
  | .cons t u, e :: es => chkTg sc t e && notStar e && chkTs sc u es
  | _, _ => false
end
def ownN (own : List Nat) : List (Str × Nat) := own.map fun i => (N.getD i Str.empty, i)
structure Ck where
  e : Scope → Expr → Bool
  t : Scope → Expr → Bool
  i : Scope → Expr → Expr → Bool
def ckV (f : Scope → Expr → Bool) : Ck := ⟨f, fun sc x => f sc x && plainT x, fun sc _ x => f sc x⟩
def ckN (f : Scope → Expr → Bool) : Ck := ⟨f, fun _ _ => false, fun _ _ _ => false⟩
def ckI (f : Scope → Expr → Expr → Bool) : Ck := ⟨fun _ _ => false, fun _ _ => false, f⟩
def cCst (d : Dt) (sc : Scope) : Expr → Bool
  | .Constant c _ _ => cstO d c
  | _ => false
def cGlob (x : Str) (d : Dt) (sc : Scope) : Expr → Bool
  | .Name y _ => (match d with
    | .int i => decide (x = y) && glO sc y && G.gl.any fun q => decide (q.1 = y) && decide (q.2 = i)
    | _ => false)
  | _ => false
def cNm (i : Nat) (sc : Scope) : Expr → Bool
  | .Name y _ => nmO N sc i y
  | _ => false
def cBin (op : Bop) (a b : Expr → Bool) : Expr → Bool
  | .BinOp l o r _ => decide (opB op = o) && a l && b r
  | _ => false
def cNeg (a : Expr → Bool) : Expr → Bool
  | .UnaryOp .USub x _ => a x
  | _ => false
def cNot (a : Expr → Bool) : Expr → Bool
  | .UnaryOp .Not x _ => a x
  | _ => false
def cBits (a : Expr → Bool) : Expr → Bool
  | .Call (.Attribute o m ap) [] [] cp => decide (m = ("bit_length" : Str)) && a o && (ap.endLine == cp.line) && notCall0 o
  | _ => false
def cCmp (op : Cop) (a b : Expr → Bool) : Expr → Bool
  | .Compare l [o] [r] _ => decide (opC op = o) && a l && b r && notSet r
  | _ => false
def cCmp2 (op op2 : Cop) (a b c : Expr → Bool) : Expr → Bool
  | .Compare l [o, o2] [m, r] _ => decide (opC op = o) && decide (opC op2 = o2) && a l && b m && c r && notSet m && notSet r
  | _ => false
def cBo (k : BoolOp) (a b : Expr → Bool) : Expr → Bool
  | .BoolOp o (x :: y :: r) p => decide (o = k) && a x && b (.BoolOp o (y :: r) p)
  | _ => false
def cOne (a : Expr → Bool) : Expr → Bool
  | .BoolOp _ [x] _ => a x
  | _ => false
def cIte (c a b : Expr → Bool) : Expr → Bool
  | .IfExp t x y _ => c t && a x && b y
  | _ => false
def cTup (es : List Expr → Bool) : Expr → Bool
  | .Tuple xs _ _ => es xs
  | _ => false
def cLst (es : List Expr → Bool) : Expr → Bool
  | .List xs _ => es xs
  | _ => false
def cIx (a i : Expr → Bool) : Expr → Bool
  | .Subscript x s _ => a x && i s && notSl s
  | _ => false
def cSlF (a lo : Expr → Bool) : Expr → Bool
  | .Subscript x (.Slice (some l) none none _) _ => a x && lo l
  | _ => false
def cSlT (a hi : Expr → Bool) : Expr → Bool
  | .Subscript x (.Slice none (some h) none _) _ => a x && hi h
  | _ => false
def cSl (a lo hi : Expr → Bool) : Expr → Bool
  | .Subscript x (.Slice (some l) (some h) none _) _ => a x && lo l && hi h
  | _ => false
def cRev (a : Expr → Bool) : Expr → Bool
  | .Subscript x (.Slice none none (some (.UnaryOp .USub (.Constant (.int 1) _ _) _)) _) _ => a x
  | _ => false
def cCall (f : Nat) (sc : Scope) (es : List Expr → Bool) : Expr → Bool
  | .Call (.Name x _) xs [] _ => decide (G.nm[f]? = some x) && glO sc x && es xs && (G.P[f]?).isSome
  | _ => false
def cBlt (b : Blt) (sc : Scope) (a : Expr → Bool) : Expr → Bool
  | .Call (.Name x _) [y] [] _ => decide (x = Str.ofString (nmB b)) && glO sc x && a y && notStar y
  | _ => false
def cBlt2 (b : Blt) (sc : Scope) (a c : Expr → Bool) : Expr → Bool
  | .Call (.Name x _) [y, z] [] _ => decide (x = Str.ofString (nmB b)) && glO sc x && a y && c z && notStar y && notStar z
  | _ => false
def cPop (i : Nat) (sc : Scope) : Expr → Bool
  | .Call (.Attribute (.Name y _) m ap) [] [] cp => decide (m = ("pop" : Str)) && nmO N sc i y && (ap.endLine == cp.line)
  | _ => false
def cPopAt (i : Nat) (sc : Scope) (a : Expr → Bool) : Expr → Bool
  | .Call (.Attribute (.Name y _) m ap) [x] [] cp => decide (m = ("pop" : Str)) && nmO N sc i y && (ap.endLine == cp.line) && a x && notStar x
  | _ => false
def cComp (own : List Nat) (t : Tg) (sc : Scope) (elt : Scope → Expr → Bool) (it : Expr → Expr → Bool) : Expr → Bool
  | .ListComp e [⟨tg, iter, [], 0⟩] s _ => elt (relS s sc) e && chkTg N s t tg && it tg iter && blkC N sc s (ownN N own) && notSet iter && (tgN t).all fun i => own.contains i
  | _ => false
def cCompIf (own : List Nat) (t : Tg) (sc : Scope) (elt c : Scope → Expr → Bool) (it : Expr → Expr → Bool) : Expr → Bool
  | .ListComp e [⟨tg, iter, [f], 0⟩] s _ => elt (relS s sc) e && chkTg N s t tg && it tg iter && blkC N sc s (ownN N own) && notSet iter && ((tgN t).all fun i => own.contains i) && c (relS s sc) f
  | _ => false
def cRng1 (sc : Scope) (a : Expr → Bool) : Expr → Bool
  | .Call (.Name x _) [y] [] _ => decide (x = ("range" : Str)) && glO sc x && a y && notStar y
  | _ => false
def cRng2 (sc : Scope) (a b : Expr → Bool) : Expr → Bool
  | .Call (.Name x _) [y, z] [] _ => decide (x = ("range" : Str)) && glO sc x && a y && b z && notStar y && notStar z
  | _ => false
def cRng3 (sc : Scope) (a b c : Expr → Bool) : Expr → Bool
  | .Call (.Name x _) [y, z, u] [] _ => decide (x = ("range" : Str)) && glO sc x && a y && b z && c u && notStar y && notStar z && notStar u
  | _ => false
def cEnum (sc : Scope) (a : Expr → Bool) (tg : Expr) : Expr → Bool
  | .Call (.Name x _) [y] [] _ => decide (x = ("enumerate" : Str)) && glO sc x && a y && notStar y && isTup tg
  | _ => false
def cZip (sc : Scope) (a b : Expr → Bool) (tg : Expr) : Expr → Bool
  | .Call (.Name x _) [y, z] [] _ => decide (x = ("zip" : Str)) && glO sc x && a y && b z && notStar y && notStar z && isTup tg
  | _ => false
def cRevd (sc : Scope) (a : Expr → Bool) : Expr → Bool
  | .Call (.Name x _) [y] [] _ => decide (x = ("reversed" : Str)) && glO sc x && a y && notStar y
  | _ => false
def aNilC : List Expr → Bool
  | [] => true
  | _ => false
def aConsC (a : Expr → Bool) (es : List Expr → Bool) : List Expr → Bool
  | x :: xs => a x && notStar x && es xs
  | _ => false
mutual
def ck : E → Ck
  | .cst d => ckV (cCst d)
  | .glob x d => ckV (cGlob G x d)
  | .nm i => ckV (cNm N i)
  | .bin op a b => ckV fun sc => cBin op ((ck a).e sc) ((ck b).e sc)
  | .neg a => ckN fun sc => cNeg ((ck a).e sc)
  | .bits a => ckV fun sc => cBits ((ck a).e sc)
  | .cmp op a b => ⟨fun sc => cCmp op ((ck a).e sc) ((ck b).e sc), fun sc => cCmp op ((ck a).e sc) ((ck b).e sc), fun _ _ _ => false⟩
  | .cmp2 op op2 a b c => ⟨fun sc => cCmp2 op op2 ((ck a).e sc) ((ck b).e sc) ((ck c).e sc), fun sc => cCmp2 op op2 ((ck a).e sc) ((ck b).e sc) ((ck c).e sc), fun _ _ _ => false⟩
  | .and a b => ⟨fun sc => cBo .And ((ck a).e sc) ((ck b).e sc), fun sc => cBo .And ((ck a).t sc) ((ck b).t sc), fun _ _ _ => false⟩
  | .or a b => ⟨fun sc => cBo .Or ((ck a).e sc) ((ck b).e sc), fun sc => cBo .Or ((ck a).t sc) ((ck b).t sc), fun _ _ _ => false⟩
  | .one a => ⟨fun sc => cOne ((ck a).e sc), fun sc => cOne ((ck a).t sc), fun _ _ _ => false⟩
  | .not a => ⟨fun sc => cNot ((ck a).e sc), fun sc => cNot ((ck a).t sc), fun _ _ _ => false⟩
  | .ite c a b => ckN fun sc => cIte ((ck c).t sc) ((ck a).e sc) ((ck b).e sc)
  | .tup es => ckV fun sc => cTup (cks es sc)
  | .lst es => ckV fun sc => cLst (cks es sc)
  | .ix a i => ckV fun sc => cIx ((ck a).e sc) ((ck i).e sc)
  | .slF a lo => ckV fun sc => cSlF ((ck a).e sc) ((ck lo).e sc)
  | .slT a hi => ckV fun sc => cSlT ((ck a).e sc) ((ck hi).e sc)
  | .sl a lo hi => ckV fun sc => cSl ((ck a).e sc) ((ck lo).e sc) ((ck hi).e sc)
  | .rev a => ckV fun sc => cRev ((ck a).e sc)
  | .call f es => ckV fun sc => cCall G f sc (cks es sc)
  | .blt b a => ckV fun sc => cBlt b sc ((ck a).e sc)
  | .blt2 b a c => ckV fun sc => cBlt2 b sc ((ck a).e sc) ((ck c).e sc)
  | .pop i => ckV (cPop N i)
  | .popAt i a => ckV fun sc => cPopAt N i sc ((ck a).e sc)
  | .comp elt own t it => ckV fun sc => cComp N own t sc (ck elt).e ((ck it).i sc)
  | .compIf elt own t it c => ckV fun sc => cCompIf N own t sc (ck elt).e (ck c).t ((ck it).i sc)
  | .rng1 a => ckI fun sc _ => cRng1 sc ((ck a).e sc)
  | .rng2 a b => ckI fun sc _ => cRng2 sc ((ck a).e sc) ((ck b).e sc)
  | .rng3 a b c => ckI fun sc _ => cRng3 sc ((ck a).e sc) ((ck b).e sc) ((ck c).e sc)
  | .enum a => ckI fun sc tg => cEnum sc ((ck a).e sc) tg
  | .zip a b => ckI fun sc tg => cZip sc ((ck a).e sc) ((ck b).e sc) tg
  | .revd a => ckI fun sc _ => cRevd sc ((ck a).e sc)
  | .fz a => ckV fun sc => (ck a).e sc
def cks : Es → Scope → List Expr → Bool
  | .nil, _ => aNilC
  | .cons a es, sc => aConsC ((ck a).e sc) (cks es sc)
end
/-- the names that are stored -/
def nmF (sc : Scope) (line : Nat) : Expr → Option Str
  | .Name id pos => if sc.names.lookup id == some .local && pos.line == line then some id else none
  | _ => none
/-- the stores of a, b = .. are swapped -/
def swapO (sc : Scope) (ts vs : List Expr) : Option Bool :=
  if (ts.length == 2 || ts.length == 3) && vs.length == ts.length then
    if (ts.filterMap (nmF sc ((ts.head?.map (·.pos.line)).getD 0))).length != ts.length || (ts.filterMap (nmF sc ((ts.head?.map (·.pos.line)).getD 0))).eraseDups.length != (ts.filterMap (nmF sc ((ts.head?.map (·.pos.line)).getD 0))).length then some false
    else if vs.all (foldedForSure 8) then some false
    else if vs.all (constantsAlone 8) then none
    else some true
  else some false
/-- the stores of a comprehension's value are not swapped -/
def swNo (sc : Scope) (x : Str) (p : Pos) : Expr → Bool
  | .ListComp _ _ s cp => !(sc.names.lookup x == some .local && p.line == cp.line && !(s.names.any fun y => y.1 == x && (y.2 == .local || y.2 == .cell)))
  | _ => false
def isComp : E → Bool
  | .comp .. => true
  | .compIf .. => true
  | _ => false
def nms : Tg → List Nat
  | .cons (.nm i) u => i :: nms u
  | _ => []
mutual
def chkS (sc : Scope) : S → Stmt → Bool
  | .asg (.nm i) a, .Assign [.Name x p] v q => decide (N[i]? = some x) && locO sc x && (ck G N a).e sc v && (notLc v || swNo sc x p v || (isComp a && match v with
      | .ListComp _ _ s cp => plO sc x && (p.line == cp.line) && !(s.names.any fun y => y.1 == x && (y.2 == .local || y.2 == .cell))
      | _ => false))
  | .asg (.tp t) a, .Assign [.Tuple es _ _] v _ => chkTs N sc t es && (ck G N a).e sc v && notTup v
  | .par t es, .Assign [.Tuple ts _ _] (.Tuple vs _ _) _ => chkTs N sc t ts && cks G N es sc vs && (match swapO sc ts vs with
      | some true => true
      | some false => true
      | none => false)
  | .set i ix a, .Assign [.Subscript (.Name x _) s _] v _ => nmO N sc i x && (ck G N ix).e sc s && notSl s && (ck G N a).e sc v
  | .aug i op a, .AugAssign (.Name x _) o v _ => decide (opB op = o) && decide (N[i]? = some x) && locO sc x && (ck G N a).e sc v && (match op with | .add => true | .sub => true | _ => false)
  | .augS i ix op a, .AugAssign (.Subscript (.Name x _) s _) o v _ => decide (opB op = o) && nmO N sc i x && (ck G N ix).e sc s && notSl s && (ck G N a).e sc v && (match op with | .add => true | .sub => true | _ => false)
  | .app i a, .Expr (.Call (.Attribute (.Name y _) m ap) [x] [] cp) _ => decide (m = ("append" : Str)) && nmO N sc i y && (ap.endLine == cp.line) && (ck G N a).e sc x && notStar x
  | .ext i a, .Expr (.Call (.Attribute (.Name y _) m ap) [x] [] cp) _ => decide (m = ("extend" : Str)) && nmO N sc i y && (ap.endLine == cp.line) && (ck G N a).e sc x && notStar x
  | .ex a, .Expr v _ => (ck G N a).e sc v && notLc v
  | .ite c t f, .If x a b _ => (ck G N c).t sc x && chkB sc t a && chkB sc f b
  | .whl c b, .While x a [] _ => (ck G N c).t sc x && chkB sc b a
  | .for t it b, .For tg iter a [] _ => chkTg N sc t tg && (ck G N it).i sc tg iter && notSet iter && chkB sc b a
  | .ret a, .Return (some v) _ => (ck G N a).e sc v
  | .retN, .Return none _ => true
  | .brk, .Break _ => true
  | .cont, .Continue _ => true
  | .pass, .Pass _ => true
  | .never, _ => true
  | _, _ => false
def chkB (sc : Scope) : Ss → List Stmt → Bool
  | .nil, [] => true
  | .cons s ss, x :: xs => chkS sc s x && chkB sc ss xs
  | _, _ => false
end
end
/-- a def's scope: parameters, names -/
def scO (N ps : List Str) (sc : Scope) : Bool :=
  decide (sc.kind = .function) && !sc.isCoroutine && !sc.isGenerator && decide N.Nodup && decide (N.take ps.length = ps) && ps.all (locO sc) && sc.names.all fun y => match y.2 with
    | .free => false
    | _ => true
end De
end

section
set_option maxHeartbeats 4000000
namespace De
open PySem PySem.Spec PyProof.Rows L2

/-! ### what a def promises, by the evaluator -/
def pnOf (vs : List V) (svs : List Sv) : Nat → Option V := fun i => match svs[i]? with
  | some (.ow true _) => vs[i]?
  | _ => none
def spD (K : PySem.W.Frag) (G : Pg) (k f : Nat) : Sp := fun vs H Q _ => ∃ F io svs r ec, Ok K ⟨H, F, io, pnOf vs svs⟩ (vs.map some) svs F H ∧ run G.M G.P k f svs = some (r, ec) ∧ (∀ (i : Nat) (r : Sv), svs[i]? = some r → r ≠ Sv.un) ∧
  ∀ v F' H' σ', Ok K ⟨H, F, io, pnOf vs svs⟩ σ' ec F' H' → RvOk K H σ' ec F' H' v r → Q v H'
/-- the names of built-ins that are used -/
def bltNames : List Str := ["len", "abs", "int", "max", "min", "sum", "any", "all", "tuple", "list", "sorted", "range", "enumerate", "zip", "reversed"]
/-- what is known where a term is walked -/
structure Cy (G : Pg) (k : Nat) (N : List Str) (X : Cx) (sc : Scope) : Prop where
  calm : X.calm = true
  nn : X.N = N
  nd : N.Nodup
  sc : X.env.scope = sc
  free : ∀ x ∈ bltNames, X.mg x = none
  gl : ∀ q ∈ G.gl, ∃ t, X.mg q.1 = some (.int q.2 t)
  fn : ∀ f d, G.P[f]? = some d → ∃ x fa fd ps, G.nm[f]? = some x ∧ X.mg x = some (.ref fa) ∧ PySem.W.keepIn X.K (.ref fa) = true ∧ Binds X.K fd ps [] ∧ FnOk X.prog X.w X.K X.mg X.base CX0 k fa fd ps (spD X.K G k f)
  room : Room k X.A
/-! ### readings by the evaluator -/
inductive RvA (K : PySem.W.Frag) (F : Hp) (σ : L2.St) : List V → List Rv → Prop
  | nil : RvA K F σ [] []
  | d {v : V} {x : PyData} {vs : List V} {rs : List Rv} : Rp K F v x → RvA K F σ vs rs → RvA K F σ (v :: vs) (.d x :: rs)
  | loc {v : V} {i : Nat} {vs : List V} {rs : List Rv} : σ[i]? = some (some v) → RvA K F σ vs rs → RvA K F σ (v :: vs) (.loc i :: rs)
structure JOk (K : PySem.W.Frag) (F : Hp) (J : It) (ds : List PyData) : Prop where
  go : ∀ i H, i < ds.length → Sub F H → J.go i H
  stop : ∀ H, Sub F H → J.stop ds.length H
  yld : ∀ i Fc H x H', i < ds.length → Sub F Fc → Sub Fc H → J.yld i H x H' → ∃ d F', ds[i]? = some d ∧ Gr Fc H F' H' ∧ Rp K F' x d
section
variable (K : PySem.W.Frag)
def wV (f : FV) : TE := fun σ H Q => ∃ Y e F r e', Ok K Y σ e F H ∧ f e = some (r, e') ∧ ∀ v F' H', Ok K Y σ e' F' H' → Step σ e F H e' F' H' → RvOk K H σ e' F' H' v r → Q v H'
def wT (f : FT) : TT := fun σ H Q => ∃ Y e F r e', Ok K Y σ e F H ∧ f e = some (r, e') ∧ ∀ F' H', Ok K Y σ e' F' H' → Step σ e F H e' F' H' → Q r H'
def wA (f : FA) : TA := fun σ H Q => ∃ Y e F rs e', Ok K Y σ e F H ∧ f e = some (rs, e') ∧ ∀ vs F' H', Ok K Y σ e' F' H' → Step σ e F H e' F' H' → RvA K F' σ vs rs → Q vs H'
def wD (f : FI) : TA := fun σ H Q => ∃ Y e F ds e', Ok K Y σ e F H ∧ f e = some (ds, e') ∧ ∀ vs F' H', Ok K Y σ e' F' H' → Step σ e F H e' F' H' → RpA K F' vs ds → Q vs H'
def wI (f : FI) : TI := fun σ H R => ∃ Y e F ds e', Ok K Y σ e F H ∧ f e = some (ds, e') ∧ ∀ J F' H', Ok K Y σ e' F' H' → Step σ e F H e' F' H' → JOk K F' J ds → R J H'
end
section
variable {X : Cx}
theorem _root_.L2.PE.imp {e : Expr} {t u : TE} (h : PE X e t) (g : ∀ σ H Q, u σ H Q → t σ H Q) : PE X e u := ⟨fun pins s σ H Q I q => h.run pins s σ H Q I (g σ H Q q)⟩
theorem _root_.L2.PT.imp {e : Expr} {t u : TT} (h : PT X e t) (g : ∀ σ H Q, u σ H Q → t σ H Q) : PT X e u := ⟨fun pins s σ H Q I q => h.run pins s σ H Q I (g σ H Q q)⟩
theorem _root_.L2.PA.imp {e : List Expr} {t u : TA} (h : PA X e t) (g : ∀ σ H Q, u σ H Q → t σ H Q) : PA X e u := ⟨fun pos pins s σ H Q I q => h.run pos pins s σ H Q I (g σ H Q q)⟩
theorem _root_.L2.PI.imp {tg e : Expr} {t u : TI} (h : PI X tg e t) (g : ∀ σ H Q, u σ H Q → t σ H Q) : PI X tg e u := ⟨fun pins s σ H Q I q => h.run pins s σ H Q I (g σ H Q q)⟩
theorem _root_.L2.PG.imp {e : Expr} {t u : TG} (h : PG X e t) (g : ∀ v σ H Q, u v σ H Q → t v σ H Q) : PG X e u := ⟨fun pins s σ H v w Q I r q => h.run pins s σ H v w Q I r (g v σ H Q q)⟩
theorem _root_.L2.PS.imp {e : Stmt} {t u : TS} (h : PS X e t) (g : ∀ D σ H, u D σ H → t D σ H) : PS X e u := ⟨fun pins s σ H D I q => h.run pins s σ H D I (g D σ H q)⟩
theorem _root_.L2.PSs.imp {e : List Stmt} {t u : TS} (h : PSs X e t) (g : ∀ D σ H, u D σ H → t D σ H) : PSs X e u := ⟨fun pins s σ H D I q => h.run pins s σ H D I (g D σ H q)⟩
end
/-! ### small facts for the readings -/
section
variable {K : PySem.W.Frag} {Y : Fx} {σ : L2.St} {e e' e1 e2 : En} {F F' F1 F2 H H' H1 H2 Hs : Hp} {v : V} {r : Rv} {d : PyData} {Q : VK}
/-- a new list that no slot holds -/
theorem Ok.alloc (k : Ok K Y σ e F H) {p : Addr} {o : HO} (hp : H p = none) : Ok K Y σ e F (upd H p o) :=
  ⟨k.len, k.sub.trans (sub_upd hp), k.fz, fun i b xs h => by
    obtain ⟨q, vs, h1, h2, h3⟩ := k.ow i b xs h
    exact ⟨q, vs, h1, sub_upd hp _ _ h2, h3⟩, k.inj, k.grow0, k.new0, fun a o h n => sub_upd hp _ _ (k.keep0 a o h n), fun a h q => by
      have z := k.stay0 a h
      by_cases w : a = p
      · subst w
        exact z hp
      · rw [upd_ne w] at q
        exact z q, k.pin⟩
theorem Step.alloc (s : Step σ e F H e' F' H') {p : Addr} {o : HO} (hp : H' p = none) : Step σ e F H e' F' (upd H' p o) :=
  ⟨s.len, s.grow, fun a o h n => sub_upd hp _ _ (s.keep a o h n), s.new, s.own, fun a h q => by
    have z := s.stay a h
    by_cases w : a = p
    · subst w
      exact z hp
    · rw [upd_ne w] at q
      exact z q⟩
theorem Step.back (s : Step σ e F H e' F' H') {p : Addr} (hp : H' p = none) : H p = none := Classical.byContradiction fun q => s.stay p q hp
theorem Ok.noOwn (k : Ok K Y σ e F H) {p : Addr} (hp : H p = none) : ∀ i, ¬ OwnAt σ e i p := fun i ⟨⟨b, xs, h⟩, h2⟩ => by
  obtain ⟨q, vs, h1, h3, _⟩ := k.ow i b xs h
  rw [h2] at h1
  cases h1
  rw [hp] at h3
  cases h3
theorem res_of (k : Ok K Y σ e2 F2 H2) (s : Step σ e F H e2 F2 H2) (hl : ∀ i, r ≠ .loc i) (q : ∀ v F' H', Ok K Y σ e2 F' H' → Step σ e F H e2 F' H' → RvOk K H σ e2 F' H' v r → Q v H') : Res K F2 H2 Q r := by
  cases r with
  | d d => exact fun v F' H' g h => q v F' H' (k.gr g) (s.trans g.step) h
  | own xs => exact fun p vs hp h => q _ F2 _ (k.alloc hp) (s.alloc hp) ⟨p, vs, rfl, upd_same, sub_none k.sub hp, s.back hp, k.noOwn hp, h⟩
  | loc i => exact absurd rfl (hl i)
theorem bop_loc {op : Bop} {p q : PyData} {i : Nat} : bop op p q ≠ some (.loc i) := fun h => by
  cases op <;> cases p <;> cases q <;> first | (cases h; done) | (obtain ⟨_, z⟩ := iteS h; cases z)
end
section
variable {G : Pg} {k : Nat} {N : List Str} {X : Cx} {sc : Scope}
theorem Cy.gl' (C : Cy G k N X sc) {x : Str} (h : glO sc x = true) : Gl X x ∧ (x == ("__debug__" : Str)) = false := by
  unfold glO at h
  cases q : sc.names.lookup x with
  | none => rw [q] at h; cases h
  | some n =>
    rw [q] at h
    cases n with
    | globalImplicit =>
      have h : (!(x == ("__debug__" : Str))) = true := h
      refine ⟨?_, by simpa using h⟩
      unfold Gl Env.kindOf
      rw [C.sc]
      exact q
    | _ => cases h
theorem Cy.vis (C : Cy G k N X sc) {x : Str} (h : visO sc x = true) : Vis X.env.scope x := by
  unfold visO at h
  rw [C.sc]
  cases q : sc.names.lookup x with
  | none => rw [q] at h; cases h
  | some n =>
    rw [q] at h
    cases n with
    | «local» => exact .inl q
    | cell => exact .inr (.inl q)
    | free => exact .inr (.inr q)
    | _ => cases h
theorem Cy.loc (C : Cy G k N X sc) {x : Str} (h : locO sc x = true) : Loc X.env.scope x := by
  unfold locO at h
  rw [C.sc]
  cases q : sc.names.lookup x with
  | none => rw [q] at h; cases h
  | some n =>
    rw [q] at h
    cases n with
    | «local» => exact .inl q
    | cell => exact .inr q
    | _ => cases h
theorem Cy.pv (C : Cy G k N X sc) {i : Nat} {x : Str} {pos : Pos} (h : nmO N sc i x = true) : PE X (.Name x pos) (tVar i) := by
  unfold nmO at h
  rw [Bool.and_eq_true, Bool.and_eq_true, Bool.and_eq_true] at h
  obtain ⟨⟨⟨h1, h2⟩, h3⟩, h4⟩ := h
  refine pe_var (by rw [C.nn]; exact of_decide_eq_true h1) (C.vis h2) (by simpa using h3) (by simpa using h4)
theorem Cy.hu (C : Cy G k N X sc) : X.A.units + 65 < cLine := by
  have := C.room.un
  omega
end
theorem starPlain {x : Expr} {xs : List Expr} {env : Env} (h : notStar x = true) : starEach (x :: xs) env = (false, eval x env) :: starEach xs env := by
  cases x <;> first | rfl | cases h
theorem notStar_nil {env : Env} : starEach [] env = [] := rfl
theorem and2 {a b : Bool} (h : (a && b) = true) : a = true ∧ b = true := Bool.and_eq_true_iff.mp h
theorem setPlain {x : Expr} {env : Env} (h : notSet x = true) : ∀ v, foldedSetIterable x env v = pure v := fun v => by
  cases x <;> first | rfl | cases h
theorem truePlain {x : Expr} {env : Env} (h : plainT x = true) : ∀ whole, isTrue x env whole = (do let v ← whole; standAt x.pos; holding [v] (truthy v)) := fun whole => by
  cases x <;> first | rfl | cases h
theorem slPlain {x : Expr} (h : notSl x = true) : PlainIx x := fun o i => by
  cases x <;> first | rfl | cases h
theorem markPlain {x : Expr} {op : CmpOp} (h : notSet x = true) : behindInMarks op x = false := by
  cases x <;> first | rfl | cases h
theorem basePlain {x : Expr} {m : Str} {env : Env} {w : Sem Value} (h : notCall0 x = true) : attributeBase x m env w = w := by
  cases x with
  | Call f as ks p =>
    cases as with
    | nil => cases h
    | cons a as => cases f <;> rfl
  | _ => rfl
end De
end

section
set_option maxHeartbeats 4000000
namespace De
open PySem
section
variable {a b c : FV} {fc ft ff : FT} {fi fi2 : FI} {e e' : En} {r : Rv}
theorem inv_tOf {k : Bool} (h : tOf a e = some (k, e')) : ∃ x d, a e = some (x, e') ∧ deref e' x = some d ∧ truth d = some k := by
  unfold tOf at h
  repeat' split at h
  all_goals first | (cases h; done) | (cases h; exact ⟨_, _, by assumption, by assumption, by assumption⟩)
theorem inv_iOf {ds : List Dt} (h : iOf a e = some (ds, e')) : ∃ x e1, a e = some (x, e1) ∧ (frz x e1 = some (.list ds, e') ∨ frz x e1 = some (.tuple ds, e')) := by
  unfold iOf at h
  repeat' split at h
  all_goals first | (cases h; done) | (cases h; exact ⟨_, _, by assumption, .inl (by assumption)⟩) | (cases h; exact ⟨_, _, by assumption, .inr (by assumption)⟩)
theorem inv_bin {op : Bop} (h : vBin op a b e = some (r, e')) : ∃ x e1 y p q, a e = some (x, e1) ∧ b e1 = some (y, e') ∧ deref e' x = some p ∧ deref e' y = some q ∧ bop op p q = some r := by
  unfold vBin at h
  repeat' split at h
  all_goals first | (cases h; done) | (cases h; exact ⟨_, _, _, _, _, by assumption, by assumption, by assumption, by assumption, by assumption⟩)
theorem inv_cmp {op : Cop} (h : vCmp op a b e = some (r, e')) : ∃ x e1 y p q k, r = .d (.bool k) ∧ a e = some (x, e1) ∧ b e1 = some (y, e') ∧ deref e' x = some p ∧ deref e' y = some q ∧ cop op p q = some k := by
  unfold vCmp at h
  repeat' split at h
  all_goals first | (cases h; done) | (cases h; exact ⟨_, _, _, _, _, _, rfl, by assumption, by assumption, by assumption, by assumption, by assumption⟩)
theorem inv_cmp2 {op op2 : Cop} (h : vCmp2 op op2 a b c e = some (r, e')) : ∃ x e1 y e2 p q k, a e = some (x, e1) ∧ b e1 = some (y, e2) ∧ deref e2 x = some p ∧ deref e2 y = some q ∧ cop op p q = some k ∧
    ((k = false ∧ e2 = e' ∧ r = .d (.bool false)) ∨ (k = true ∧ ∃ z p' q' k', r = .d (.bool k') ∧ c e2 = some (z, e') ∧ deref e' y = some p' ∧ deref e' z = some q' ∧ cop op2 p' q' = some k')) := by
  unfold vCmp2 at h
  repeat' split at h
  all_goals first | (cases h; done) | (cases h; exact ⟨_, _, _, _, _, _, _, by assumption, by assumption, by assumption, by assumption, by assumption, .inr ⟨rfl, _, _, _, _, rfl, by assumption, by assumption, by assumption, by assumption⟩⟩) | (cases h; exact ⟨_, _, _, _, _, _, _, by assumption, by assumption, by assumption, by assumption, by assumption, .inl ⟨rfl, rfl, rfl⟩⟩)
theorem inv_neg (h : vNeg a e = some (r, e')) : ∃ i, r = .d (.int (-i)) ∧ a e = some (.d (.int i), e') := by
  unfold vNeg at h
  repeat' split at h
  all_goals first | (cases h; done) | (cases h; exact ⟨_, rfl, by assumption⟩)
theorem inv_bits (h : vBits a e = some (r, e')) : ∃ i, r = .d (.int (Builtin.Int.intBits i : Nat)) ∧ a e = some (.d (.int i), e') := by
  unfold vBits at h
  repeat' split at h
  all_goals first | (cases h; done) | (cases h; exact ⟨_, rfl, by assumption⟩)
theorem inv_and (h : vAnd a b e = some (r, e')) : ∃ e1 k, a e = some (.d (.bool k), e1) ∧ ((k = true ∧ b e1 = some (r, e')) ∨ (k = false ∧ e1 = e' ∧ r = .d (.bool false))) := by
  unfold vAnd at h
  repeat' split at h
  · exact ⟨_, _, by assumption, .inl ⟨rfl, h⟩⟩
  · cases h
    exact ⟨_, _, by assumption, .inr ⟨rfl, rfl, rfl⟩⟩
  · cases h
theorem inv_or (h : vOr a b e = some (r, e')) : ∃ e1 k, a e = some (.d (.bool k), e1) ∧ ((k = false ∧ b e1 = some (r, e')) ∨ (k = true ∧ e1 = e' ∧ r = .d (.bool true))) := by
  unfold vOr at h
  repeat' split at h
  · cases h
    exact ⟨_, _, by assumption, .inr ⟨rfl, rfl, rfl⟩⟩
  · exact ⟨_, _, by assumption, .inl ⟨rfl, h⟩⟩
  · cases h
theorem inv_not (h : vNot a e = some (r, e')) : ∃ k, r = .d (.bool (!k)) ∧ a e = some (.d (.bool k), e') := by
  unfold vNot at h
  repeat' split at h
  all_goals first | (cases h; done) | (cases h; exact ⟨_, rfl, by assumption⟩)
theorem inv_ite (h : vIte fc a b e = some (r, e')) : ∃ e1 k, fc e = some (k, e1) ∧ ((k = true ∧ a e1 = some (r, e')) ∨ (k = false ∧ b e1 = some (r, e'))) := by
  unfold vIte at h
  repeat' split at h
  · exact ⟨_, _, by assumption, .inl ⟨rfl, h⟩⟩
  · exact ⟨_, _, by assumption, .inr ⟨rfl, h⟩⟩
  · cases h
theorem inv_tup (h : vTup fi e = some (r, e')) : ∃ ds, r = .d (.tuple ds) ∧ fi e = some (ds, e') ∧ small ds = true := by
  unfold vTup at h
  repeat' split at h
  all_goals first | (cases h; done) | (cases h; exact ⟨_, rfl, by assumption, by assumption⟩)
theorem inv_lst (h : vLst fi e = some (r, e')) : ∃ ds, r = .own ds ∧ fi e = some (ds, e') ∧ small ds = true := by
  unfold vLst at h
  repeat' split at h
  all_goals first | (cases h; done) | (cases h; exact ⟨_, rfl, by assumption, by assumption⟩)
theorem inv_ix (h : vIx a b e = some (r, e')) : ∃ x e1 k xs d, r = .d d ∧ a e = some (x, e1) ∧ b e1 = some (.d (.int k), e') ∧ (deref e' x = some (.list xs) ∨ deref e' x = some (.tuple xs)) ∧ ixD xs k = some d := by
  unfold vIx at h
  repeat' split at h
  all_goals first | (cases h; done) | (cases h; exact ⟨_, _, _, _, _, rfl, by assumption, by assumption, .inl (by assumption), by assumption⟩) | (cases h; exact ⟨_, _, _, _, _, rfl, by assumption, by assumption, .inr (by assumption), by assumption⟩)
theorem inv_slF (h : vSlF a b e = some (r, e')) : ∃ x e1 k d, a e = some (x, e1) ∧ b e1 = some (.d (.int k), e') ∧ deref e' x = some d ∧ slice d (some k) none = some r := by
  unfold vSlF at h
  repeat' split at h
  all_goals first | (cases h; done) | (cases h; exact ⟨_, _, _, _, by assumption, by assumption, by assumption, by assumption⟩)
theorem inv_slT (h : vSlT a b e = some (r, e')) : ∃ x e1 k d, a e = some (x, e1) ∧ b e1 = some (.d (.int k), e') ∧ deref e' x = some d ∧ slice d none (some k) = some r := by
  unfold vSlT at h
  repeat' split at h
  all_goals first | (cases h; done) | (cases h; exact ⟨_, _, _, _, by assumption, by assumption, by assumption, by assumption⟩)
theorem inv_sl (h : vSl a b c e = some (r, e')) : ∃ x e1 k e2 l d, a e = some (x, e1) ∧ b e1 = some (.d (.int k), e2) ∧ c e2 = some (.d (.int l), e') ∧ deref e' x = some d ∧ slice d (some k) (some l) = some r := by
  unfold vSl at h
  repeat' split at h
  all_goals first | (cases h; done) | (cases h; exact ⟨_, _, _, _, _, _, by assumption, by assumption, by assumption, by assumption, by assumption⟩)
theorem inv_rev (h : vRev a e = some (r, e')) : ∃ x xs, a e = some (x, e') ∧ deref e' x = some (.list xs) ∧ r = .own xs.reverse := by
  unfold vRev at h
  repeat' split at h
  all_goals first | (cases h; done) | (cases h; exact ⟨_, _, by assumption, by assumption, rfl⟩)
theorem inv_call {c : List Sv → Option (Rv × En)} {fa : FA} (h : vCall c fa e = some (r, e')) : ∃ rs e1 svs ec, fa e = some (rs, e1) ∧ argsOf e1 rs = some svs ∧ (locs rs).Nodup ∧ c svs = some (r, ec) ∧ backs e1 rs ec = some e' := by
  unfold vCall at h
  repeat' split at h
  all_goals first | (cases h; done) | (cases h; exact ⟨_, _, _, _, by assumption, by assumption, of_decide_eq_true (by assumption), by assumption, by assumption⟩)
theorem inv_blt {bl : Blt} (h : vBlt bl a e = some (r, e')) : ∃ x d, a e = some (x, e') ∧ deref e' x = some d ∧ blt bl [d] = some r := by
  unfold vBlt at h
  repeat' split at h
  all_goals first | (cases h; done) | (cases h; exact ⟨_, _, by assumption, by assumption, by assumption⟩)
theorem inv_blt2 {bl : Blt} (h : vBlt2 bl a b e = some (r, e')) : ∃ x e1 y, a e = some (.d x, e1) ∧ b e1 = some (.d y, e') ∧ blt bl [x, y] = some r := by
  unfold vBlt2 at h
  repeat' split at h
  all_goals first | (cases h; done) | (cases h; exact ⟨_, _, _, by assumption, by assumption, by assumption⟩)
theorem inv_pop {i : Nat} (h : vPop i e = some (r, e')) : ∃ b xs d, r = .d d ∧ e[i]? = some (Sv.ow b xs) ∧ xs[xs.length - 1]? = some d ∧ e' = e.set i (.ow b xs.dropLast) := by
  unfold vPop at h
  repeat' split at h
  all_goals first | (cases h; done) | (cases h; exact ⟨_, _, _, rfl, by assumption, by assumption, rfl⟩)
theorem inv_popAt {i : Nat} (h : vPopAt i a e = some (r, e')) : ∃ k e1 b xs j d, r = .d d ∧ a e = some (.d (.int k), e1) ∧ e1[i]? = some (Sv.ow b xs) ∧ L2.ixN xs.length k = some j ∧ xs[j]? = some d ∧ (rngOk k && isOw e i) = true ∧ e' = e1.set i (.ow b (xs.eraseIdx j)) := by
  unfold vPopAt at h
  repeat' split at h
  all_goals first | (cases h; done) | (cases h; exact ⟨_, _, _, _, _, _, rfl, by assumption, by assumption, by assumption, by assumption, by assumption, rfl⟩)
theorem inv_isOw {i : Nat} (h : isOw e i = true) : ∃ b xs, e[i]? = some (Sv.ow b xs) := by
  unfold isOw at h
  split at h
  · exact ⟨_, _, by assumption⟩
  · cases h
theorem inv_comp {own : List Nat} {t : Tg} (h : vComp a own t fi fc e = some (r, e')) : ∃ ds e1 ys e2, r = .own ys ∧ fi e = some (ds, e1) ∧ compL (turnC a own t fc) ds (wipeE e1 own) = some (ys, e2) ∧ small ys = true ∧ ownOk e1 own = true ∧ e' = back e1 e2 own := by
  unfold vComp at h
  repeat' split at h
  all_goals first | (cases h; done) | (cases h; rename_i hc; rw [Bool.and_eq_true] at hc; exact ⟨_, _, _, _, rfl, by assumption, by assumption, hc.1, hc.2, rfl⟩)
theorem inv_turn {own : List Nat} {t : Tg} {d : Dt} {ys : List Dt} (h : turnC a own t fc d e = some (ys, e')) : ∃ e1 k e2, tgt t d e = some e1 ∧ fc e1 = some (k, e2) ∧
    ((k = false ∧ ys = [] ∧ e' = wipeE e2 own) ∨ (k = true ∧ ∃ x e3 y e4, a e2 = some (x, e3) ∧ frz x e3 = some (y, e4) ∧ ys = [y] ∧ e' = wipeE e4 own)) := by
  unfold turnC at h
  repeat' split at h
  all_goals first | (cases h; done) | (cases h; exact ⟨_, _, _, by assumption, by assumption, .inr ⟨rfl, _, _, _, _, by assumption, by assumption, rfl, rfl⟩⟩) | (cases h; exact ⟨_, _, _, by assumption, by assumption, .inl ⟨rfl, rfl, rfl⟩⟩)
theorem inv_fz (h : vFz a e = some (r, e')) : ∃ x e1 d, r = .d d ∧ a e = some (x, e1) ∧ frz x e1 = some (d, e') := by
  unfold vFz at h
  repeat' split at h
  all_goals first | (cases h; done) | (cases h; exact ⟨_, _, _, rfl, by assumption, by assumption⟩)
theorem inv_tAnd {k : Bool} (h : tAnd ft ff e = some (k, e')) : ∃ e1 c, ft e = some (c, e1) ∧ ((c = true ∧ ff e1 = some (k, e')) ∨ (c = false ∧ e1 = e' ∧ k = false)) := by
  unfold tAnd at h
  repeat' split at h
  · exact ⟨_, _, by assumption, .inl ⟨rfl, h⟩⟩
  · cases h
    exact ⟨_, _, by assumption, .inr ⟨rfl, rfl, rfl⟩⟩
  · cases h
theorem inv_tOr {k : Bool} (h : tOr ft ff e = some (k, e')) : ∃ e1 c, ft e = some (c, e1) ∧ ((c = false ∧ ff e1 = some (k, e')) ∨ (c = true ∧ e1 = e' ∧ k = true)) := by
  unfold tOr at h
  repeat' split at h
  · cases h
    exact ⟨_, _, by assumption, .inr ⟨rfl, rfl, rfl⟩⟩
  · exact ⟨_, _, by assumption, .inl ⟨rfl, h⟩⟩
  · cases h
theorem inv_tNot {k : Bool} (h : tNot ft e = some (k, e')) : ∃ c, ft e = some (c, e') ∧ k = !c := by
  unfold tNot at h
  repeat' split at h
  all_goals first | (cases h; done) | (cases h; exact ⟨_, by assumption, rfl⟩)
theorem inv_rng1 {ds : List Dt} (h : iRng1 a e = some (ds, e')) : ∃ n, a e = some (.d (.int n), e') ∧ rngOk n = true ∧ ds = rngL 0 1 0 n.toNat := by
  unfold iRng1 at h
  repeat' split at h
  all_goals first | (cases h; done) | (cases h; exact ⟨_, by assumption, by assumption, rfl⟩)
theorem inv_rng2 {ds : List Dt} (h : iRng2 a b e = some (ds, e')) : ∃ m e1 n, a e = some (.d (.int m), e1) ∧ b e1 = some (.d (.int n), e') ∧ (rngOk m && rngOk n) = true ∧ ds = rngL m 1 0 (n - m).toNat := by
  unfold iRng2 at h
  repeat' split at h
  all_goals first | (cases h; done) | (cases h; exact ⟨_, _, _, by assumption, by assumption, by assumption, rfl⟩)
theorem inv_rng3 {ds : List Dt} (h : iRng3 a b c e = some (ds, e')) : ∃ m e1 n e2 k, a e = some (.d (.int m), e1) ∧ b e1 = some (.d (.int n), e2) ∧ c e2 = some (.d (.int k), e') ∧ rng3Ok m n k = true ∧ ds = rngL m k 0 (Builtin.Range.rangeSize m n k).toNat := by
  unfold iRng3 at h
  repeat' split at h
  all_goals first | (cases h; done) | (cases h; exact ⟨_, _, _, _, _, by assumption, by assumption, by assumption, by assumption, rfl⟩)
theorem inv_enum {ds : List Dt} (h : iEnum a e = some (ds, e')) : ∃ x e1 xs, a e = some (x, e1) ∧ ds = enumL 0 xs ∧ (frz x e1 = some (.list xs, e') ∨ frz x e1 = some (.tuple xs, e')) := by
  unfold iEnum at h
  repeat' split at h
  all_goals first | (cases h; done) | (cases h; exact ⟨_, _, _, by assumption, rfl, .inl (by assumption)⟩) | (cases h; exact ⟨_, _, _, by assumption, rfl, .inr (by assumption)⟩)
theorem inv_zip {ds : List Dt} (h : iZip a b e = some (ds, e')) : ∃ x e1 p e2 y e3 q xs ys, a e = some (x, e1) ∧ frz x e1 = some (p, e2) ∧ b e2 = some (y, e3) ∧ frz y e3 = some (q, e') ∧ ds = zipL xs ys ∧ ((p = .list xs ∧ q = .list ys) ∨ (p = .tuple xs ∧ q = .tuple ys)) := by
  unfold iZip at h
  repeat' split at h
  all_goals first | (cases h; done) | (cases h; exact ⟨_, _, _, _, _, _, _, _, _, by assumption, by assumption, by assumption, by assumption, rfl, .inl ⟨rfl, rfl⟩⟩) | (cases h; exact ⟨_, _, _, _, _, _, _, _, _, by assumption, by assumption, by assumption, by assumption, rfl, .inr ⟨rfl, rfl⟩⟩)
theorem inv_revd {ds : List Dt} (h : iRevd a e = some (ds, e')) : ∃ x e1 xs, a e = some (x, e1) ∧ ds = xs.reverse ∧ (frz x e1 = some (.list xs, e') ∨ frz x e1 = some (.tuple xs, e')) := by
  unfold iRevd at h
  repeat' split at h
  all_goals first | (cases h; done) | (cases h; exact ⟨_, _, _, by assumption, rfl, .inl (by assumption)⟩) | (cases h; exact ⟨_, _, _, by assumption, rfl, .inr (by assumption)⟩)
theorem inv_aCons {fa : FA} {rs : List Rv} (h : aCons a fa e = some (rs, e')) : ∃ x e1 rs', a e = some (x, e1) ∧ fa e1 = some (rs', e') ∧ ((∃ i, x = .loc i ∧ rs = .loc i :: rs') ∨ (∃ d, x = .d d ∧ rs = .d d :: rs') ∨ ∃ xs, x = .own xs ∧ rs = .d (.list xs) :: rs') := by
  unfold aCons at h
  repeat' split at h
  all_goals first | (cases h; done) | (cases h; exact ⟨_, _, _, by assumption, by assumption, .inl ⟨_, rfl, rfl⟩⟩) | (cases h; exact ⟨_, _, _, by assumption, by assumption, .inr (.inl ⟨_, rfl, rfl⟩)⟩) | (cases h; exact ⟨_, _, _, by assumption, by assumption, .inr (.inr ⟨_, rfl, rfl⟩)⟩)
theorem inv_dCons {ds : List Dt} (h : dCons a fi e = some (ds, e')) : ∃ x e1 d e2 ds', a e = some (x, e1) ∧ frz x e1 = some (d, e2) ∧ fi e2 = some (ds', e') ∧ ds = d :: ds' := by
  unfold dCons at h
  repeat' split at h
  all_goals first | (cases h; done) | (cases h; exact ⟨_, _, _, _, _, by assumption, by assumption, by assumption, rfl⟩)
end
end De
end

section
set_option maxHeartbeats 4000000
namespace De
open PySem PySem.Spec PyProof.Rows L2

section
variable {X : Cx} {l x y z m : Expr} {a b c : FV} {fc ft ff : FT} {fi fi2 : FI} {fa : FA} {pos p p2 : Pos}
/-! ### a test by a value; walked by a value -/
theorem r_test (h : PE X x (wV X.K a)) (hp : plainT x = true) : PT X x (wT X.K (tOf a)) := by
  refine (pt_truth h (truePlain hp)).imp fun σ H Q ⟨Y, e, F, k, e', ok, ev, q⟩ => ?_
  obtain ⟨r, d, e1, e3, e4⟩ := inv_tOf ev
  refine ⟨Y, e, F, r, e', ok, e1, fun v F' H' ok' st rv => ?_⟩
  have vw := rv.view ok' e3
  have qb := q F' H' ok' st
  cases d with
  | none =>
    cases e4
    rcases vw with vw | ⟨_, _, _, _, z, _⟩
    · cases vw
      exact ⟨false, rfl, qb⟩
    · cases z
  | bool c' =>
    cases e4
    have ev := vw.bool
    subst ev
    exact ⟨_, rfl, qb⟩
  | int i =>
    cases e4
    have ev := vw.int
    subst ev
    exact ⟨_, rfl, qb⟩
  | str x => cases e4
  | list xs =>
    cases e4
    obtain ⟨p, vs, rfl, hp, ra⟩ := vw.list ok'.sub
    have hl : (!xs.isEmpty) = !vs.isEmpty := by
      cases ra <;> rfl
    rw [hl] at qb
    exact ⟨_, .inl ⟨vs, SqL.of hp, rfl⟩, qb⟩
  | tuple xs =>
    cases e4
    obtain ⟨p, vs, rfl, hp, _, ra⟩ := vw.tup ok'.sub
    have hl : (!xs.isEmpty) = !vs.isEmpty := by
      cases ra <;> rfl
    rw [hl] at qb
    exact ⟨_, .inr (.inl ⟨vs, hp, rfl⟩), qb⟩
  | dict _ => cases e4
theorem jok_list {K : PySem.W.Frag} {F : Hp} {p : Addr} {vs : List V} {ds : List PyData} (hp : F p = some (.lst vs)) (ra : RpA K F vs ds) : JOk K F (Itl K p) ds where
  go := fun i H hi sb => by
    obtain ⟨v, hv⟩ : ∃ v, vs[i]? = some v := ⟨_, List.getElem?_eq_getElem (by rw [ra.length]; exact hi)⟩
    exact ⟨vs, v, SqL.of (sb _ _ hp), hv⟩
  stop := fun H sb => ⟨vs, SqL.of (sb _ _ hp), Nat.le_of_eq ra.length⟩
  yld := fun i Fc H x H' hi s1 s2 y => by
    obtain ⟨e, y⟩ := y
    subst e
    obtain ⟨d, h1, h2⟩ := ra.getV (y _ (SqL.of (s2 _ _ (s1 _ _ hp))))
    exact ⟨d, Fc, h1, Gr.refl s2, h2.mono s1⟩
theorem jok_tup {K : PySem.W.Frag} {F : Hp} {p : Addr} {vs : List V} {ds : List PyData} (hp : SqT K F p vs) (ra : RpA K F vs ds) : JOk K F (Itt K p) ds where
  go := fun i H hi sb => by
    obtain ⟨v, hv⟩ : ∃ v, vs[i]? = some v := ⟨_, List.getElem?_eq_getElem (by rw [ra.length]; exact hi)⟩
    exact ⟨vs, v, sb.sqT hp, hv⟩
  stop := fun H sb => ⟨vs, sb.sqT hp, Nat.le_of_eq ra.length⟩
  yld := fun i Fc H x H' hi s1 s2 y => by
    obtain ⟨e, y⟩ := y
    subst e
    obtain ⟨d, h1, h2⟩ := ra.getV (y _ (s2.sqT (s1.sqT hp)))
    exact ⟨d, Fc, h1, Gr.refl s2, h2.mono s1⟩
/-- a value, frozen -/
theorem frzd {K : PySem.W.Frag} {Y : Fx} {σ : L2.St} {e e1 e2 : En} {F H F1 H1 : Hp} {v : V} {r : Rv} {d : PyData} (ok : Ok K Y σ e F H) (ok1 : Ok K Y σ e1 F1 H1) (st : Step σ e F H e1 F1 H1) (rv : RvOk K H σ e1 F1 H1 v r) (h : frz r e1 = some (d, e2)) :
    ∃ F2, Ok K Y σ e2 F2 H1 ∧ Step σ e F H e2 F2 H1 ∧ Rp K F2 v d := frz_ok ok1 st ok.stay0 rv h
theorem r_iter {tg : Expr} (h : PE X x (wV X.K a)) : PI X tg x (wI X.K (iOf a)) := by
  refine ((pi_list h).or (pi_tup h)).imp fun σ H R ⟨Y, e, F, ds, e', ok, ev, q⟩ => ?_
  obtain ⟨r, e2, e1, e3 | e3⟩ := inv_iOf ev
  · refine .inl ⟨Y, e, F, r, e2, ok, e1, fun v F' H' ok' st rv => ?_⟩
    obtain ⟨F2, ok2, st2, rp⟩ := frzd ok ok' st rv e3
    cases rp with
    | lst hp ra => exact ⟨_, rfl, ⟨_, SqL.of (ok2.sub _ _ hp)⟩, q _ F2 _ ok2 st2 (jok_list hp ra)⟩
  · refine .inr ⟨Y, e, F, r, e2, ok, e1, fun v F' H' ok' st rv => ?_⟩
    obtain ⟨F2, ok2, st2, rp⟩ := frzd ok ok' st rv e3
    cases rp with
    | tup hp ra => exact ⟨_, rfl, ⟨_, ok2.sub.sqT hp⟩, q _ F2 _ ok2 st2 (jok_tup hp ra)⟩

/-! ### constants, names, operators -/
theorem r_cst {v : V} {d : PyData} (hr : ∀ F, Rp X.K F v d) {e : Expr} (h : PE X e (tC v)) : PE X e (wV X.K (vCst d)) :=
  h.imp fun σ H Q ⟨Y, e, F, r, e', ok, ev, q⟩ => by
    cases ev
    exact q v F H ok .refl (hr F)
theorem r_nm {i : Nat} (h : PE X x (tVar i)) : PE X x (wV X.K (vNm i)) := h.imp fun σ H Q ⟨Y, e, F, r, e', ok, ev, q⟩ => by
  unfold vNm at ev
  cases e1 : e[i]? with
  | none => rw [e1] at ev; cases ev
  | some s =>
    rw [e1] at ev
    cases s with
    | un => cases ev
    | fz d =>
      cases ev
      obtain ⟨v, h1, h2⟩ := ok.fz i d e1
      exact ⟨v, h1, q v F H ok .refl h2⟩
    | ow b xs =>
      cases ev
      obtain ⟨p, vs, h1, _⟩ := ok.ow i b xs e1
      exact ⟨_, h1, q _ F H ok .refl h1⟩
theorem r_bin {op : Bop} (ha : PE X x (wV X.K a)) (hb : PE X y (wV X.K b)) : PE X (.BinOp x (opB op) y pos) (wV X.K (vBin op a b)) := by
  refine (pe_op (ob op) ha hb).imp fun σ H Q ⟨Y, e, F, r, e', ok, ev, q⟩ => ?_
  obtain ⟨r1, e1, r2, p, p', h1, h2, d1, d2, hb⟩ := inv_bin ev
  exact ⟨Y, e, F, r1, e1, ok, h1, fun v F1 H1 ok1 st1 rv1 => ⟨Y, e1, F1, r2, e', ok1, h2, fun u F2 H2 ok2 st2 rv2 =>
    ⟨F2, p, p', r, ok2.sub, (rv1.step st2).view ok2 d1, rv2.view ok2 d2, hb, res_of ok2 (st1.trans st2) (fun i z => bop_loc (z ▸ hb)) q⟩⟩⟩
theorem r_neg (ha : PE X x (wV X.K a)) : PE X (.UnaryOp .USub x pos) (wV X.K (vNeg a)) := by
  refine (pe_un un_neg ha).imp fun σ H Q ⟨Y, e, F, r, e', ok, ev, q⟩ => ?_
  obtain ⟨i, rfl, h⟩ := inv_neg ev
  refine ⟨Y, e, F, _, _, ok, h, fun v F1 H1 ok1 st1 rv1 => ?_⟩
  cases rv1
  exact ⟨i, rfl, q _ F1 H1 ok1 st1 (.int _)⟩
theorem r_bits {ap : Pos} (ha : PE X x (wV X.K a)) (hb : notCall0 x = true) (hl : (ap.endLine == pos.line) = true) : PE X (.Call (.Attribute x "bit_length" ap) [] [] pos) (wV X.K (vBits a)) := by
  refine (pe_bits ha (basePlain hb) hl).imp fun σ H Q ⟨Y, e, F, r, e', ok, ev, q⟩ => ?_
  obtain ⟨i, rfl, h⟩ := inv_bits ev
  refine ⟨Y, e, F, _, _, ok, h, fun v F1 H1 ok1 st1 rv1 => ?_⟩
  cases rv1
  exact ⟨i, rfl, q _ F1 H1 ok1 st1 (.int _)⟩
/-- a comparison, as a reading of both -/
theorem cmp_reads {K : PySem.W.Frag} {op : Cop} {σ : L2.St} {H : Hp} {Q : VK} (h : wV K (vCmp op a b) σ H Q) : tOp (rC K op) (wV K a) (wV K b) σ H Q := by
  obtain ⟨Y, e, F, r, e', ok, ev, q⟩ := h
  obtain ⟨r1, e1, r2, p, p', k, rfl, h1, h2, d1, d2, hb⟩ := inv_cmp ev
  exact ⟨Y, e, F, r1, e1, ok, h1, fun v F1 H1 ok1 st1 rv1 => ⟨Y, e1, F1, r2, e', ok1, h2, fun u F2 H2 ok2 st2 rv2 =>
    ⟨F2, p, p', k, ok2.sub, (rv1.step st2).view ok2 d1, rv2.view ok2 d2, hb, q _ F2 H2 ok2 (st1.trans st2) (.bl k)⟩⟩⟩
theorem r_cmp {op : Cop} (hu : X.A.units + 65 < cLine) (ha : PE X x (wV X.K a)) (hb : PE X y (wV X.K b)) (hm : notSet y = true) : PE X (.Compare x [opC op] [y] pos) (wV X.K (vCmp op a b)) :=
  (pe_cmpR (oc hu op) ha hb (markPlain hm)).imp fun _ _ _ h => cmp_reads h
/-- a reading of a True or False, as a test -/
theorem test_reads {K : PySem.W.Frag} {f : FV} {t : TE} {σ : L2.St} {H : Hp} {Q : Bool → Hp → Prop} (hf : ∀ e r e', f e = some (r, e') → ∃ k, r = .d (.bool k)) (ht : ∀ σ H Q, wV K f σ H Q → t σ H Q) (h : wT K (tOf f) σ H Q) : tTest t σ H Q := by
  refine ht _ _ _ ?_
  obtain ⟨Y, e, F, k, e', ok, ev, q⟩ := h
  obtain ⟨r, d, e1, e2, e3⟩ := inv_tOf ev
  obtain ⟨k', rfl⟩ := hf e r e' e1
  cases e2
  cases e3
  refine ⟨Y, e, F, _, _, ok, e1, fun v F1 H1 ok1 st1 rv1 => ?_⟩
  cases rv1
  exact ⟨_, rfl, q F1 H1 ok1 st1⟩
theorem vCmp_bool {op : Cop} (e : En) (r : Rv) (e' : En) (h : vCmp op a b e = some (r, e')) : ∃ k, r = .d (.bool k) := by
  obtain ⟨r1, e1, r2, p, p', k, h, _⟩ := inv_cmp h
  exact ⟨k, h⟩
theorem r_cmpT {op : Cop} (hu : X.A.units + 65 < cLine) (ha : PE X x (wV X.K a)) (hb : PE X y (wV X.K b)) (hm : notSet y = true) : PT X (.Compare x [opC op] [y] pos) (wT X.K (tOf (vCmp op a b))) :=
  (pt_cmpR (oc hu op) ha hb (markPlain hm)).imp fun _ _ _ h => test_reads vCmp_bool (fun _ _ _ => cmp_reads) h
theorem cmp2_reads {K : PySem.W.Frag} {op op2 : Cop} {σ : L2.St} {H : Hp} {Q : VK} (h : wV K (vCmp2 op op2 a b c) σ H Q) : tChain (rC K op) (rC K op2) (wV K a) (wV K b) (wV K c) σ H Q := by
  obtain ⟨Y, e, F, r, e', ok, ev, q⟩ := h
  obtain ⟨r1, e1, r2, e2, p, p', k, h1, h2, d1, d2, hb, hk⟩ := inv_cmp2 ev
  refine ⟨Y, e, F, r1, e1, ok, h1, fun v F1 H1 ok1 st1 rv1 => ⟨Y, e1, F1, r2, e2, ok1, h2, fun u F2 H2 ok2 st2 rv2 =>
    ⟨F2, p, p', k, ok2.sub, (rv1.step st2).view ok2 d1, rv2.view ok2 d2, hb, k, rfl, ?_⟩⟩⟩
  rcases hk with ⟨rfl, rfl, rfl⟩ | ⟨rfl, r3, q1, q2, k2, rfl, h3, d3, d4, hc⟩
  · exact q _ F2 H2 ok2 (st1.trans st2) (.bl _)
  · exact ⟨Y, e2, F2, r3, e', ok2, h3, fun w F3 H3 ok3 st3 rv3 =>
      ⟨F3, q1, q2, k2, ok3.sub, (rv2.step st3).view ok3 d3, rv3.view ok3 d4, hc, q _ F3 H3 ok3 ((st1.trans st2).trans st3) (.bl _)⟩⟩
theorem vCmp2_bool {op op2 : Cop} (e : En) (r : Rv) (e' : En) (h : vCmp2 op op2 a b c e = some (r, e')) : ∃ k, r = .d (.bool k) := by
  obtain ⟨r1, e1, r2, e2, p, p', k, h1, h2, d1, d2, hb, hk⟩ := inv_cmp2 h
  rcases hk with ⟨_, _, h⟩ | ⟨_, _, _, _, k', h, _⟩
  · exact ⟨_, h⟩
  · exact ⟨_, h⟩
theorem r_cmp2 {op op2 : Cop} (hu : X.A.units + 65 < cLine) (ha : PE X x (wV X.K a)) (hb : PE X y (wV X.K b)) (hc : PE X z (wV X.K c)) (hm : notSet y = true) (hm2 : notSet z = true) : PE X (.Compare x [opC op, opC op2] [y, z] pos) (wV X.K (vCmp2 op op2 a b c)) :=
  (pe_chain (oc hu op) (oc hu op2) ha hb hc (markPlain hm2)).imp fun _ _ _ h => cmp2_reads h
theorem r_cmp2T {op op2 : Cop} (hu : X.A.units + 65 < cLine) (ha : PE X x (wV X.K a)) (hb : PE X y (wV X.K b)) (hc : PE X z (wV X.K c)) (hm : notSet y = true) (hm2 : notSet z = true) : PT X (.Compare x [opC op, opC op2] [y, z] pos) (wT X.K (tOf (vCmp2 op op2 a b c))) :=
  (pt_chain (oc hu op) (oc hu op2) ha hb hc (markPlain hm2)).imp fun _ _ _ h => test_reads vCmp2_bool (fun _ _ _ => cmp2_reads) h
/-! ### and, or, not -/
theorem r_and {r : List Expr} (ha : PE X x (wV X.K a)) (hb : PE X (.BoolOp .And (y :: r) pos) (wV X.K b)) : PE X (.BoolOp .And (x :: y :: r) pos) (wV X.K (vAnd a b)) := by
  refine (pe_and ha hb).imp fun σ H Q ⟨Y, e, F, r, e', ok, ev, q⟩ => ?_
  obtain ⟨e1, k, h1, hk⟩ := inv_and ev
  refine ⟨Y, e, F, _, e1, ok, h1, fun v F1 H1 ok1 st1 rv1 => ?_⟩
  cases rv1
  refine ⟨k, rfl, ?_⟩
  rcases hk with ⟨rfl, h2⟩ | ⟨rfl, rfl, rfl⟩
  · rw [if_pos rfl]
    exact ⟨Y, e1, F1, r, e', ok1, h2, fun u F2 H2 ok2 st2 rv2 => q u F2 H2 ok2 (st1.trans st2) (rv2.from st1.stay)⟩
  · rw [if_neg Bool.false_ne_true]
    exact q _ F1 H1 ok1 st1 (.bl _)
theorem r_or {r : List Expr} (ha : PE X x (wV X.K a)) (hb : PE X (.BoolOp .Or (y :: r) pos) (wV X.K b)) : PE X (.BoolOp .Or (x :: y :: r) pos) (wV X.K (vOr a b)) := by
  refine (pe_or ha hb).imp fun σ H Q ⟨Y, e, F, r, e', ok, ev, q⟩ => ?_
  obtain ⟨e1, k, h1, hk⟩ := inv_or ev
  refine ⟨Y, e, F, _, e1, ok, h1, fun v F1 H1 ok1 st1 rv1 => ?_⟩
  cases rv1
  refine ⟨k, rfl, ?_⟩
  rcases hk with ⟨rfl, h2⟩ | ⟨rfl, rfl, rfl⟩
  · rw [if_neg Bool.false_ne_true]
    exact ⟨Y, e1, F1, r, e', ok1, h2, fun u F2 H2 ok2 st2 rv2 => q u F2 H2 ok2 (st1.trans st2) (rv2.from st1.stay)⟩
  · rw [if_pos rfl]
    exact q _ F1 H1 ok1 st1 (.bl _)
theorem r_not (ha : PE X x (wV X.K a)) : PE X (.UnaryOp .Not x pos) (wV X.K (vNot a)) := by
  refine (pe_not ha).imp fun σ H Q ⟨Y, e, F, r, e', ok, ev, q⟩ => ?_
  obtain ⟨k, rfl, h⟩ := inv_not ev
  refine ⟨Y, e, F, _, _, ok, h, fun v F1 H1 ok1 st1 rv1 => ?_⟩
  cases rv1
  exact ⟨k, rfl, q _ F1 H1 ok1 st1 (.bl _)⟩
theorem r_andT {r : List Expr} (ha : PT X x (wT X.K ft)) (hb : PW X (.BoolOp .And (y :: r) pos) (wT X.K ff)) : PW X (.BoolOp .And (x :: y :: r) pos) (wT X.K (tAnd ft ff)) := by
  refine ⟨fun wh pins s σ H Q I h => (pw_and ha hb).run wh pins s σ H Q I ?_⟩
  obtain ⟨Y, e, F, k, e', ok, ev, q⟩ := h
  obtain ⟨e1, c, h1, hk⟩ := inv_tAnd ev
  refine ⟨Y, e, F, c, e1, ok, h1, fun F1 H1 ok1 st1 => ?_⟩
  rcases hk with ⟨rfl, h2⟩ | ⟨rfl, rfl, rfl⟩
  · rw [if_pos rfl]
    exact ⟨Y, e1, F1, k, e', ok1, h2, fun F2 H2 ok2 st2 => q F2 H2 ok2 (st1.trans st2)⟩
  · rw [if_neg Bool.false_ne_true]
    exact q F1 H1 ok1 st1
theorem r_orT {r : List Expr} (ha : PT X x (wT X.K ft)) (hb : PW X (.BoolOp .Or (y :: r) pos) (wT X.K ff)) : PW X (.BoolOp .Or (x :: y :: r) pos) (wT X.K (tOr ft ff)) := by
  refine ⟨fun wh pins s σ H Q I h => (pw_or ha hb).run wh pins s σ H Q I ?_⟩
  obtain ⟨Y, e, F, k, e', ok, ev, q⟩ := h
  obtain ⟨e1, c, h1, hk⟩ := inv_tOr ev
  refine ⟨Y, e, F, c, e1, ok, h1, fun F1 H1 ok1 st1 => ?_⟩
  rcases hk with ⟨rfl, h2⟩ | ⟨rfl, rfl, rfl⟩
  · rw [if_neg Bool.false_ne_true]
    exact ⟨Y, e1, F1, k, e', ok1, h2, fun F2 H2 ok2 st2 => q F2 H2 ok2 (st1.trans st2)⟩
  · rw [if_pos rfl]
    exact q F1 H1 ok1 st1
theorem r_notT (ha : PT X x (wT X.K ft)) : PT X (.UnaryOp .Not x pos) (wT X.K (tNot ft)) := by
  refine (pt_not ha).imp fun σ H Q ⟨Y, e, F, k, e', ok, ev, q⟩ => ?_
  obtain ⟨c, h, rfl⟩ := inv_tNot ev
  exact ⟨Y, e, F, c, e', ok, h, fun F1 H1 ok1 st1 => q F1 H1 ok1 st1⟩
theorem r_ite (hc : PT X z (wT X.K fc)) (ha : PE X x (wV X.K a)) (hb : PE X y (wV X.K b)) : PE X (.IfExp z x y pos) (wV X.K (vIte fc a b)) := by
  refine (pe_ifExp hc ha hb).imp fun σ H Q ⟨Y, e, F, r, e', ok, ev, q⟩ => ?_
  obtain ⟨e1, k, h1, hk⟩ := inv_ite ev
  refine ⟨Y, e, F, k, e1, ok, h1, fun F1 H1 ok1 st1 => ?_⟩
  rcases hk with ⟨rfl, h2⟩ | ⟨rfl, h2⟩
  · rw [if_pos rfl]
    exact ⟨Y, e1, F1, r, e', ok1, h2, fun u F2 H2 ok2 st2 rv2 => q u F2 H2 ok2 (st1.trans st2) (rv2.from st1.stay)⟩
  · rw [if_neg Bool.false_ne_true]
    exact ⟨Y, e1, F1, r, e', ok1, h2, fun u F2 H2 ok2 st2 rv2 => q u F2 H2 ok2 (st1.trans st2) (rv2.from st1.stay)⟩
/-! ### displays, items, slices -/
theorem small_le {ds : List PyData} {vs : List V} {K : PySem.W.Frag} {F : Hp} (h : small ds = true) (r : RpA K F vs ds) : vs.length ≤ sizeLine := by
  rw [r.length]
  exact Nat.le_trans (of_decide_eq_true h) lim_le
theorem r_tup {es : List Expr} {kk : Nat} (h : PA X es (wD X.K fi)) : PE X (.Tuple es kk pos) (wV X.K (vTup fi)) := by
  refine (pe_tup h).imp fun σ H Q ⟨Y, e, F, r, e', ok, ev, q⟩ => ?_
  obtain ⟨ds, rfl, h1, h2⟩ := inv_tup ev
  exact ⟨Y, e, F, ds, e', ok, h1, fun vs F1 H1 ok1 st1 ra => ⟨small_le h2 ra, fun p hp => (res_of (r := .d (.tuple ds)) ok1 st1 (fun _ z => nomatch z) q).newT ok1.sub hp ra⟩⟩
theorem r_lst {es : List Expr} (h : PA X es (wD X.K fi)) : PE X (.List es pos) (wV X.K (vLst fi)) := by
  refine (pe_lst h).imp fun σ H Q ⟨Y, e, F, r, e', ok, ev, q⟩ => ?_
  obtain ⟨ds, rfl, h1, h2⟩ := inv_lst ev
  exact ⟨Y, e, F, ds, e', ok, h1, fun vs F1 H1 ok1 st1 ra => ⟨small_le h2 ra, fun p hp => res_of (r := .own ds) ok1 st1 (fun _ z => nomatch z) q p vs hp ra⟩⟩
theorem atI_rp {K : PySem.W.Frag} {F : Hp} {vs : List V} {xs : List PyData} {k : Int} {d : PyData} (r : RpA K F vs xs) (h : ixD xs k = some d) : ∃ v, atI vs k = some v ∧ Rp K F v d := by
  unfold ixD atI at h
  unfold atI
  rw [r.length]
  cases q : ixN xs.length k with
  | none => rw [q] at h; cases h
  | some j =>
    rw [q] at h
    exact r.get h
theorem r_ix (ha : PE X x (wV X.K a)) (hb : PE X y (wV X.K b)) (hs : notSl y = true) : PE X (.Subscript x y pos) (wV X.K (vIx a b)) := by
  refine ((pe_ix ix_list ha hb (slPlain hs)).or (pe_ix ix_tup ha hb (slPlain hs))).imp fun σ H Q ⟨Y, e, F, r, e', ok, ev, q⟩ => ?_
  obtain ⟨r1, e1, k, xs, d, rfl, h1, h2, d1 | d1, hi⟩ := inv_ix ev
  · refine .inl ⟨Y, e, F, r1, e1, ok, h1, fun v F1 H1 ok1 st1 rv1 => ⟨Y, e1, F1, _, e', ok1, h2, fun u F2 H2 ok2 st2 rv2 => ?_⟩⟩
    cases rv2
    obtain ⟨p, vs, rfl, hp, ra⟩ := ((rv1.step st2).view ok2 d1).list ok2.sub
    obtain ⟨w, h3, h4⟩ := atI_rp ra hi
    exact ⟨p, vs, k, w, rfl, rfl, SqL.of hp, h3, q w F2 H2 ok2 (st1.trans st2) h4⟩
  · refine .inr ⟨Y, e, F, r1, e1, ok, h1, fun v F1 H1 ok1 st1 rv1 => ⟨Y, e1, F1, _, e', ok1, h2, fun u F2 H2 ok2 st2 rv2 => ?_⟩⟩
    cases rv2
    obtain ⟨p, vs, rfl, hp, _, ra⟩ := ((rv1.step st2).view ok2 d1).tup ok2.sub
    obtain ⟨w, h3, h4⟩ := atI_rp ra hi
    exact ⟨p, vs, k, w, rfl, rfl, hp, h3, q w F2 H2 ok2 (st1.trans st2) h4⟩
/-- a slice, by values -/
def rSlc (K : PySem.W.Frag) : V → Option Int → Option Int → Hp → VK → Prop := fun x lo hi H Q => rSlL K x lo hi H Q ∨ rSlA K x lo hi H Q
theorem sl_both : SlR X (rSlc X.K) := sl_list.or sl_tupA
theorem cut_rp {K : PySem.W.Frag} {F : Hp} {vs : List V} {xs : List PyData} {lo hi : Option Int} (r : RpA K F vs xs) : RpA K F (cutV vs lo hi) (cut xs lo hi) := by
  unfold cutV cut
  rw [r.length]
  exact (r.drop _).take _
theorem cut_all {xs : List PyData} {lo hi : Option Int} (h : HT.sIx xs.length 0 lo = 0 ∧ HT.sIx xs.length xs.length hi = xs.length) : cut xs lo hi = xs := by
  unfold cut
  rw [h.1, h.2, List.drop_zero, Nat.sub_zero, List.take_length]
theorem slice_reads {K : PySem.W.Frag} {F H : Hp} {v : V} {d : PyData} {lo hi : Option Int} {r : Rv} {Q : VK} (sb : Sub F H) (vw : Vw K F H v d) (h : slice d lo hi = some r) (q : Res K F H Q r) : rSlc K v lo hi H Q := by
  cases d with
  | list xs =>
    cases h
    obtain ⟨p, vs, rfl, hp, ra⟩ := vw.list sb
    exact .inl ⟨p, vs, rfl, SqL.of hp, fun p' hp' => q p' _ hp' (cut_rp ra)⟩
  | tuple xs =>
    cases h
    obtain ⟨p, vs, rfl, hp, fp, ra⟩ := vw.tup sb
    refine .inr ⟨p, vs, rfl, hp, fun hw => ?_, fun _ p' hp' => q.newT sb hp' (cut_rp ra)⟩
    rw [ra.length] at hw
    rw [cut_all hw] at q
    exact q _ _ _ (Gr.refl sb) (.tup fp ra)
  | _ => cases h
theorem slice_loc {d : PyData} {lo hi : Option Int} {r : Rv} (h : slice d lo hi = some r) : ∀ i, r ≠ .loc i := fun i z => by
  subst z
  cases d <;> cases h
theorem r_slF (ha : PE X x (wV X.K a)) (hb : PE X y (wV X.K b)) : PE X (.Subscript x (.Slice (some y) none none p2) pos) (wV X.K (vSlF a b)) := by
  refine (pe_slice sl_both ha (po_some hb) po_none).imp fun σ H Q ⟨Y, e, F, r, e', ok, ev, q⟩ => ?_
  obtain ⟨r1, e1, k, d, h1, h2, d1, hs⟩ := inv_slF ev
  refine ⟨Y, e, F, r1, e1, ok, h1, fun v F1 H1 ok1 st1 rv1 => ⟨Y, e1, F1, _, e', ok1, h2, fun u F2 H2 ok2 st2 rv2 => ?_⟩⟩
  cases rv2
  exact ⟨k, rfl, slice_reads ok2.sub ((rv1.step st2).view ok2 d1) hs (res_of ok2 (st1.trans st2) (slice_loc hs) q)⟩
theorem r_slT (ha : PE X x (wV X.K a)) (hb : PE X y (wV X.K b)) : PE X (.Subscript x (.Slice none (some y) none p2) pos) (wV X.K (vSlT a b)) := by
  refine (pe_slice sl_both ha po_none (po_some hb)).imp fun σ H Q ⟨Y, e, F, r, e', ok, ev, q⟩ => ?_
  obtain ⟨r1, e1, k, d, h1, h2, d1, hs⟩ := inv_slT ev
  refine ⟨Y, e, F, r1, e1, ok, h1, fun v F1 H1 ok1 st1 rv1 => ⟨Y, e1, F1, _, e', ok1, h2, fun u F2 H2 ok2 st2 rv2 => ?_⟩⟩
  cases rv2
  exact ⟨k, rfl, slice_reads ok2.sub ((rv1.step st2).view ok2 d1) hs (res_of ok2 (st1.trans st2) (slice_loc hs) q)⟩
theorem r_sl (ha : PE X x (wV X.K a)) (hb : PE X y (wV X.K b)) (hc : PE X z (wV X.K c)) : PE X (.Subscript x (.Slice (some y) (some z) none p2) pos) (wV X.K (vSl a b c)) := by
  refine (pe_slice sl_both ha (po_some hb) (po_some hc)).imp fun σ H Q ⟨Y, e, F, r, e', ok, ev, q⟩ => ?_
  obtain ⟨r1, e1, k, e2, l, d, h1, h2, h3, d1, hs⟩ := inv_sl ev
  refine ⟨Y, e, F, r1, e1, ok, h1, fun v F1 H1 ok1 st1 rv1 => ⟨Y, e1, F1, _, e2, ok1, h2, fun u F2 H2 ok2 st2 rv2 => ?_⟩⟩
  cases rv2
  refine ⟨k, rfl, Y, e2, F2, _, e', ok2, h3, fun w F3 H3 ok3 st3 rv3 => ?_⟩
  cases rv3
  exact ⟨l, rfl, slice_reads ok3.sub ((rv1.step (st2.trans st3)).view ok3 d1) hs (res_of ok3 ((st1.trans st2).trans st3) (slice_loc hs) q)⟩
/-! ### arguments -/
theorem r_aNil : PA X [] (wA X.K aNil) := pa_nil.imp fun σ H Q ⟨Y, e, F, rs, e', ok, ev, q⟩ => by
  cases ev
  exact q [] F H ok .refl .nil
theorem r_dNil : PA X [] (wD X.K dNil) := pa_nil.imp fun σ H Q ⟨Y, e, F, rs, e', ok, ev, q⟩ => by
  cases ev
  exact q [] F H ok .refl .nil
theorem r_aCons {es : List Expr} (ha : PE X x (wV X.K a)) (hr : PA X es (wA X.K fa)) (hs : notStar x = true) : PA X (x :: es) (wA X.K (aCons a fa)) := by
  refine (pa_cons ha hr (starPlain hs)).imp fun σ H Q ⟨Y, e, F, rs, e', ok, ev, q⟩ => ?_
  obtain ⟨r1, e1, rs', h1, h2, hk⟩ := inv_aCons ev
  refine ⟨Y, e, F, r1, e1, ok, h1, fun v F1 H1 ok1 st1 rv1 => ?_⟩
  rcases hk with ⟨i, rfl, rfl⟩ | ⟨d, rfl, rfl⟩ | ⟨xs, rfl, rfl⟩
  · exact ⟨Y, e1, F1, rs', e', ok1, h2, fun vs F2 H2 ok2 st2 ra => q _ F2 H2 ok2 (st1.trans st2) (.loc rv1 ra)⟩
  · exact ⟨Y, e1, F1, rs', e', ok1, h2, fun vs F2 H2 ok2 st2 ra => q _ F2 H2 ok2 (st1.trans st2) (.d (Rp.mono st2.grow rv1) ra)⟩
  · obtain ⟨F2, ok2, st2, rp⟩ := frzd (d := .list xs) (e2 := e1) ok ok1 st1 rv1 rfl
    exact ⟨Y, e1, F2, rs', e', ok2, h2, fun vs F3 H3 ok3 st3 ra => q _ F3 H3 ok3 (st2.trans st3) (.d (Rp.mono st3.grow rp) ra)⟩
theorem r_dCons {es : List Expr} (ha : PE X x (wV X.K a)) (hr : PA X es (wD X.K fi)) (hs : notStar x = true) : PA X (x :: es) (wD X.K (dCons a fi)) := by
  refine (pa_cons ha hr (starPlain hs)).imp fun σ H Q ⟨Y, e, F, rs, e', ok, ev, q⟩ => ?_
  obtain ⟨r1, e1, d, e2, ds', h1, h2, h3, rfl⟩ := inv_dCons ev
  refine ⟨Y, e, F, r1, e1, ok, h1, fun v F1 H1 ok1 st1 rv1 => ?_⟩
  obtain ⟨F2, ok2, st2, rp⟩ := frzd ok ok1 st1 rv1 h2
  exact ⟨Y, e2, F2, ds', e', ok2, h3, fun vs F3 H3 ok3 st3 ra => q _ F3 H3 ok3 (st2.trans st3) (.cons (Rp.mono st3.grow rp) ra)⟩
theorem r_fz (ha : PE X x (wV X.K a)) : PE X x (wV X.K (vFz a)) := by
  refine ha.imp fun σ H Q ⟨Y, e, F, r, e', ok, ev, q⟩ => ?_
  obtain ⟨r1, e1, d, rfl, h1, h2⟩ := inv_fz ev
  refine ⟨Y, e, F, r1, e1, ok, h1, fun v F1 H1 ok1 st1 rv1 => ?_⟩
  obtain ⟨F2, ok2, st2, rp⟩ := frzd ok ok1 st1 rv1 h2
  exact q v F2 H1 ok2 st2 rp
end
end De
end

section
set_option maxHeartbeats 4000000
namespace De
open PySem PySem.Spec PyProof.Rows L2

/-! ### plain argument lists -/
theorem starAll {env : Env} : ∀ {xs : List Expr}, xs.all notStar = true → starEach xs env = xs.map fun e => (false, eval e env)
  | [], _ => rfl
  | x :: xs, h => by
    rw [List.all_cons, Bool.and_eq_true] at h
    rw [starPlain h.1, starAll h.2]
    rfl
theorem backAll {env : Env} {pos : Pos} {xs : List Expr} (h : xs.all notStar = true) : (backTo pos (starEach xs env)).any (·.1) = false := by
  rw [starAll h]
  unfold backTo
  rw [List.map_map]
  induction xs with
  | nil => rfl
  | cons x xs ih =>
    rw [List.all_cons, Bool.and_eq_true] at h
    rw [List.map_cons, List.any_cons, ih h.2]
    rfl

/-! ### a call: the callee's state from the caller's -/
section
variable {K : PySem.W.Frag} {Y : Fx} {σ : L2.St} {e e' : En} {F H : Hp}
theorem argAt : ∀ {vs : List V} {rs : List Rv} {svs : List Sv}, RvA K F σ vs rs → argsOf e rs = some svs → svs.length = vs.length ∧ ∀ (i : Nat) (s : Sv), svs[i]? = some s →
    ∃ v r, vs[i]? = some v ∧ rs[i]? = some r ∧ argOf e r = some s ∧ ((∃ x, r = .d x ∧ Rp K F v x) ∨ ∃ j, r = .loc j ∧ σ[j]? = some (some v))
  | [], [], svs, .nil, h => by
    rw [argsOf] at h
    cases h
    exact ⟨rfl, fun i s h => by simp at h⟩
  | v :: vs, r :: rs, svs, q, h => by
    rw [argsOf] at h
    cases h1 : argOf e r with
    | none => rw [h1] at h; cases h
    | some s =>
      rw [h1] at h
      cases h2 : argsOf e rs with
      | none => rw [h2] at h; cases h
      | some l =>
        rw [h2] at h
        cases h
        have key : RvA K F σ vs rs ∧ ((∃ x, r = .d x ∧ Rp K F v x) ∨ ∃ j, r = .loc j ∧ σ[j]? = some (some v)) := by
          cases q with
          | d a b => exact ⟨b, .inl ⟨_, rfl, a⟩⟩
          | loc a b => exact ⟨b, .inr ⟨_, rfl, a⟩⟩
        obtain ⟨l1, l2⟩ := argAt key.1 h2
        refine ⟨congrArg Nat.succ l1, fun i t ht => ?_⟩
        cases i with
        | zero =>
          simp at ht
          subst ht
          exact ⟨v, r, rfl, rfl, h1, key.2⟩
        | succ i =>
          obtain ⟨v', r', a, b, c⟩ := l2 i t (by simpa using ht)
          exact ⟨v', r', by simpa using a, by simpa using b, c⟩
theorem locs_mem : ∀ {rs : List Rv} {k j : Nat}, rs[k]? = some (.loc j) → j ∈ locs rs
  | [], _, _, h => by simp at h
  | .loc i :: rs, 0, j, h => by
    simp at h
    subst h
    exact List.mem_cons_self
  | .loc i :: rs, k + 1, j, h => List.mem_cons_of_mem _ (locs_mem (k := k) (by simpa using h))
  | .d _ :: rs, 0, j, h => by simp at h
  | .own _ :: rs, 0, j, h => by simp at h
  | .d _ :: rs, k + 1, j, h => locs_mem (rs := rs) (k := k) (by simpa using h)
  | .own _ :: rs, k + 1, j, h => locs_mem (rs := rs) (k := k) (by simpa using h)
theorem locs_at : ∀ {rs : List Rv} {j : Nat}, j ∈ locs rs → ∃ k : Nat, rs[k]? = some (Rv.loc j)
  | [], _, h => by cases h
  | .loc i :: rs, j, h => by
    rcases List.mem_cons.mp h with e | h
    · exact ⟨0, by rw [e]; rfl⟩
    · obtain ⟨k, q⟩ := locs_at h
      exact ⟨k + 1, by simpa using q⟩
  | .d _ :: rs, j, h => by
    obtain ⟨k, q⟩ := locs_at (rs := rs) h
    exact ⟨k + 1, by simpa using q⟩
  | .own _ :: rs, j, h => by
    obtain ⟨k, q⟩ := locs_at (rs := rs) h
    exact ⟨k + 1, by simpa using q⟩
theorem locs_inj : ∀ {rs : List Rv} {k l j : Nat}, (locs rs).Nodup → rs[k]? = some (.loc j) → rs[l]? = some (.loc j) → k = l
  | [], _, _, _, _, h, _ => by simp at h
  | r :: rs, 0, 0, _, _, _, _ => rfl
  | .loc i :: rs, 0, l + 1, j, n, h, g => by
    simp at h
    subst h
    exact absurd (locs_mem (rs := rs) (k := l) (by simpa using g)) (List.nodup_cons.mp n).1
  | .loc i :: rs, k + 1, 0, j, n, h, g => by
    simp at g
    subst g
    exact absurd (locs_mem (rs := rs) (k := k) (by simpa using h)) (List.nodup_cons.mp n).1
  | .d _ :: rs, 0, l + 1, j, n, h, g => by simp at h
  | .own _ :: rs, 0, l + 1, j, n, h, g => by simp at h
  | .d _ :: rs, k + 1, 0, j, n, h, g => by simp at g
  | .own _ :: rs, k + 1, 0, j, n, h, g => by simp at g
  | .loc i :: rs, k + 1, l + 1, j, n, h, g => congrArg Nat.succ (locs_inj (rs := rs) (List.nodup_cons.mp n).2 (by simpa using h) (by simpa using g))
  | .d _ :: rs, k + 1, l + 1, j, n, h, g => congrArg Nat.succ (locs_inj (rs := rs) n (by simpa using h) (by simpa using g))
  | .own _ :: rs, k + 1, l + 1, j, n, h, g => congrArg Nat.succ (locs_inj (rs := rs) n (by simpa using h) (by simpa using g))
/-- what backs does -/
structure Bk (e : En) (rs : List Rv) (ss : En) (e' : En) : Prop where
  len : e'.length = e.length
  out : ∀ j, j ∉ locs rs → e'[j]? = e[j]?
  fz : ∀ (j : Nat) (d : Dt), e[j]? = some (Sv.fz d) → e'[j]? = some (Sv.fz d)
  ow : ∀ (k j : Nat) (b : Bool) (xs : List Dt), rs[k]? = some (Rv.loc j) → e[j]? = some (Sv.ow b xs) → ∃ c ys, ss[k]? = some (Sv.ow c ys) ∧ e'[j]? = some (Sv.ow b ys)
  un : ∀ (j : Nat), e[j]? = some Sv.un → e'[j]? = some Sv.un
theorem backs_ok : ∀ {rs : List Rv} {ss e e' : En}, backs e rs ss = some e' → (locs rs).Nodup → Bk e rs ss e'
  | [], ss, e, e', h, _ => by
    rw [backs] at h
    cases h
    exact ⟨rfl, fun _ _ => rfl, fun _ _ h => h, fun k j b xs h => by simp at h, fun _ h => h⟩
  | .d _ :: rs, s :: ss, e, e', h, n => by
    rw [backs] at h
    have q := backs_ok (rs := rs) h n
    refine ⟨q.len, q.out, q.fz, fun k j b xs hk hj => ?_, q.un⟩
    cases k with
    | zero => simp at hk
    | succ k =>
      obtain ⟨c, ys, a, b'⟩ := q.ow k j b xs (by simpa using hk) hj
      exact ⟨c, ys, by simpa using a, b'⟩
  | .own _ :: rs, s :: ss, e, e', h, n => by
    rw [backs] at h
    have q := backs_ok (rs := rs) h n
    refine ⟨q.len, q.out, q.fz, fun k j b xs hk hj => ?_, q.un⟩
    cases k with
    | zero => simp at hk
    | succ k =>
      obtain ⟨c, ys, a, b'⟩ := q.ow k j b xs (by simpa using hk) hj
      exact ⟨c, ys, by simpa using a, b'⟩
  | .d _ :: rs, [], e, e', h, n => by simp [backs] at h
  | .own _ :: rs, [], e, e', h, n => by simp [backs] at h
  | .loc i :: rs, [], e, e', h, n => by simp [backs] at h
  | .loc i :: rs, s :: ss, e, e', h, n => by
    obtain ⟨n1, n2⟩ := List.nodup_cons.mp n
    have hh : (∃ b xs c ys, e[i]? = some (Sv.ow b xs) ∧ s = .ow c ys ∧ backs (e.set i (.ow b ys)) rs ss = some e') ∨ ((∀ b xs, e[i]? ≠ some (Sv.ow b xs)) ∧ backs e rs ss = some e') := by
      rw [backs] at h
      cases q : e[i]? with
      | none => rw [q] at h; exact .inr ⟨fun _ _ z => (nomatch z), h⟩
      | some t =>
        rw [q] at h
        cases t with
        | un => exact .inr ⟨fun _ _ z => (nomatch z), h⟩
        | fz d => exact .inr ⟨fun _ _ z => (nomatch z), h⟩
        | ow b xs =>
          cases s with
          | un => cases h
          | fz d => cases h
          | ow c ys => exact .inl ⟨b, xs, c, ys, rfl, rfl, h⟩
    rcases hh with ⟨b, xs, c, ys, hi, rfl, h'⟩ | ⟨hi, h⟩
    · have q := backs_ok (rs := rs) h' n2
      have ne : ∀ {j : Nat} {t : Sv}, e[j]? = some t → (∀ b xs, t ≠ .ow b xs) → i ≠ j := fun {j t} h1 h2 z => by
        subst z
        rw [hi] at h1
        cases h1
        exact h2 _ _ rfl
      refine ⟨by rw [q.len, List.length_set], fun j hj => ?_, fun j d hj => ?_, fun k j b' xs' hk hj => ?_, fun j hj => ?_⟩
      · have h1 : i ≠ j := fun z => hj (by rw [z]; exact List.mem_cons_self)
        rw [q.out j fun z => hj (List.mem_cons_of_mem _ z), List.getElem?_set_ne h1]
      · refine q.fz j d ?_
        rw [List.getElem?_set_ne (ne hj fun _ _ z => nomatch z)]
        exact hj
      · cases k with
        | zero =>
          simp at hk
          subst hk
          rw [hi] at hj
          cases hj
          refine ⟨c, ys, rfl, ?_⟩
          rw [q.out i n1, List.getElem?_set_self', hi]
          rfl
        | succ k =>
          have hk : rs[k]? = some (.loc j) := by simpa using hk
          have h1 : i ≠ j := fun z => n1 (by rw [z]; exact locs_mem hk)
          obtain ⟨c', ys', a, b''⟩ := q.ow k j b' xs' hk (by rw [List.getElem?_set_ne h1]; exact hj)
          exact ⟨c', ys', by simpa using a, b''⟩
      · refine q.un j ?_
        rw [List.getElem?_set_ne (ne hj fun _ _ z => nomatch z)]
        exact hj
    · have q := backs_ok (rs := rs) h n2
      refine ⟨q.len, fun j hj => q.out j fun z => hj (List.mem_cons_of_mem _ z), q.fz, fun k j b xs hk hj => ?_, q.un⟩
      cases k with
      | zero =>
        simp at hk
        subst hk
        exact absurd hj (hi _ _)
      | succ k =>
        obtain ⟨c, ys, a, b'⟩ := q.ow k j b xs (by simpa using hk) hj
        exact ⟨c, ys, by simpa using a, b'⟩
/-- the addresses that are passed -/
def ioOf : List V → List Sv → List Addr
  | .ref p :: vs, .ow _ _ :: ss => p :: ioOf vs ss
  | _ :: vs, _ :: ss => ioOf vs ss
  | _, _ => []
theorem ioOf_mem : ∀ {vs : List V} {ss : List Sv} {p : Addr}, p ∈ ioOf vs ss ↔ ∃ (i : Nat) (b : Bool) (xs : List Dt), vs[i]? = some (V.ref p) ∧ ss[i]? = some (Sv.ow b xs)
  | [], ss, p => ⟨fun h => by simp [ioOf] at h, fun ⟨i, b, xs, h, _⟩ => by simp at h⟩
  | v :: vs, [], p => ⟨fun h => by simp [ioOf] at h, fun ⟨i, b, xs, _, h⟩ => by simp at h⟩
  | v :: vs, s :: ss, p => by
    have ih := @ioOf_mem vs ss p
    have shift : (∃ (i : Nat) (b : Bool) (xs : List Dt), vs[i]? = some (V.ref p) ∧ ss[i]? = some (Sv.ow b xs)) → ∃ (i : Nat) (b : Bool) (xs : List Dt), (v :: vs)[i]? = some (V.ref p) ∧ (s :: ss)[i]? = some (Sv.ow b xs) := fun ⟨i, b, xs, h1, h2⟩ => ⟨i + 1, b, xs, by simpa using h1, by simpa using h2⟩
    constructor
    · intro h
      have : (p ∈ ioOf vs ss) ∨ ∃ b xs, v = .ref p ∧ s = .ow b xs := by
        cases v <;> cases s <;> first
          | exact .inl h
          | (rcases List.mem_cons.mp h with e | h
             · exact .inr ⟨_, _, by rw [e], rfl⟩
             · exact .inl h)
      rcases this with h | ⟨b, xs, rfl, rfl⟩
      · exact shift (ih.mp h)
      · exact ⟨0, b, xs, rfl, rfl⟩
    · rintro ⟨i, b, xs, h1, h2⟩
      have sub : p ∈ ioOf vs ss → p ∈ ioOf (v :: vs) (s :: ss) := fun h => by
        cases v <;> cases s <;> first
          | exact h
          | exact List.mem_cons_of_mem _ h
      cases i with
      | zero =>
        simp at h1 h2
        subst h1 h2
        exact List.mem_cons_self
      | succ i => exact sub (ih.mpr ⟨i, b, xs, by simpa using h1, by simpa using h2⟩)
theorem RvA.length : ∀ {vs : List V} {rs : List Rv}, RvA K F σ vs rs → vs.length = rs.length
  | _, _, .nil => rfl
  | _, _, .d _ r => congrArg Nat.succ (RvA.length r)
  | _, _, .loc _ r => congrArg Nat.succ (RvA.length r)
theorem entry_ok (k : Ok K Y σ e F H) {vs : List V} {rs : List Rv} {svs : List Sv} (ra : RvA K F σ vs rs) (ha : argsOf e rs = some svs) (hn : (locs rs).Nodup) :
    Ok K ⟨H, F, ioOf vs svs, pnOf vs svs⟩ (vs.map some) svs F H ∧ (∀ (i : Nat) (r : Sv), svs[i]? = some r → r ≠ Sv.un) ∧
    (∀ p ∈ ioOf vs svs, ∃ (i j : Nat) (b : Bool) (xs : List Dt), rs[i]? = some (Rv.loc j) ∧ svs[i]? = some (Sv.ow true xs) ∧ vs[i]? = some (V.ref p) ∧ e[j]? = some (Sv.ow b xs) ∧ σ[j]? = some (some (V.ref p))) ∧
    (∀ (i j : Nat) (b : Bool) (xs : List Dt), rs[i]? = some (Rv.loc j) → e[j]? = some (Sv.ow b xs) → svs[i]? = some (Sv.ow true xs) ∧ ∃ v, vs[i]? = some v ∧ σ[j]? = some (some v)) := by
  obtain ⟨hl, at'⟩ := argAt ra ha
  -- an own argument's slot
  have own : ∀ (i : Nat) (b : Bool) (xs : List Dt), svs[i]? = some (Sv.ow b xs) → ∃ v j b', vs[i]? = some v ∧ rs[i]? = some (Rv.loc j) ∧ b = true ∧ e[j]? = some (Sv.ow b' xs) ∧ σ[j]? = some (some v) := fun i b xs h => by
    obtain ⟨v, r, h1, h2, h3, h4⟩ := at' i _ h
    rcases h4 with ⟨x, rfl, _⟩ | ⟨j, rfl, h5⟩
    · cases h3
    · have h3 : (match e[j]? with
        | some (.fz d) => some (.fz d)
        | some (.ow _ xs) => some (.ow true xs)
        | _ => none) = some (Sv.ow b xs) := h3
      cases q : e[j]? with
      | none => rw [q] at h3; cases h3
      | some t =>
        rw [q] at h3
        cases t with
        | un => cases h3
        | fz d => cases h3
        | ow b' ys =>
          cases h3
          exact ⟨v, j, b', h1, h2, rfl, q, h5⟩
  have mp : ∀ (i : Nat) (v : V), vs[i]? = some v → (vs.map some)[i]? = some (some v) := fun i v h => by simp [h]
  have mp' : ∀ (i : Nat) (v : V), (vs.map some)[i]? = some (some v) → vs[i]? = some v := fun i v h => by
    rw [List.getElem?_map] at h
    cases q : vs[i]? with
    | none => rw [q] at h; cases h
    | some w => rw [q] at h; cases h; rfl
  refine ⟨⟨by rw [List.length_map]; exact hl, k.sub, fun i d h => ?_, fun i b xs h => ?_, fun i j p ⟨⟨b, xs, h1⟩, h2⟩ ⟨⟨b', xs', h3⟩, h4⟩ => ?_, Sub.refl _, fun a h => .inl h, fun a o h _ => h, fun a h => h, fun i v h => ?_⟩, fun i r h z => ?_, fun p hp => ?_, fun i j b xs h1 h2 => ?_⟩
  · obtain ⟨v, r, h1, h2, h3, h4⟩ := at' i _ h
    refine ⟨v, mp i v h1, ?_⟩
    rcases h4 with ⟨x, rfl, h5⟩ | ⟨j, rfl, h5⟩
    · cases h3
      exact h5
    · have h3 : (match e[j]? with
        | some (.fz d) => some (.fz d)
        | some (.ow _ xs) => some (.ow true xs)
        | _ => none) = some (Sv.fz d) := h3
      cases q : e[j]? with
      | none => rw [q] at h3; cases h3
      | some t =>
        rw [q] at h3
        cases t with
        | un => cases h3
        | fz d' =>
          cases h3
          obtain ⟨u, h6, h7⟩ := k.fz j _ q
          rw [h5] at h6
          cases h6
          exact h7
        | ow b' ys => cases h3
  · obtain ⟨v, j, b', h1, h2, rfl, h3, h4⟩ := own i b xs h
    obtain ⟨p, ws, h5, h6, h7, h8, _⟩ := k.ow j b' xs h3
    rw [h4] at h5
    cases h5
    exact ⟨p, ws, mp i _ h1, h6, h7, h8, .inr ⟨rfl, ioOf_mem.mpr ⟨i, _, _, h1, h⟩⟩⟩
  · obtain ⟨v, a, c, h5, h6, rfl, h7, h8⟩ := own i b xs h1
    obtain ⟨v', a', c', h5', h6', rfl, h7', h8'⟩ := own j b' xs' h3
    have e1 := mp' i _ h2
    have e2 := mp' j _ h4
    rw [h5] at e1
    rw [h5'] at e2
    cases e1
    cases e2
    have := k.inj a a' p ⟨⟨_, _, h7⟩, h8⟩ ⟨⟨_, _, h7'⟩, h8'⟩
    subst this
    exact locs_inj hn h6 h6'
  · have h : (match svs[i]? with
      | some (.ow true _) => vs[i]?
      | _ => none) = some v := h
    cases q : svs[i]? with
    | none => rw [q] at h; cases h
    | some t =>
      rw [q] at h
      cases t with
      | un => cases h
      | fz d => cases h
      | ow b xs =>
        cases b with
        | false => cases h
        | true => exact ⟨mp i v h, xs, rfl⟩
  · subst z
    obtain ⟨v, r, h1, h2, h3, h4⟩ := at' i _ h
    rcases h4 with ⟨x, rfl, h5⟩ | ⟨j, rfl, h5⟩
    · cases h3
    · have h3 : (match e[j]? with
        | some (.fz d) => some (.fz d)
        | some (.ow _ xs) => some (.ow true xs)
        | _ => none) = some Sv.un := h3
      split at h3 <;> cases h3
  · obtain ⟨i, b, xs, h1, h2⟩ := ioOf_mem.mp hp
    obtain ⟨v, j, b', h3, h4, rfl, h5, h6⟩ := own i b xs h2
    rw [h1] at h3
    cases h3
    exact ⟨i, j, b', xs, h4, h2, h1, h5, h6⟩
  · have hlen : i < svs.length := by
      rw [hl, ra.length]
      obtain ⟨q, _⟩ := List.getElem?_eq_some_iff.mp h1
      exact q
    obtain ⟨v, r, h3, h4, h5, h6⟩ := at' i _ (List.getElem?_eq_getElem hlen)
    rw [h1] at h4
    cases h4
    have h5 : (match e[j]? with
        | some (.fz d) => some (.fz d)
        | some (.ow _ xs) => some (.ow true xs)
        | _ => none) = some svs[i] := h5
    rw [h2] at h5
    injection h5 with h5
    refine ⟨by rw [List.getElem?_eq_getElem hlen, ← h5], v, h3, ?_⟩
    rcases h6 with ⟨x, z, _⟩ | ⟨j', z, h6⟩
    · cases z
    · cases z
      exact h6
theorem call_ok (k : Ok K Y σ e F H) {vs : List V} {rs : List Rv} {svs : List Sv} {σ' : L2.St} {ec : En} {F' H' : Hp} {v : V} {r : Rv} (ra : RvA K F σ vs rs) (ha : argsOf e rs = some svs) (hn : (locs rs).Nodup)
    (hb : backs e rs ec = some e') (hr : ∀ i, r ≠ .loc i) (kc : Ok K ⟨H, F, ioOf vs svs, pnOf vs svs⟩ σ' ec F' H') (rv : RvOk K H σ' ec F' H' v r) :
    Ok K Y σ e' F' H' ∧ Step σ e F H e' F' H' ∧ RvOk K H σ e' F' H' v r := by
  obtain ⟨_, _, io, inw⟩ := entry_ok k ra ha hn
  have bk := backs_ok hb hn
  -- own slots are the same
  have own : ∀ i p, OwnAt σ e' i p → OwnAt σ e i p := fun i p ⟨⟨b, xs, h1⟩, h2⟩ => by
    refine ⟨?_, h2⟩
    by_cases hi : i ∈ locs rs
    · cases q : e[i]? with
      | none =>
        have h3 := (List.getElem?_eq_none_iff.mp q)
        rw [← bk.len] at h3
        rw [List.getElem?_eq_none_iff.mpr h3] at h1
        cases h1
      | some t =>
        cases t with
        | un => rw [bk.un i q] at h1; cases h1
        | fz d => rw [bk.fz i d q] at h1; cases h1
        | ow b ys => exact ⟨_, _, rfl⟩
    · rw [bk.out i hi] at h1
      exact ⟨_, _, h1⟩
  have ioown : ∀ p ∈ ioOf vs svs, ∃ j b xs, e[j]? = some (Sv.ow b xs) ∧ OwnAt σ e j p ∧ j ∈ locs rs := fun p hp => by
    obtain ⟨i, j, b, xs, h1, _, _, h4, h5⟩ := io p hp
    exact ⟨j, b, xs, h4, ⟨⟨_, _, h4⟩, h5⟩, locs_mem h1⟩
  have grow : Sub F F' := kc.grow0
  have new : ∀ a, F' a ≠ none → F a ≠ none ∨ H a = none := fun a h => kc.new0 a h
  have keep : ∀ a o, H a = some o → (∀ i, ¬ OwnAt σ e i a) → H' a = some o := fun a o h n => kc.keep0 a o h fun hp => by
    obtain ⟨j, _, _, _, q, _⟩ := ioown a hp
    exact n j q
  have noF : ∀ {p : Addr} {ws : List V}, H p = some (.lst ws) → F p = none → F' p = none := fun {p ws} h1 h2 => by
    refine Classical.byContradiction fun q => ?_
    rcases new p q with z | z
    · exact z h2
    · rw [h1] at z; cases z
  refine ⟨⟨bk.len.trans k.len, kc.sub, fun i d h => ?_, fun i b xs h => ?_, fun i j p h1 h2 => k.inj i j p (own i p h1) (own j p h2), k.grow0.trans grow, fun a h => ?_, fun a o h n => ?_, fun a h => kc.stay0 a (k.stay0 a h), fun i v h => ?_⟩,
    ⟨bk.len, grow, keep, fun a h => (new a h).elim .inl fun z => .inr (.inl z), own, kc.stay0⟩, ?_⟩
  · have hz : e[i]? = some (.fz d) := by
      cases q : e[i]? with
      | none =>
        have h3 := (List.getElem?_eq_none_iff.mp q)
        rw [← bk.len] at h3
        rw [List.getElem?_eq_none_iff.mpr h3] at h
        cases h
      | some t =>
        cases t with
        | un => rw [bk.un i q] at h; cases h
        | fz d' => rw [bk.fz i d' q] at h; cases h; rfl
        | ow b ys =>
          by_cases hi : i ∈ locs rs
          · obtain ⟨kk, hk⟩ := locs_at hi
            obtain ⟨_, _, _, q2⟩ := bk.ow kk i b ys hk q
            rw [q2] at h
            cases h
          · rw [bk.out i hi, q] at h
            cases h
    obtain ⟨v, h1, h2⟩ := k.fz i d hz
    exact ⟨v, h1, h2.mono grow⟩
  · by_cases hi : i ∈ locs rs
    · obtain ⟨kk, hk⟩ := locs_at hi
      obtain ⟨p, hp⟩ : ∃ p, σ[i]? = some (some (V.ref p)) ∧ ∃ b ys, e[i]? = some (Sv.ow b ys) := by
        cases q : e[i]? with
        | none =>
          have h3 := (List.getElem?_eq_none_iff.mp q)
          rw [← bk.len] at h3
          rw [List.getElem?_eq_none_iff.mpr h3] at h
          cases h
        | some t =>
          cases t with
          | un => rw [bk.un i q] at h; cases h
          | fz d' => rw [bk.fz i d' q] at h; cases h
          | ow b ys =>
            obtain ⟨p, ws, h1, _⟩ := k.ow i b ys q
            exact ⟨p, h1, _, _, rfl⟩
      obtain ⟨hp, b0, ys, he⟩ := hp
      obtain ⟨q1, v, q2, q3⟩ := inw kk i b0 ys hk he
      rw [hp] at q3
      cases q3
      obtain ⟨c, zs, q4, q5⟩ := bk.ow kk i b0 ys hk he
      rw [q5] at h
      cases h
      obtain ⟨q6, us, q7⟩ := kc.pin kk (.ref p) (show (match svs[kk]? with
        | some (.ow true _) => vs[kk]?
        | _ => none) = some (V.ref p) from by rw [q1]; exact q2)
      rw [q4] at q7
      cases q7
      obtain ⟨p', ws, r1, r2, r3, r4, _⟩ := kc.ow kk true _ q4
      rw [q6] at r1
      cases r1
      obtain ⟨p'', ws', s1, _, _, _, s5⟩ := k.ow i _ _ he
      rw [hp] at s1
      cases s1
      exact ⟨p, ws, hp, r2, r3, r4, s5⟩
    · rw [bk.out i hi] at h
      obtain ⟨p, ws, h1, h2, h3, h4, h5⟩ := k.ow i b xs h
      refine ⟨p, ws, h1, ?_, noF h2 h3, h4.mono grow, h5⟩
      refine kc.keep0 p _ h2 fun hp => ?_
      obtain ⟨j, _, _, _, q, hj⟩ := ioown p hp
      have := k.inj i j p ⟨⟨_, _, h⟩, h1⟩ q
      subst this
      exact hi hj
  · rcases new a h with z | z
    · exact k.new0 a z
    · exact .inr (Classical.byContradiction fun q => k.stay0 a q z)
  · refine kc.keep0 a o (k.keep0 a o h n) fun hp => ?_
    obtain ⟨j, b, xs, q, q2, _⟩ := ioown a hp
    obtain ⟨p, ws, h1, _, _, _, h5⟩ := k.ow j b xs q
    rw [q2.2] at h1
    cases h1
    rcases h5 with ⟨_, h5⟩ | ⟨_, h5⟩
    · rw [h] at h5; cases h5
    · exact n h5
  · obtain ⟨h1, xs, h2⟩ := k.pin i v h
    refine ⟨h1, ?_⟩
    by_cases hi : i ∈ locs rs
    · obtain ⟨kk, hk⟩ := locs_at hi
      obtain ⟨_, ys, _, q⟩ := bk.ow kk i _ _ hk h2
      exact ⟨ys, q⟩
    · exact ⟨xs, by rw [bk.out i hi]; exact h2⟩
  · cases r with
    | d d => exact rv
    | loc i => exact absurd rfl (hr i)
    | own xs =>
      obtain ⟨p, ws, h1, h2, h3, h4, h5, h6⟩ := rv
      exact ⟨p, ws, h1, h2, h3, h4, fun i q => k.noOwn h4 i (own i p q), h6⟩
end
theorem run_noloc {M : Nat} {P : List Df} {k f : Nat} {svs : List Sv} {r : Rv} {ec : En} (h : run M P k f svs = some (r, ec)) : ∀ i, r ≠ .loc i := fun i z => by
  subst z
  cases k with
  | zero => cases h
  | succ k =>
    rw [run] at h
    split at h
    · unfold runD at h
      repeat' split at h
      all_goals cases h
    · cases h
section
variable {X : Cx} {G : Pg} {k : Nat} {N : List Str} {sc : Scope} {f : Nat} {x : Str} {p pos : Pos} {es : List Expr} {fa : FA}
theorem call_reads {σ : L2.St} {H : Hp} {Q : VK} {E : XK} (h : wV X.K (vCall (run G.M G.P k f) fa) σ H Q) : tCall (spD X.K G k f) [] E (wA X.K fa) σ H Q := by
  obtain ⟨Y, e, F, r, e', ok, ev, q⟩ := h
  obtain ⟨rs, e1, svs, ec, h1, h2, h3, h4, h5⟩ := inv_call ev
  refine ⟨Y, e, F, rs, e1, ok, h1, fun vs F1 H1 ok1 st1 ra => ?_⟩
  show spD X.K G k f (vs ++ []) H1 Q E
  rw [List.append_nil]
  obtain ⟨en, nu, _, _⟩ := entry_ok ok1 ra h2 h3
  refine ⟨F1, _, svs, r, ec, en, h4, nu, fun v F' H' σ' kc rv => ?_⟩
  obtain ⟨a, b, c⟩ := call_ok ok1 ra h2 h3 h5 (run_noloc h4) kc rv
  exact q v F' H' a (st1.trans b) (c.from st1.stay)
theorem r_call {y : Expr} (C : Cy G k N X sc) (ha : PA X (y :: es) (wA X.K fa)) (hs : (y :: es).all notStar = true) (hn : G.nm[f]? = some x) (hg : glO sc x = true) (hf : (G.P[f]?).isSome = true) :
    PE X (.Call (.Name x p) (y :: es) [] pos) (wV X.K (vCall (run G.M G.P k f) fa)) := by
  cases hd : G.P[f]? with
  | none => rw [hd] at hf; cases hf
  | some d =>
    obtain ⟨x', fa', fd, ps, h1, h2, h3, h4, h5⟩ := C.fn f d hd
    rw [hn] at h1
    cases h1
    obtain ⟨g1, g2⟩ := C.gl' hg
    rw [List.all_cons, Bool.and_eq_true] at hs
    exact (pe_call (E := fun _ _ _ => False) h5 C.room g1 h2 h3 h4 .nil (fun _ _ _ _ _ _ _ z => False.elim z) ha g2 (starPlain hs.1) (backAll hs.2)).imp fun _ _ _ h => call_reads h
theorem r_call0 (C : Cy G k N X sc) (hn : G.nm[f]? = some x) (hg : glO sc x = true) (hf : (G.P[f]?).isSome = true) :
    PE X (.Call (.Name x p) [] [] pos) (wV X.K (vCall (run G.M G.P k f) aNil)) := by
  cases hd : G.P[f]? with
  | none => rw [hd] at hf; cases hf
  | some d =>
    obtain ⟨x', fa', fd, ps, h1, h2, h3, h4, h5⟩ := C.fn f d hd
    rw [hn] at h1
    cases h1
    obtain ⟨g1, g2⟩ := C.gl' hg
    refine (pe_call0 (E := fun _ _ _ => False) h5 C.room g1 h2 h3 h4 .nil (fun _ _ _ _ _ _ _ z => False.elim z) g2).imp fun σ H Q h => ?_
    obtain ⟨Y, e, F, rs, e', ok, ev, q⟩ := call_reads (E := fun _ _ _ => False) h
    cases ev
    exact q [] F H ok .refl .nil
end
end De
end

section
set_option maxHeartbeats 4000000
namespace De
open PySem PySem.Spec PyProof.Rows L2
open PySem.AutoSeq1 (wpAny_loadPart')
theorem meets_enumT (l : Addr) (items : Array Value) (n : Nat) (dct : Option Addr) (sl : Array (Option Value)) :
    Meets (Builtin.«enumerate.__new__» ⟨[.type "enumerate", .ref l], []⟩) (fun _ R s => s.heap.get? l = some { cls := .type "tuple", dict := dct, data := .seq items n, slots := sl } ∧
      R (.ok (.ret (.ref (s.heap.push { cls := .type "tuple_iterator", data := .fields #[.ref l, .int 0 0] }).objs.size)))
        { s with heap := (s.heap.push { cls := .type "tuple_iterator", data := .fields #[.ref l, .int 0 0] }).push { cls := .type "enumerate", data := .fields #[.none, .bool false, .ref s.heap.objs.size, rawInt 0, .none, .none] } }) :=
  .of_wp fun prog w A R s h => by
    obtain ⟨hp, g, d, tk, os⟩ := s; obtain ⟨hl, h⟩ := h
    have hsub := sub_enumerate
    have hL : Heap.IsTuple (Shared.heap ⟨hp, g, d, tk, os⟩) l items := ⟨_, hl, rfl, n, rfl⟩
    wp_walk using wpAny_loadPart' hl
    refine wpAny_stack_any fun st => wpAny_pure ?_
    split
    · rename_i c _ _ _ _ _
      cases (c == Value.type "enumerate")
      · wp_walk using wpAny_loadPart' hl, wpAny_pyIter_tuple hL
        exact ⟨_, rfl, h⟩
      · wp_walk using wpAny_loadPart' hl, wpAny_pyIter_tuple hL
        exact ⟨_, rfl, h⟩
    · wp_walk using wpAny_loadPart' hl, wpAny_pyIter_tuple hL
      exact ⟨_, rfl, h⟩
section
variable {prog : Program} {w : World} {A : Around} {E : Value → Shared → Prop} {s : Shared}
theorem call_enumT {l : Addr} {items : Array Value} {Q : Value → Shared → Prop} (hL : s.heap.IsTuple l items)
    (h : ∀ h', IsEnum h' (s.heap.objs.size + 1) s.heap.objs.size 0 .none → h'.IsTupleIter s.heap.objs.size l 0 → h'.objs.size = s.heap.objs.size + 2 →
      (∀ b o, s.heap.get? b = some o → h'.get? b = some o) → Q (.ref (s.heap.objs.size + 1)) { s with heap := h' }) :
    wpAny (model prog w) A (call (.type "enumerate") [.ref l]) Q E s := by
  obtain ⟨⟨c, dct, dt, sl⟩, hl, hc, n, hd⟩ := hL
  replace hc : c = .type "tuple" := hc
  replace hd : dt = .seq items n := hd
  subst hc hd
  refine callType_new F.called_enumerate (by decide) (F.typeCall_enumerate_1 _) (F.newCall_enumerate_1 _) (fun obj => F.args_object_init_2 obj _) F.entry_enumerate_new
    (meets_enumT l items n dct sl) ⟨hl, ?_⟩
  have hz : (s.heap.push { cls := .type "tuple_iterator", data := .fields #[.ref l, .int 0 0] }).objs.size = s.heap.objs.size + 1 := Heap.size_push ..
  show _ ∧ _
  rw [hz]
  have he : IsEnum ((s.heap.push { cls := .type "tuple_iterator", data := .fields #[.ref l, .int 0 0] }).push
      { cls := .type "enumerate", data := .fields #[.none, .bool false, .ref s.heap.objs.size, rawInt 0, .none, .none] }) (s.heap.objs.size + 1) s.heap.objs.size 0 .none := by
    have := Heap.get?_push_size (s.heap.push { cls := .type "tuple_iterator", data := .fields #[.ref l, .int 0 0] })
      (o := { cls := .type "enumerate", data := .fields #[.none, .bool false, .ref s.heap.objs.size, rawInt 0, .none, .none] }) rfl
    rw [hz] at this; exact this
  refine ⟨⟨_, he, rfl⟩, h _ he ⟨_, Heap.get?_push_of_some _ (Heap.get?_push_size _ rfl), rfl, rfl⟩ (by rw [Heap.size_push, hz]) fun b o x => Heap.get?_push_of_some _ (Heap.get?_push_of_some _ x)⟩
end
/-- the tuple at a, each item in a new pair -/
def IteT (K : PySem.W.Frag) (a : Addr) : It :=
  ⟨fun i H => ∃ (xs : List V) (x : V), SqT K H a xs ∧ xs[i]? = some x, fun i H v H' => ∃ T x, v = .ref T ∧ H T = none ∧ H' = upd H T (.tup [.int (i : Nat), x]) ∧ ∀ xs, SqT K H a xs → xs[i]? = some x, fun i H => ∃ xs : List V, SqT K H a xs ∧ xs.length = i⟩
theorem turn_enumT {P : Program} {w : World} {K : PySem.W.Frag} {elts : List Expr} {kk : Nat} {tpos : Pos} (a e it : Addr) (hae : a ≠ e) (hai : a ≠ it) :
    Turn P w K (.Tuple elts kk tpos) (IteT K a) [e, it] e (fun i h => (∃ old, IsEnum h e it ((i : Nat) : Int) old) ∧ h.IsTupleIter it a i ∧ e ≠ it) where
  mem := by simp
  obj := fun i h st b hb => by
    obtain ⟨⟨old, he⟩, ⟨o, ho, hc, hd⟩, _⟩ := st
    have e' : b = e ∨ b = it := by simpa using hb
    rcases e' with z | z
    · rw [z]; exact ⟨_, he, fun v q => nomatch q⟩
    · rw [z]; exact ⟨o, ho, fun v q => by rw [hd] at q; cases q⟩
  keep := fun i h h' st k => let ⟨⟨old, he⟩, hi, hne⟩ := st; ⟨⟨old, k e (by simp) _ he⟩, hi.at fun o q => k it (by simp) o q, hne⟩
  item := by
    intro X hP hw hK hc i pins s σ H E I hf st hg
    subst hP hw hK
    obtain ⟨⟨old, he⟩, hit, hne⟩ := st
    obtain ⟨xs, x, hq, hx⟩ := hg
    obtain ⟨its, rv, p, hz⟩ := I.tuple hq
    obtain ⟨u, hu, ru⟩ := rv.get hx
    have hel : e < s.heap.objs.size := Heap.lt_size he
    have hil : it < s.heap.objs.size := by obtain ⟨_, q, _⟩ := hit; exact Heap.lt_size q
    have hh : X.A.in1.handled = none := I.ok.hd hc
    have D := Draws.tuple (prog := X.prog) (w := X.w) (A := X.A.in1) hh it a hai its.toArray
    have hlt : i < its.toArray.size := by
      rw [List.size_toArray]
      exact (List.getElem?_eq_some_iff.mp hu).1
    refine wpAny_pyNext_enum_itemD D he ⟨hit, p⟩ hlt hne (by simp [hne, Ne.symm hae]) fun y h' tk hy ho hit' hT hsz hk => ?_
    obtain rfl : u = y := by
      have hy : its.toArray[i]? = some y := hy
      have : its[i]? = some y := by simpa using hy
      rw [hu] at this
      exact Option.some.inj this
    refine ⟨_, rfl, wpAny_letOwnedTupleGo_enum (s := { s with heap := h', toks := tk + 1 }) ho fun h'' he' sb => ?_⟩
    have hT2 : h''.get? s.heap.objs.size = some { cls := .type "tuple", data := .seq #[.int i tk, u] } := (sb.2 _ (Nat.ne_of_gt hel)).trans hT
    have new : ObjOk X.prog X.w (upd H s.heap.objs.size (.tup [.int (i : Nat), x])) h'' s.heap.objs.size (.tup [.int (i : Nat), x]) :=
      ⟨by show 2 ≤ sizeLine; decide, [.int i tk, u], .cons ⟨_, rfl⟩ (.cons ru .nil), ⟨_, hT2, rfl, _, rfl⟩⟩
    have I1 : Inv X pins σ (upd H s.heap.objs.size (.tup [.int (i : Nat), x])) { s with heap := h'', toks := tk + 1 } :=
      I.turnedNew (ch := [e, it]) (fun b ob hb q => (sb.2 b (fun z => hb (by simp [z]))).trans (hk b ob (fun z => hb (by simp [z])) (fun z => hb (by simp [z])) q)) hf (Nat.le_refl _) new
    refine ⟨.ref s.heap.objs.size, _, I1, rfl, ⟨_, x, rfl, I.hok.fresh (Nat.le_refl _), rfl, fun ys hy => by rw [I.tuple_inj hy hq]; exact hx⟩, ⟨⟨u, ?_⟩, hit'.1.at fun o q => (sb.2 it (Ne.symm hne)).trans q, hne⟩, fun b hb => ?_⟩
    · have e1 : ((i + 1 : Nat) : Int) = (i : Int) + 1 := by omega
      rw [e1]; exact he'
    · have hb' : b < s.heap.objs.size := by
        have e' : b = e ∨ b = it := by simpa using hb
        rcases e' with z | z
        · rw [z]; exact hel
        · rw [z]; exact hil
      rw [upd_ne (Nat.ne_of_lt hb')]
      exact (hf b hb).1
  done := by
    intro X hP hw hK hc i pins s σ H E I hf st hg
    subst hP hw hK
    obtain ⟨⟨old, he⟩, hit, hne⟩ := st
    obtain ⟨xs, hq, hx⟩ := hg
    obtain ⟨its, rv, p, hz⟩ := I.tuple hq
    obtain ⟨f0, f1, f2, f3, f4, f5⟩ := hf it (by simp)
    have hl := rv.length
    have hh : X.A.in1.handled = none := I.ok.hd hc
    have D := Draws.tuple (prog := X.prog) (w := X.w) (A := X.A.in1) hh it a hai its.toArray
    have hs : i = its.toArray.size := by
      rw [List.size_toArray]
      omega
    subst hs
    exact wpAny_pyNext_enum_endD D he ⟨hit, p⟩ fun h' eb => ⟨rfl, I.turned (t' := s.toks) (fun b o hb q => eb b o hb q) f0 f1 f3 f4 f5⟩
  self := fun A i s Q E st h => let ⟨⟨_, he⟩, _⟩ := st; wpAny_pyIter_enum he h
def iEnT (K : PySem.W.Frag) (ta : TA) : TI := fun σ H R => ta σ H fun vs H1 => ∃ a xs, vs = [.ref a] ∧ SqT K H1 a xs ∧ R (IteT K a) H1
theorem pi_enumT {X : Cx} {e : Expr} {ta : TA} {p pos tpos : Pos} {elts : List Expr} {kk : Nat} (hg : Gl X "enumerate") (hm : X.mg "enumerate" = none) (ha : PA X [e] ta) (hs : starEach [e] X.env = [(false, eval e X.env)] := by rfl) :
    PI X (.Tuple elts kk tpos) (.Call (.Name "enumerate" p) [e] [] pos) (iEnT X.K ta) := by
  refine ⟨fun pins s σ H R I h => ?_⟩
  refine Call_ (ld_blt I hg hm boot_enumerate (PyProof.Rows.callWith_type1 (thn (ha.run pos pins s σ H _ I h) fun us s1 ⟨vs, H1, I1, r1, q1⟩ => ?_) hs rfl))
  obtain ⟨a, xs, ex, hq, q⟩ := q1
  subst ex
  cases r1 with
  | cons r rr =>
    cases rr
    cases r
    obtain ⟨its, rv, p', hz⟩ := I1.tuple hq
    have hlt : a < s1.heap.objs.size := by
      obtain ⟨o, ho, _⟩ := id p'
      exact Heap.lt_size ho
    refine call_enumT (show s1.heap.IsTuple a its.toArray from p') fun h' he hit hsz hk => wpAny_pyIter_enum he ?_
    have I2 : Inv X pins σ H1 { s1 with heap := h' } := I1.kept (t' := s1.toks) hk
    refine ⟨s1.heap.objs.size + 1, [s1.heap.objs.size + 1, s1.heap.objs.size], _, _, H1, rfl, I2, turn_enumT a (s1.heap.objs.size + 1) s1.heap.objs.size (Nat.ne_of_lt (Nat.lt_succ_of_lt hlt)) (Nat.ne_of_lt hlt), ⟨⟨.none, he⟩, hit, Nat.succ_ne_self _⟩, fun b hb => ?_, q⟩
    have e' : b = s1.heap.objs.size + 1 ∨ b = s1.heap.objs.size := by simpa using hb
    have hle : s1.heap.objs.size ≤ b := by
      rcases e' with z | z
      · rw [z]; exact Nat.le_add_right _ _
      · rw [z]; exact Nat.le_refl _
    exact I1.fpOk hle (I1.hok.fresh hle)
end De
end

section
set_option maxHeartbeats 4000000
namespace De
open PySem PySem.Spec PyProof.Rows L2

section
variable {X : Cx} {G : Pg} {k : Nat} {N : List Str} {sc : Scope} {x y z : Expr} {a b c : FV} {fi fi2 : FI} {p pos ap p1 p2 p3 : Pos}
theorem r_rev {j : Nat} (ha : PE X x (wV X.K a)) : PE X (.Subscript x (.Slice none none (some (.UnaryOp .USub (.Constant (.int 1) j p1) p2)) p3) pos) (wV X.K (vRev a)) := by
  refine (pe_revL ha).imp fun σ H Q ⟨Y, e, F, r, e', ok, ev, q⟩ => ?_
  obtain ⟨r1, xs, h1, h2, rfl⟩ := inv_rev ev
  refine ⟨Y, e, F, r1, e', ok, h1, fun v F1 H1 ok1 st1 rv1 => ?_⟩
  obtain ⟨p, vs, rfl, hp, ra⟩ := (rv1.view ok1 h2).list ok1.sub
  exact ⟨p, vs, rfl, SqL.of hp, fun p' hp' => res_of (r := .own xs.reverse) ok1 st1 (fun _ z => nomatch z) q p' _ hp' ra.reverse⟩
/-! ### built-ins -/
theorem boot_bl (b : Blt) : bootBuiltins (Str.ofString (nmB b)) = some (valB b) := by
  cases b <;> decide +kernel
theorem nm_in (b : Blt) : Str.ofString (nmB b) ∈ bltNames := by
  cases b <;> decide +kernel
theorem nm_ne (b : Blt) : Str.ofString (nmB b) ≠ ("__name__" : Str) := by
  cases b <;> decide +kernel
/-- a call of a built-in, function or type -/
theorem pe_blt (C : Cy G k N X sc) {bl : Blt} {e : Expr} {es : List Expr} {t : TA} (hg : glO sc (Str.ofString (nmB bl)) = true) (ha : PA X (e :: es) t) (hs : (e :: es).all notStar = true) :
    PE X (.Call (.Name (Str.ofString (nmB bl)) p) (e :: es) [] pos) (tCB (rBl X.K bl) t) := by
  obtain ⟨g1, g2⟩ := C.gl' hg
  have hc := cb C.calm bl (X := X)
  have hb := boot_bl bl
  rw [List.all_cons, Bool.and_eq_true] at hs
  unfold valB at hc hb
  by_cases q : isTy bl = true
  · rw [if_pos q] at hc hb
    exact pe_callTy hc g1 (C.free _ (nm_in bl)) hb ha (nm_ne bl) g2 (starPlain hs.1) (backAll hs.2)
  · rw [if_neg q] at hc hb
    exact pe_callB hc g1 (C.free _ (nm_in bl)) hb ha (nm_ne bl) g2 (starPlain hs.1) (backAll hs.2)
theorem blt_loc {bl : Blt} {ds : List PyData} {i : Nat} : blt bl ds ≠ some (.loc i) := fun h => by
  unfold blt at h
  repeat' split at h
  all_goals cases h
theorem r_blt (C : Cy G k N X sc) {bl : Blt} (hg : glO sc (Str.ofString (nmB bl)) = true) (ha : PE X x (wV X.K a)) (hs : notStar x = true) :
    PE X (.Call (.Name (Str.ofString (nmB bl)) p) [x] [] pos) (wV X.K (vBlt bl a)) := by
  refine (pe_blt C hg (pa_cons ha pa_nil (starPlain hs)) (by rw [List.all_cons, hs]; rfl)).imp fun σ H Q ⟨Y, e, F, r, e', ok, ev, q⟩ => ?_
  obtain ⟨r1, d, h1, h2, h3⟩ := inv_blt ev
  refine ⟨Y, e, F, r1, e', ok, h1, fun v F1 H1 ok1 st1 rv1 => ?_⟩
  exact ⟨F1, [d], r, ok1.sub, .cons (rv1.view ok1 h2) .nil, h3, res_of ok1 st1 (fun i z => blt_loc (z ▸ h3)) q⟩
theorem r_blt2 (C : Cy G k N X sc) {bl : Blt} (hg : glO sc (Str.ofString (nmB bl)) = true) (ha : PE X x (wV X.K a)) (hb : PE X y (wV X.K b)) (hs : notStar x = true) (hs2 : notStar y = true) :
    PE X (.Call (.Name (Str.ofString (nmB bl)) p) [x, y] [] pos) (wV X.K (vBlt2 bl a b)) := by
  refine (pe_blt C hg (pa_cons ha (pa_cons hb pa_nil (starPlain hs2)) (starPlain hs)) (by rw [List.all_cons, List.all_cons, hs, hs2]; rfl)).imp fun σ H Q ⟨Y, e, F, r, e', ok, ev, q⟩ => ?_
  obtain ⟨d1, e1, d2, h1, h2, h3⟩ := inv_blt2 ev
  refine ⟨Y, e, F, _, e1, ok, h1, fun v F1 H1 ok1 st1 rv1 => ⟨Y, e1, F1, _, e', ok1, h2, fun u F2 H2 ok2 st2 rv2 => ?_⟩⟩
  exact ⟨F2, [d1, d2], r, ok2.sub, .cons (.inl (Rp.mono st2.grow rv1)) (.cons (.inl rv2) .nil), h3, res_of ok2 (st1.trans st2) (fun i z => blt_loc (z ▸ h3)) q⟩
/-! ### pop -/
theorem last_rp {K : PySem.W.Frag} {F : Hp} {vs : List V} {xs : List PyData} {d : PyData} (r : RpA K F vs xs) (h : xs[xs.length - 1]? = some d) : ∃ v, vs[vs.length - 1]? = some v ∧ Rp K F v d := by
  rw [r.length]
  exact r.get h
theorem few0 {env : Env} {cpos : Pos} {e : Expr} (h : notStar e = true) : ((backTo cpos (starEach [e] env)).all (fun x => !x.1) && (backToKw cpos (keywordEach [] env)).all (fun x => x.1.isSome)
      && decide ([e].length + ([] : List Keyword).length + (if ([] : List Keyword).isEmpty then 0 else 1) < 30)) = true := by
  rw [starPlain h]
  rfl
theorem r_pop {i : Nat} (ho : PE X x (tVar i)) (hb : notCall0 x = true) (hl : (ap.endLine == pos.line) = true) : PE X (.Call (.Attribute x "pop" ap) [] [] pos) (wV X.K (vPop i)) := by
  refine (pe_bm0 PySem.F.plainAttrs_list PySem.F.slot_list_pop PySem.F.type_list_pop mt_pop ho (basePlain hb) hl).imp fun σ H Q ⟨Y, e, F, r, e', ok, ev, q⟩ => ?_
  obtain ⟨bb, xs, d, rfl, h1, h2, rfl⟩ := inv_pop ev
  obtain ⟨p, vs, h3, h4, h5, h6, h7⟩ := ok.ow i bb xs h1
  obtain ⟨v, h8, h9⟩ := last_rp h6 h2
  obtain ⟨w1, w2⟩ := ok.write h1 h3 h6.dropLast
  exact ⟨_, h3, .inl ⟨rfl, vs, SqL.of h4⟩, p, vs, v, rfl, rfl, h4, h8, q v F _ w1 w2 h9⟩
theorem ixN_seqN {n : Nat} {k : Int} {j : Nat} (h : ixN n k = some j) : seqIndex? k n = some j := (ixN_seq h).1
theorem r_popAt {i : Nat} (ho : PE X x (tVar i)) (ha : PE X y (wV X.K a)) (hb : notCall0 x = true) (hl : (ap.endLine == pos.line) = true) (hs : notStar y = true) : PE X (.Call (.Attribute x "pop" ap) [y] [] pos) (wV X.K (vPopAt i a)) := by
  refine (pe_bm PySem.F.plainAttrs_list PySem.F.slot_list_pop PySem.F.type_list_pop mt_popAt ho (pa_cons ha pa_nil (starPlain hs)) (basePlain hb) (few0 hs) hl (starPlain hs) rfl).imp fun σ H Q ⟨Y, e, F, r, e', ok, ev, q⟩ => ?_
  obtain ⟨kk, e1, bb, xs, j, d, rfl, h1, h2, h3, h4, h5, rfl⟩ := inv_popAt ev
  rw [Bool.and_eq_true] at h5
  have hown : ∃ b0 xs0, e[i]? = some (Sv.ow b0 xs0) ∧ ∃ p, σ[i]? = some (some (V.ref p)) ∧ ∃ vs, H p = some (.lst vs) := by
    obtain ⟨b0, xs0, g⟩ := inv_isOw h5.2
    obtain ⟨p, vs, g1, g2, _⟩ := ok.ow i _ _ g
    exact ⟨b0, xs0, g, p, g1, vs, g2⟩
  replace h5 := h5.1
  obtain ⟨b0, xs0, g1, p, g2, vs0, g3⟩ := hown
  refine ⟨_, g2, .inl ⟨rfl, vs0, SqL.of g3⟩, Y, e, F, _, e1, ok, h1, fun u F1 H1 ok1 st1 rv1 => ?_⟩
  cases rv1
  obtain ⟨p', vs, q3, q4, q5, q6, q7⟩ := ok1.ow i bb xs h2
  rw [g2] at q3
  cases q3
  obtain ⟨v, h8, h9⟩ := q6.get h4
  obtain ⟨w1, w2⟩ := ok1.write h2 g2 (q6.eraseIdx j)
  have hk := ixN_seqN h3
  rw [← q6.length] at hk
  unfold rngOk at h5
  simp only [decide_eq_true_eq] at h5
  exact ⟨p, vs, kk, j, v, rfl, rfl, q4, by omega, by omega, hk, h8, q v F1 _ w1 (st1.trans w2) h9⟩
/-! ### ranges -/
theorem rngL_get (lo c : Int) : ∀ (n i j : Nat), j < n → (rngL lo c i n)[j]? = some (.int (lo + ((i + j : Nat) : Int) * c))
  | 0, _, _, h => absurd h (Nat.not_lt_zero _)
  | n + 1, i, 0, _ => rfl
  | n + 1, i, j + 1, h => by
    show (rngL lo c (i + 1) n)[j]? = _
    rw [rngL_get lo c n (i + 1) j (Nat.lt_of_succ_lt_succ h)]
    congr 5
    omega
theorem rngL_len (lo c : Int) : ∀ (n i : Nat), (rngL lo c i n).length = n
  | 0, _ => rfl
  | n + 1, i => congrArg Nat.succ (rngL_len lo c n (i + 1))
theorem jok_rng {K : PySem.W.Frag} {F : Hp} {lo : Int} {n : Nat} : JOk K F (Itr lo n) (rngL lo 1 0 n) where
  go := fun i H h _ => by
    rw [rngL_len] at h
    exact h
  stop := fun H _ => by
    rw [rngL_len]
    exact Nat.le_refl _
  yld := fun i Fc H x H' hi s1 s2 y => by
    obtain ⟨e, y⟩ := y
    subst e y
    rw [rngL_len] at hi
    refine ⟨_, Fc, rngL_get lo 1 n 0 i hi, Gr.refl s2, ?_⟩
    rw [Int.mul_one, Nat.zero_add]
    exact .int _
theorem jok_rngC {K : PySem.W.Frag} {F : Hp} {lo c : Int} {n : Nat} : JOk K F (Itc lo c n) (rngL lo c 0 n) where
  go := fun i H h _ => by
    rw [rngL_len] at h
    exact h
  stop := fun H _ => by
    rw [rngL_len]
    exact Nat.le_refl _
  yld := fun i Fc H x H' hi s1 s2 y => by
    obtain ⟨e, y⟩ := y
    subst e y
    rw [rngL_len] at hi
    refine ⟨_, Fc, rngL_get lo c n 0 i hi, Gr.refl s2, ?_⟩
    rw [Nat.zero_add]
    exact .int _
theorem r_rng1 (C : Cy G k N X sc) {tg : Expr} (hg : glO sc "range" = true) (ha : PE X x (wV X.K a)) (hs : notStar x = true) : PI X tg (.Call (.Name "range" p) [x] [] pos) (wI X.K (De.iRng1 a)) := by
  refine (pi_range1 (C.gl' hg).1 (C.free _ (by decide +kernel)) (pa_cons ha pa_nil (starPlain hs)) (starPlain hs)).imp fun σ H R ⟨Y, e, F, ds, e', ok, ev, q⟩ => ?_
  obtain ⟨n, h1, h2, rfl⟩ := inv_rng1 ev
  refine ⟨Y, e, F, _, e', ok, h1, fun v F1 H1 ok1 st1 rv1 => ?_⟩
  cases rv1
  unfold rngOk at h2
  simp only [decide_eq_true_eq] at h2
  exact ⟨n, rfl, by omega, by omega, q _ F1 H1 ok1 st1 jok_rng⟩
theorem r_rng2 (C : Cy G k N X sc) {tg : Expr} (hg : glO sc "range" = true) (ha : PE X x (wV X.K a)) (hb : PE X y (wV X.K b)) (hs : notStar x = true) (hs2 : notStar y = true) : PI X tg (.Call (.Name "range" p) [x, y] [] pos) (wI X.K (De.iRng2 a b)) := by
  refine (pi_range2 (C.gl' hg).1 (C.free _ (by decide +kernel)) (pa_cons ha (pa_cons hb pa_nil (starPlain hs2)) (starPlain hs)) (by rw [starPlain hs, starPlain hs2]; rfl) (by rw [starPlain hs2]; rfl)).imp fun σ H R ⟨Y, e, F, ds, e', ok, ev, q⟩ => ?_
  obtain ⟨m, e1, n, h1, h2, h3, rfl⟩ := inv_rng2 ev
  refine ⟨Y, e, F, _, e1, ok, h1, fun v F1 H1 ok1 st1 rv1 => ⟨Y, e1, F1, _, e', ok1, h2, fun u F2 H2 ok2 st2 rv2 => ?_⟩⟩
  cases rv1
  cases rv2
  unfold rngOk at h3
  simp only [Bool.and_eq_true, decide_eq_true_eq] at h3
  exact ⟨m, n, rfl, by omega, q _ F2 H2 ok2 (st1.trans st2) jok_rng⟩
theorem r_rng3 (C : Cy G k N X sc) {tg : Expr} (hg : glO sc "range" = true) (ha : PE X x (wV X.K a)) (hb : PE X y (wV X.K b)) (hc : PE X z (wV X.K c)) (hs : notStar x = true) (hs2 : notStar y = true) (hs3 : notStar z = true) :
    PI X tg (.Call (.Name "range" p) [x, y, z] [] pos) (wI X.K (De.iRng3 a b c)) := by
  refine (pi_range3 (C.gl' hg).1 (C.free _ (by decide +kernel)) (pa_cons ha (pa_cons hb (pa_cons hc pa_nil (starPlain hs3)) (starPlain hs2)) (starPlain hs)) (starPlain hs) (backAll (by rw [List.all_cons, List.all_cons, hs2, hs3]; rfl))).imp fun σ H R ⟨Y, e, F, ds, e', ok, ev, q⟩ => ?_
  obtain ⟨m, e1, n, e2, kk, h1, h2, h3, h4, rfl⟩ := inv_rng3 ev
  refine ⟨Y, e, F, _, e1, ok, h1, fun v F1 H1 ok1 st1 rv1 => ⟨Y, e1, F1, _, e2, ok1, h2, fun u F2 H2 ok2 st2 rv2 => ⟨Y, e2, F2, _, e', ok2, h3, fun w F3 H3 ok3 st3 rv3 => ?_⟩⟩⟩
  cases rv1
  cases rv2
  cases rv3
  unfold rng3Ok at h4
  simp only [Bool.and_eq_true, decide_eq_true_eq] at h4
  obtain ⟨⟨⟨g1, g2⟩, g3⟩, g4⟩ := h4
  exact ⟨m, n, kk, _, rfl, ⟨g1, g2, g3, (Int.toNat_of_nonneg g4).symm⟩, q _ F3 H3 ok3 ((st1.trans st2).trans st3) jok_rngC⟩
/-! ### enumerate, zip, reversed -/
theorem enumL_len : ∀ (xs : List Dt) (i : Nat), (enumL i xs).length = xs.length
  | [], _ => rfl
  | _ :: xs, i => congrArg Nat.succ (enumL_len xs (i + 1))
theorem enumL_get : ∀ (xs : List Dt) (i j : Nat) (d : Dt), xs[j]? = some d → (enumL i xs)[j]? = some (.tuple [.int ((i + j : Nat) : Int), d])
  | [], _, _, _, h => by simp at h
  | _ :: xs, i, 0, d, h => by
    simp at h
    subst h
    rfl
  | _ :: xs, i, j + 1, d, h => by
    show (enumL (i + 1) xs)[j]? = _
    rw [enumL_get xs (i + 1) j d (by simpa using h), show i + 1 + j = i + (j + 1) by omega]
theorem zipL_len : ∀ (xs ys : List Dt), (zipL xs ys).length = min xs.length ys.length
  | [], ys => by simp [zipL]
  | _ :: xs, [] => by simp [zipL]
  | _ :: xs, _ :: ys => by
    show (zipL xs ys).length + 1 = _
    rw [zipL_len xs ys]
    simp only [List.length_cons]
    omega
theorem zipL_get : ∀ (xs ys : List Dt) (j : Nat) (d d' : Dt), xs[j]? = some d → ys[j]? = some d' → (zipL xs ys)[j]? = some (.tuple [d, d'])
  | [], _, _, _, _, h, _ => by simp at h
  | _ :: _, [], _, _, _, _, h => by simp at h
  | _ :: xs, _ :: ys, 0, d, d', h, h' => by
    simp at h h'
    subst h h'
    rfl
  | _ :: xs, _ :: ys, j + 1, d, d', h, h' => zipL_get xs ys j d d' (by simpa using h) (by simpa using h')
/-- a new pair, as data -/
theorem new_pair {K : PySem.W.Frag} {Fc H : Hp} {T : Addr} {v w : V} {d d' : PyData} (s : Sub Fc H) (hT : H T = none) (h1 : Rp K Fc v d) (h2 : Rp K Fc w d') :
    Gr Fc H (upd Fc T (.tup [v, w])) (upd H T (.tup [v, w])) ∧ Rp K (upd Fc T (.tup [v, w])) (.ref T) (.tuple [d, d']) :=
  have g := sub_upd (o := .tup [v, w]) (sub_none s hT)
  ⟨Gr.both s hT, .tup (.inl (.inl upd_same)) (.cons (h1.mono g) (.cons (h2.mono g) .nil))⟩
theorem jok_enum {K : PySem.W.Frag} {F : Hp} {p : Addr} {vs : List V} {ds : List PyData} (hp : F p = some (.lst vs)) (ra : RpA K F vs ds) : JOk K F (Ite K p) (enumL 0 ds) where
  go := fun i H hi sb => by
    rw [enumL_len] at hi
    obtain ⟨v, hv⟩ : ∃ v, vs[i]? = some v := ⟨_, List.getElem?_eq_getElem (by rw [ra.length]; exact hi)⟩
    exact ⟨vs, v, SqL.of (sb _ _ hp), hv⟩
  stop := fun H sb => ⟨vs, SqL.of (sb _ _ hp), by rw [enumL_len]; exact Nat.le_of_eq ra.length⟩
  yld := fun i Fc H x H' hi s1 s2 y => by
    obtain ⟨T, v, rfl, hT, rfl, y⟩ := y
    obtain ⟨d, h1, h2⟩ := ra.getV (y _ (SqL.of (s2 _ _ (s1 _ _ hp))))
    obtain ⟨g1, g2⟩ := new_pair s2 hT (.int (i : Nat)) (h2.mono s1)
    have h3 := enumL_get ds 0 i d h1
    rw [Nat.zero_add] at h3
    exact ⟨_, _, h3, g1, g2⟩
theorem jok_enumT {K : PySem.W.Frag} {F : Hp} {p : Addr} {vs : List V} {ds : List PyData} (hp : SqT K F p vs) (ra : RpA K F vs ds) : JOk K F (IteT K p) (enumL 0 ds) where
  go := fun i H hi sb => by
    rw [enumL_len] at hi
    obtain ⟨v, hv⟩ : ∃ v, vs[i]? = some v := ⟨_, List.getElem?_eq_getElem (by rw [ra.length]; exact hi)⟩
    exact ⟨vs, v, sb.sqT hp, hv⟩
  stop := fun H sb => ⟨vs, sb.sqT hp, by rw [enumL_len]; exact ra.length⟩
  yld := fun i Fc H x H' hi s1 s2 y => by
    obtain ⟨T, v, rfl, hT, rfl, y⟩ := y
    obtain ⟨d, h1, h2⟩ := ra.getV (y _ (s2.sqT (s1.sqT hp)))
    obtain ⟨g1, g2⟩ := new_pair s2 hT (.int (i : Nat)) (h2.mono s1)
    have h3 := enumL_get ds 0 i d h1
    rw [Nat.zero_add] at h3
    exact ⟨_, _, h3, g1, g2⟩
theorem jok_zip {K : PySem.W.Frag} {F : Hp} {p q : Addr} {vs ws : List V} {ds es : List PyData} (hp : F p = some (.lst vs)) (ra : RpA K F vs ds) (hq : F q = some (.lst ws)) (rb : RpA K F ws es) : JOk K F (Itz K p q) (zipL ds es) where
  go := fun i H hi sb => by
    rw [zipL_len] at hi
    have l1 := ra.length
    have l2 := rb.length
    exact ⟨vs, ws, vs[i]'(by omega), ws[i]'(by omega), SqL.of (sb _ _ hp), SqL.of (sb _ _ hq), List.getElem?_eq_getElem _, List.getElem?_eq_getElem _⟩
  stop := fun H sb => ⟨vs, ws, SqL.of (sb _ _ hp), SqL.of (sb _ _ hq), by
    rw [zipL_len]
    have l1 := ra.length
    have l2 := rb.length
    omega⟩
  yld := fun i Fc H x H' hi s1 s2 y => by
    obtain ⟨T, v, w, rfl, hT, rfl, y1, y2⟩ := y
    obtain ⟨d, h1, h2⟩ := ra.getV (y1 _ (SqL.of (s2 _ _ (s1 _ _ hp))))
    obtain ⟨d', h1', h2'⟩ := rb.getV (y2 _ (SqL.of (s2 _ _ (s1 _ _ hq))))
    obtain ⟨g1, g2⟩ := new_pair s2 hT (h2.mono s1) (h2'.mono s1)
    exact ⟨_, _, zipL_get ds es i d d' h1 h1', g1, g2⟩
theorem jok_zipT {K : PySem.W.Frag} {F : Hp} {p q : Addr} {vs ws : List V} {ds es : List PyData} (hp : SqT K F p vs) (ra : RpA K F vs ds) (hq : SqT K F q ws) (rb : RpA K F ws es) : JOk K F (RZ.ItzT K p q) (zipL ds es) where
  go := fun i H hi sb => by
    rw [zipL_len] at hi
    have l1 := ra.length
    have l2 := rb.length
    exact ⟨vs, ws, vs[i]'(by omega), ws[i]'(by omega), sb.sqT hp, sb.sqT hq, List.getElem?_eq_getElem _, List.getElem?_eq_getElem _⟩
  stop := fun H sb => ⟨vs, ws, sb.sqT hp, sb.sqT hq, by
    rw [zipL_len]
    have l1 := ra.length
    have l2 := rb.length
    omega⟩
  yld := fun i Fc H x H' hi s1 s2 y => by
    obtain ⟨T, v, w, rfl, hT, rfl, y1, y2⟩ := y
    obtain ⟨d, h1, h2⟩ := ra.getV (y1 _ (s2.sqT (s1.sqT hp)))
    obtain ⟨d', h1', h2'⟩ := rb.getV (y2 _ (s2.sqT (s1.sqT hq)))
    obtain ⟨g1, g2⟩ := new_pair s2 hT (h2.mono s1) (h2'.mono s1)
    exact ⟨_, _, zipL_get ds es i d d' h1 h1', g1, g2⟩
theorem jok_rev {K : PySem.W.Frag} {F : Hp} {p : Addr} {vs : List V} {ds : List PyData} (hp : F p = some (.lst vs)) (ra : RpA K F vs ds) : JOk K F (Itv K p vs.length) ds.reverse where
  go := fun i H hi sb => by
    rw [List.length_reverse, ← ra.length] at hi
    exact ⟨hi, vs, vs[vs.length - 1 - i]'(by omega), SqL.of (sb _ _ hp), List.getElem?_eq_getElem _⟩
  stop := fun H sb => by
    show vs.length ≤ _
    rw [List.length_reverse]
    exact Nat.le_of_eq ra.length
  yld := fun i Fc H x H' hi s1 s2 y => by
    obtain ⟨rfl, y⟩ := y
    rw [List.length_reverse] at hi
    obtain ⟨d, h1, h2⟩ := ra.getV (y _ (SqL.of (s2 _ _ (s1 _ _ hp))))
    refine ⟨d, Fc, ?_, Gr.refl s2, h2.mono s1⟩
    rw [List.getElem?_reverse hi, ← ra.length]
    exact h1
theorem jok_revT {K : PySem.W.Frag} {F : Hp} {p : Addr} {vs : List V} {ds : List PyData} (hp : SqT K F p vs) (ra : RpA K F vs ds) : JOk K F (RT.ItvT K p vs.length) ds.reverse where
  go := fun i H hi sb => by
    rw [List.length_reverse, ← ra.length] at hi
    exact ⟨hi, vs, vs[vs.length - 1 - i]'(by omega), sb.sqT hp, List.getElem?_eq_getElem _⟩
  stop := fun H sb => by
    show vs.length ≤ _
    rw [List.length_reverse]
    exact Nat.le_of_eq ra.length
  yld := fun i Fc H x H' hi s1 s2 y => by
    obtain ⟨rfl, y⟩ := y
    rw [List.length_reverse] at hi
    obtain ⟨d, h1, h2⟩ := ra.getV (y _ (s2.sqT (s1.sqT hp)))
    refine ⟨d, Fc, ?_, Gr.refl s2, h2.mono s1⟩
    rw [List.getElem?_reverse hi, ← ra.length]
    exact h1
theorem tupOf {tg : Expr} (h : isTup tg = true) : ∃ es j q, tg = .Tuple es j q := by
  cases tg with
  | Tuple es j q => exact ⟨_, _, _, rfl⟩
  | _ => cases h
theorem r_enum (C : Cy G k N X sc) {tg : Expr} (ht : isTup tg = true) (hg : glO sc "enumerate" = true) (ha : PE X x (wV X.K a)) (hs : notStar x = true) : PI X tg (.Call (.Name "enumerate" p) [x] [] pos) (wI X.K (De.iEnum a)) := by
  obtain ⟨_, _, _, rfl⟩ := tupOf ht
  refine ((pi_enum (C.gl' hg).1 (C.free _ (by decide +kernel)) (pa_cons ha pa_nil (starPlain hs)) (starPlain hs)).or (pi_enumT (C.gl' hg).1 (C.free _ (by decide +kernel)) (pa_cons ha pa_nil (starPlain hs)) (starPlain hs))).imp fun σ H R ⟨Y, e, F, ds, e', ok, ev, q⟩ => ?_
  obtain ⟨r, e1, xs, h1, rfl, h2 | h2⟩ := inv_enum ev
  · refine .inl ⟨Y, e, F, r, e1, ok, h1, fun v F1 H1 ok1 st1 rv1 => ?_⟩
    obtain ⟨F2, ok2, st2, rp⟩ := frzd ok ok1 st1 rv1 h2
    cases rp with
    | lst hp ra => exact ⟨_, _, rfl, SqL.of (ok2.sub _ _ hp), q _ F2 _ ok2 st2 (jok_enum hp ra)⟩
  · refine .inr ⟨Y, e, F, r, e1, ok, h1, fun v F1 H1 ok1 st1 rv1 => ?_⟩
    obtain ⟨F2, ok2, st2, rp⟩ := frzd ok ok1 st1 rv1 h2
    cases rp with
    | tup hp ra => exact ⟨_, _, rfl, ok2.sub.sqT hp, q _ F2 _ ok2 st2 (jok_enumT hp ra)⟩
theorem r_zip (C : Cy G k N X sc) {tg : Expr} (ht : isTup tg = true) (hg : glO sc "zip" = true) (ha : PE X x (wV X.K a)) (hb : PE X y (wV X.K b)) (hs : notStar x = true) (hs2 : notStar y = true) : PI X tg (.Call (.Name "zip" p) [x, y] [] pos) (wI X.K (De.iZip a b)) := by
  obtain ⟨_, _, _, rfl⟩ := tupOf ht
  refine (RZ.pi_zipA (C.gl' hg).1 (C.free _ (by decide +kernel)) (pa_cons ha (pa_cons hb pa_nil (starPlain hs2)) (starPlain hs)) (starPlain hs) (backAll (by rw [List.all_cons, hs2]; rfl))).imp fun σ H R ⟨Y, e, F, ds, e', ok, ev, q⟩ => ?_
  obtain ⟨r, e1, d1, e2, r2, e3, d2, xs, ys, h1, h2, h3, h4, rfl, h5⟩ := inv_zip ev
  refine ⟨Y, e, F, r, e1, ok, h1, fun v F1 H1 ok1 st1 rv1 => ?_⟩
  obtain ⟨F2, ok2, st2, rp⟩ := frzd ok ok1 st1 rv1 h2
  refine ⟨Y, e2, F2, r2, e3, ok2, h3, fun u F3 H3 ok3 st3 rv3 => ?_⟩
  obtain ⟨F4, ok4, st4, rp4⟩ := frzd ok2 ok3 st3 rv3 h4
  have rp := rp.mono st4.grow
  rcases h5 with ⟨rfl, rfl⟩ | ⟨rfl, rfl⟩
  · cases rp with
    | lst hp ra => cases rp4 with
      | lst hq rb => exact ⟨_, _, _, _, rfl, .inl ⟨SqL.of (ok4.sub _ _ hp), SqL.of (ok4.sub _ _ hq), q _ F4 _ ok4 (st2.trans st4) (jok_zip hp ra hq rb)⟩⟩
  · cases rp with
    | tup hp ra => cases rp4 with
      | tup hq rb => exact ⟨_, _, _, _, rfl, .inr ⟨ok4.sub.sqT hp, ok4.sub.sqT hq, q _ F4 _ ok4 (st2.trans st4) (jok_zipT hp ra hq rb)⟩⟩
theorem r_revd (C : Cy G k N X sc) {tg : Expr} (hg : glO sc "reversed" = true) (ha : PE X x (wV X.K a)) (hs : notStar x = true) : PI X tg (.Call (.Name "reversed" p) [x] [] pos) (wI X.K (iRevd a)) := by
  refine (RT.pi_revA (C.gl' hg).1 (C.free _ (by decide +kernel)) ha (starPlain hs)).imp fun σ H R ⟨Y, e, F, ds, e', ok, ev, q⟩ => ?_
  obtain ⟨r, e1, xs, h1, rfl, h2 | h2⟩ := inv_revd ev
  · refine ⟨Y, e, F, r, e1, ok, h1, fun v F1 H1 ok1 st1 rv1 => ?_⟩
    obtain ⟨F2, ok2, st2, rp⟩ := frzd ok ok1 st1 rv1 h2
    cases rp with
    | lst hp ra => exact ⟨_, _, rfl, .inl ⟨SqL.of (ok2.sub _ _ hp), q _ F2 _ ok2 st2 (jok_rev hp ra)⟩⟩
  · refine ⟨Y, e, F, r, e1, ok, h1, fun v F1 H1 ok1 st1 rv1 => ?_⟩
    obtain ⟨F2, ok2, st2, rp⟩ := frzd ok ok1 st1 rv1 h2
    cases rp with
    | tup hp ra => exact ⟨_, _, rfl, .inr ⟨ok2.sub.sqT hp, q _ F2 _ ok2 st2 (jok_revT hp ra)⟩⟩
end
end De
end

section
set_option maxHeartbeats 4000000
namespace De
open PySem PySem.Spec PyProof.Rows L2

/-! ### slots by two states -/
structure Step2 (σ : L2.St) (e : En) (F H : Hp) (σ' : L2.St) (e' : En) (F' H' : Hp) : Prop where
  len : e'.length = e.length
  grow : Sub F F'
  keep : ∀ a o, H a = some o → (∀ i, ¬ OwnAt σ e i a) → H' a = some o
  new : ∀ a, F' a ≠ none → F a ≠ none ∨ H a = none ∨ ∃ i, OwnAt σ e i a
  own : ∀ i a, OwnAt σ' e' i a → OwnAt σ e i a
  stay : ∀ a, H a ≠ none → H' a ≠ none
section
variable {K : PySem.W.Frag} {Y : Fx} {σ σ' σ'' : L2.St} {e e' e'' : En} {F F' F'' H H' H'' : Hp}
theorem Step.s2 (s : Step σ e F H e' F' H') : Step2 σ e F H σ e' F' H' := ⟨s.len, s.grow, s.keep, s.new, s.own, s.stay⟩
theorem Step2.one (s : Step2 σ e F H σ e' F' H') : Step σ e F H e' F' H' := ⟨s.len, s.grow, s.keep, s.new, s.own, s.stay⟩
theorem Step2.trans (s : Step2 σ e F H σ' e' F' H') (t : Step2 σ' e' F' H' σ'' e'' F'' H'') : Step2 σ e F H σ'' e'' F'' H'' where
  len := t.len.trans s.len
  grow := s.grow.trans t.grow
  keep := fun a o h n => t.keep a o (s.keep a o h n) fun i q => n i (s.own i a q)
  new := fun a h => by
    rcases t.new a h with h | h | ⟨i, h⟩
    · exact s.new a h
    · exact .inr (.inl (Classical.byContradiction fun q => s.stay a q h))
    · exact .inr (.inr ⟨i, s.own i a h⟩)
  own := fun i a h => s.own i a (t.own i a h)
  stay := fun a h => t.stay a (s.stay a h)
/-- slots alone -/
theorem Step2.slots (hl : e'.length = e.length) (ho : ∀ i a, OwnAt σ' e' i a → OwnAt σ e i a) : Step2 σ e F H σ' e' F H :=
  ⟨hl, Sub.refl _, fun _ _ h _ => h, fun _ h => .inl h, ho, fun _ h => h⟩
/-- slots outside l are as before -/
def Out (l : List Nat) (σ σ' : L2.St) : Prop := σ'.length = σ.length ∧ ∀ j, j ∉ l → σ'[j]? = σ[j]?
theorem Out.refl {l : List Nat} : Out l σ σ := ⟨rfl, fun _ _ => rfl⟩
theorem Out.trans {l m : List Nat} (h : Out l σ σ') (g : Out m σ' σ'') : Out (l ++ m) σ σ'' :=
  ⟨g.1.trans h.1, fun j hj => by
    rw [List.mem_append, not_or] at hj
    rw [g.2 j hj.2, h.2 j hj.1]⟩
theorem getSetV {σ : L2.St} {i j : Nat} {v w : V} (h : (σ.set i (some v))[j]? = some (some w)) : (i = j ∧ w = v) ∨ (i ≠ j ∧ σ[j]? = some (some w)) := by
  by_cases q : i = j
  · subst q
    rw [List.getElem?_set_self'] at h
    cases z : σ[i]? with
    | none => rw [z] at h; cases h
    | some x => rw [z] at h; cases h; exact .inl ⟨rfl, rfl⟩
  · rw [List.getElem?_set_ne q] at h
    exact .inr ⟨q, h⟩
theorem put_cases {i : Nat} {s : Sv} (h : put e i s = some e') : e' = e.set i s ∧ (∃ t, e[i]? = some t) ∧ ∀ xs, e[i]? ≠ some (.ow true xs) := by
  unfold put at h
  split at h
  · cases h
  · rename_i x hx hn
    cases h
    refine ⟨rfl, ⟨_, hn⟩, fun xs z => ?_⟩
    rw [hn] at z
    cases z
    exact hx xs rfl
  · cases h
/-- a frozen datum stored -/
theorem Ok.put {i : Nat} {v : V} {d : PyData} (k : Ok K Y σ e F H) (r : Rp K F v d) (h : De.put e i (.fz d) = some e') :
    Ok K Y (σ.set i (some v)) e' F H ∧ (∀ j a, OwnAt (σ.set i (some v)) e' j a → OwnAt σ e j a) ∧ e'.length = e.length := by
  obtain ⟨rfl, ⟨t, ht⟩, hp⟩ := put_cases h
  have hs : i < σ.length := by
    rw [← k.len]
    exact (List.getElem?_eq_some_iff.mp ht).1
  have ne : ∀ {j : Nat} {b : Bool} {xs : List PyData}, (e.set i (.fz d))[j]? = some (Sv.ow b xs) → i ≠ j ∧ e[j]? = some (Sv.ow b xs) := fun {j b xs} z => by
    rcases getSet z with ⟨_, e2⟩ | z
    · cases e2
    · exact z
  have own : ∀ j a, OwnAt (σ.set i (some v)) (e.set i (.fz d)) j a → OwnAt σ e j a := fun j a ⟨⟨b, xs, z1⟩, z2⟩ => by
    obtain ⟨n, z⟩ := ne z1
    rw [List.getElem?_set_ne n] at z2
    exact ⟨⟨_, _, z⟩, z2⟩
  refine ⟨⟨by rw [List.length_set, List.length_set]; exact k.len, k.sub, fun j d' z => ?_, fun j b xs z => ?_, fun j l p z1 z2 => k.inj j l p (own j p z1) (own l p z2), k.grow0, k.new0, k.keep0, k.stay0, fun j u z => ?_⟩, own, List.length_set⟩
  · rcases getSet z with ⟨rfl, e2⟩ | ⟨n, z⟩
    · cases e2
      exact ⟨v, by rw [List.getElem?_set_self hs], r⟩
    · obtain ⟨w, z1, z2⟩ := k.fz j d' z
      exact ⟨w, by rw [List.getElem?_set_ne n]; exact z1, z2⟩
  · obtain ⟨n, z⟩ := ne z
    obtain ⟨p, vs, z1, z2⟩ := k.ow j b xs z
    exact ⟨p, vs, by rw [List.getElem?_set_ne n]; exact z1, z2⟩
  · obtain ⟨z1, xs, z2⟩ := k.pin j u z
    have n : i ≠ j := fun q => by
      subst q
      exact hp xs z2
    exact ⟨by rw [List.getElem?_set_ne n]; exact z1, xs, by rw [List.getElem?_set_ne n]; exact z2⟩
theorem set_out {i : Nat} {v : V} {l : List Nat} (h : i ∈ l) : Out l σ (σ.set i (some v)) :=
  ⟨List.length_set, fun j hj => List.getElem?_set_ne fun q => hj (by rw [← q]; exact h)⟩
end
/-! ### targets -/
structure Ty (N : List Str) (X : Cx) (sc : Scope) : Prop where
  calm : X.calm = true
  nn : X.N = N
  nd : N.Nodup
  loc : ∀ x, locO sc x = true → Loc X.env.scope x ∧ (X.fn x = true ∨ X.env.scope.names.lookup x = some .local)
def wG (K : PySem.W.Frag) (t : Tg) : TG := fun v σ H Q => ∃ Y e F d e', Ok K Y σ e F H ∧ Rp K F v d ∧ tgt t d e = some e' ∧ ∀ σ', Ok K Y σ' e' F H → (∀ i a, OwnAt σ' e' i a → OwnAt σ e i a) → e'.length = e.length → Out (tgN t) σ σ' → Q σ' H
def wGs (K : PySem.W.Frag) (t : Tg) : TGs := fun vs σ H Q => ∃ Y e F ds e', Ok K Y σ e F H ∧ RpA K F vs ds ∧ tgts t ds e = some e' ∧ ∀ σ', Ok K Y σ' e' F H → (∀ i a, OwnAt σ' e' i a → OwnAt σ e i a) → e'.length = e.length → Out (tgN t) σ σ' → Q σ' H
theorem _root_.L2.PGs.imp {X : Cx} {e : List Expr} {t u : TGs} (h : PGs X e t) (g : ∀ v σ H Q, u v σ H Q → t v σ H Q) : PGs X e u := ⟨fun pins s σ H v w Q I r q => h.run pins s σ H v w Q I r (g v σ H Q q)⟩
theorem asgPlain {x : Expr} {xs : List Expr} {env : Env} (h : notStar x = true) : assignEach (x :: xs) env = (false, assign x env) :: assignEach xs env := by
  cases x <;> first | rfl | cases h
theorem asgAll {env : Env} : ∀ {xs : List Expr}, xs.all notStar = true → assignEach xs env = xs.map fun e => (false, assign e env)
  | [], _ => rfl
  | x :: xs, h => by
    rw [List.all_cons, Bool.and_eq_true] at h
    rw [asgPlain h.1, asgAll h.2]
    rfl
theorem chkTs_plain {N : List Str} {sc : Scope} : ∀ {t : Tg} {es : List Expr}, chkTs N sc t es = true → es.all notStar = true
  | .nil, [], _ => rfl
  | .cons t u, e :: es, h => by
    rw [chkTs, Bool.and_eq_true, Bool.and_eq_true] at h
    rw [List.all_cons, h.1.2, chkTs_plain h.2]
    rfl
  | .nil, _ :: _, h => by simp [chkTs] at h
  | .nm _, _, h => by simp [chkTs] at h
  | .tp _, _, h => by simp [chkTs] at h
  | .cons _ _, [], h => by simp [chkTs] at h
theorem tgts_len {N : List Str} {sc : Scope} : ∀ {t : Tg} {es : List Expr} {ds : List Dt} {e e' : En}, chkTs N sc t es = true → tgts t ds e = some e' → ds.length = es.length
  | .nil, [], [], _, _, _, _ => rfl
  | .nil, [], _ :: _, _, _, _, h => by simp [tgts] at h
  | .cons t u, e :: es, [], _, _, _, h => by simp [tgts] at h
  | .cons t u, x :: es, d :: ds, e, e', h, g => by
    rw [chkTs, Bool.and_eq_true] at h
    rw [tgts] at g
    cases q : tgt t d e with
    | none => rw [q] at g; cases g
    | some e1 =>
      rw [q] at g
      exact congrArg Nat.succ (tgts_len h.2 g)
  | .nil, _ :: _, _, _, _, h, _ => by simp [chkTs] at h
  | .nm _, _, _, _, _, h, _ => by simp [chkTs] at h
  | .tp _, _, _, _, _, h, _ => by simp [chkTs] at h
  | .cons _ _, [], _, _, _, h, _ => by simp [chkTs] at h
theorem asg_no {xs : List Expr} {env : Env} (h : xs.all notStar = true) : (assignEach xs env).findIdx? (·.1) = none := by
  rw [asgAll h, List.findIdx?_eq_none_iff]
  intro x hx
  obtain ⟨e, _, rfl⟩ := List.mem_map.mp hx
  rfl
mutual
theorem r_tgt {X : Cx} {N : List Str} {sc : Scope} (T : Ty N X sc) : ∀ (t : Tg) (x : Expr), chkTg N sc t x = true → PG X x (wG X.K t)
  | .nm i, x, h => by
    cases x with
    | Name x p =>
      rw [chkTg, Bool.and_eq_true] at h
      obtain ⟨l1, l2⟩ := T.loc x h.2
      refine (pg_name (i := i) (by rw [T.nn]; exact T.nd) (by rw [T.nn]; exact of_decide_eq_true h.1) l1 l2).imp fun v σ H Q ⟨Y, e, F, d, e', ok, rp, ht, q⟩ => ?_
      rw [tgt] at ht
      obtain ⟨a, b, c⟩ := ok.put rp ht
      exact q _ a b c (set_out List.mem_cons_self)
    | _ => simp [chkTg] at h
  | .tp t, x, h => by
    cases x with
    | Tuple es j p =>
      rw [chkTg] at h
      have hp := chkTs_plain h
      have hn : (assignEach es X.env).length = es.length := by rw [asgAll hp, List.length_map]
      refine ((pg_tup T.calm (r_tgts T t es h) hn (asg_no hp)).or (pg_unl T.calm (r_tgts T t es h) hn (asg_no hp))).imp fun v σ H Q ⟨Y, e, F, d, e', ok, rp, ht, q⟩ => ?_
      cases rp with
      | lst hp ra =>
        rw [tgt] at ht
        exact .inr ⟨_, _, rfl, SqL.of (ok.sub _ _ hp), by rw [ra.length]; exact tgts_len h ht, Y, e, F, _, e', ok, ra, ht, q⟩
      | tup hp ra =>
        rw [tgt] at ht
        exact .inl ⟨_, _, rfl, ok.sub.sqT hp, by rw [ra.length]; exact tgts_len h ht, Y, e, F, _, e', ok, ra, ht, q⟩
      | _ => simp [tgt] at ht
    | _ => simp [chkTg] at h
  | .nil, x, h => by simp [chkTg] at h
  | .cons _ _, x, h => by simp [chkTg] at h
theorem r_tgts {X : Cx} {N : List Str} {sc : Scope} (T : Ty N X sc) : ∀ (t : Tg) (es : List Expr), chkTs N sc t es = true → PGs X es (wGs X.K t)
  | .nil, [], _ => pgs_nil.imp fun vs σ H Q ⟨Y, e, F, ds, e', ok, ra, ht, q⟩ => by
    cases ra with
    | nil =>
      rw [tgts] at ht
      cases ht
      exact ⟨rfl, q σ ok (fun _ _ h => h) rfl Out.refl⟩
    | cons _ _ => simp [tgts] at ht
  | .cons t u, x :: es, h => by
    rw [chkTs, Bool.and_eq_true, Bool.and_eq_true] at h
    refine (pgs_cons (r_tgt T t x h.1.1) (r_tgts T u es h.2) (by rw [asgPlain h.1.2]; rfl)).imp fun vs σ H Q ⟨Y, e, F, ds, e', ok, ra, ht, q⟩ => ?_
    cases ra with
    | nil => simp [tgts] at ht
    | @cons v vs d ds r ra =>
      rw [tgts] at ht
      cases h1 : tgt t d e with
      | none => rw [h1] at ht; cases ht
      | some e1 =>
        rw [h1] at ht
        exact ⟨_, _, rfl, Y, e, F, d, e1, ok, r, h1, fun σ1 ok1 o1 l1 s1 => ⟨Y, e1, F, ds, e', ok1, ra, ht, fun σ2 ok2 o2 l2 s2 => q σ2 ok2 (fun i a z => o1 i a (o2 i a z)) (l2.trans l1) (s1.trans s2)⟩⟩
  | .nil, _ :: _, h => by simp [chkTs] at h
  | .nm _, _, h => by simp [chkTs] at h
  | .tp _, _, h => by simp [chkTs] at h
  | .cons _ _, [], h => by simp [chkTs] at h
end
end De
end

section
set_option maxHeartbeats 4000000
namespace De
open PySem PySem.Spec PyProof.Rows L2

section
variable {α : Type}
/-- every place of vs set to u -/
def setAll (l : List α) (f : Nat → α) : List Nat → List α
  | [] => l
  | v :: vs => (setAll l f vs).set v (f v)
theorem setAll_len {l : List α} {f : Nat → α} : ∀ vs : List Nat, (setAll l f vs).length = l.length
  | [] => rfl
  | v :: vs => by
    show ((setAll l f vs).set v (f v)).length = _
    rw [List.length_set, setAll_len vs]
theorem setAll_out {l : List α} {f : Nat → α} {j : Nat} : ∀ {vs : List Nat}, j ∉ vs → (setAll l f vs)[j]? = l[j]?
  | [], _ => rfl
  | v :: vs, h => by
    rw [List.mem_cons, not_or] at h
    show ((setAll l f vs).set v (f v))[j]? = _
    rw [List.getElem?_set_ne (Ne.symm h.1), setAll_out h.2]
theorem setAll_in {l : List α} {f : Nat → α} {j : Nat} : ∀ {vs : List Nat}, j ∈ vs → (setAll l f vs)[j]? = if j < l.length then some (f j) else none
  | [], h => by cases h
  | v :: vs, h => by
    show ((setAll l f vs).set v (f v))[j]? = _
    by_cases q : v = j
    · subst q
      by_cases hl : v < l.length
      · rw [if_pos hl, List.getElem?_set_self (by rw [setAll_len]; exact hl)]
      · rw [if_neg hl, List.getElem?_eq_none]
        rw [List.length_set, setAll_len]
        omega
    · rw [List.getElem?_set_ne q]
      exact setAll_in ((List.mem_cons.mp h).resolve_left (Ne.symm q))
end
theorem wipe_all (σ : L2.St) : ∀ vs : List Nat, wipe σ vs = setAll σ (fun _ => none) vs
  | [] => rfl
  | v :: vs => by
    show (wipe σ vs).set v none = (setAll σ (fun _ => none) vs).set v none
    rw [wipe_all σ vs]
theorem wipeE_all (e : En) : ∀ vs : List Nat, wipeE e vs = setAll e (fun _ => .un) vs
  | [] => rfl
  | v :: vs => by
    show (wipeE e vs).set v .un = (setAll e (fun _ => .un) vs).set v .un
    rw [wipeE_all e vs]
theorem back_all (e e' : En) : ∀ vs : List Nat, back e e' vs = setAll e' (fun v => e.getD v .un) vs
  | [] => rfl
  | v :: vs => by
    show (back e e' vs).set v (e.getD v .un) = (setAll e' (fun v => e.getD v .un) vs).set v (e.getD v .un)
    rw [back_all e e' vs]
section
variable {K : PySem.W.Frag} {Y : Fx} {σ σ' : L2.St} {e e' : En} {F F' H H' : Hp} {own : List Nat}
theorem wipeE_ow {j : Nat} {b : Bool} {xs : List Dt} (h : (wipeE e own)[j]? = some (Sv.ow b xs)) : j ∉ own ∧ e[j]? = some (Sv.ow b xs) := by
  rw [wipeE_all] at h
  by_cases q : j ∈ own
  · rw [setAll_in q] at h
    split at h <;> cases h
  · rw [setAll_out q] at h
    exact ⟨q, h⟩
theorem wipeE_fz {j : Nat} {d : Dt} (h : (wipeE e own)[j]? = some (Sv.fz d)) : j ∉ own ∧ e[j]? = some (Sv.fz d) := by
  rw [wipeE_all] at h
  by_cases q : j ∈ own
  · rw [setAll_in q] at h
    split at h <;> cases h
  · rw [setAll_out q] at h
    exact ⟨q, h⟩
theorem wipe_out {j : Nat} (h : j ∉ own) : (wipe σ own)[j]? = σ[j]? := by
  rw [wipe_all, setAll_out h]
theorem wipe_own {i : Nat} {a : Addr} (h : OwnAt (wipe σ own) (wipeE e own) i a) : OwnAt σ e i a := by
  obtain ⟨⟨b, xs, h1⟩, h2⟩ := h
  obtain ⟨n, h1⟩ := wipeE_ow h1
  rw [wipe_out n] at h2
  exact ⟨⟨_, _, h1⟩, h2⟩
theorem Ok.wipe (k : Ok K Y σ e F H) (hp : ∀ i v, Y.pn i = some v → i ∉ own) : Ok K Y (wipe σ own) (wipeE e own) F H where
  len := by rw [wipe_all, wipeE_all, setAll_len, setAll_len]; exact k.len
  sub := k.sub
  fz := fun i d h => by
    obtain ⟨n, h⟩ := wipeE_fz h
    rw [wipe_out n]
    exact k.fz i d h
  ow := fun i b xs h => by
    obtain ⟨n, h⟩ := wipeE_ow h
    rw [wipe_out n]
    exact k.ow i b xs h
  inj := fun i j p h1 h2 => k.inj i j p (wipe_own h1) (wipe_own h2)
  grow0 := k.grow0
  new0 := k.new0
  keep0 := k.keep0
  stay0 := k.stay0
  pin := fun i v h => by
    obtain ⟨h1, xs, h2⟩ := k.pin i v h
    have n := hp i v h
    rw [wipe_out n, wipeE_all, setAll_out n]
    exact ⟨h1, xs, h2⟩
theorem ownOk_at (h : ownOk e own = true) {i : Nat} (hi : i ∈ own) : (∃ d, e[i]? = some (Sv.fz d)) ∨ e[i]? = some .un := by
  unfold ownOk at h
  have q := List.all_eq_true.mp h i hi
  split at q
  · exact .inl ⟨_, by assumption⟩
  · exact .inr (by assumption)
  · cases q
theorem back_ow {j : Nat} {b : Bool} {xs : List Dt} (ho : ownOk e own = true) (h : (back e e' own)[j]? = some (Sv.ow b xs)) : j ∉ own ∧ e'[j]? = some (Sv.ow b xs) := by
  rw [back_all] at h
  by_cases q : j ∈ own
  · rw [setAll_in q] at h
    split at h
    · rcases ownOk_at ho q with ⟨d, z⟩ | z
      · rw [List.getD_eq_getElem?_getD, z] at h
        cases h
      · rw [List.getD_eq_getElem?_getD, z] at h
        cases h
    · cases h
  · rw [setAll_out q] at h
    exact ⟨q, h⟩
theorem back_own {i : Nat} {a : Addr} (ho : ownOk e own = true) (h : OwnAt σ (back e e' own) i a) : OwnAt (wipe σ own) e' i a := by
  obtain ⟨⟨b, xs, h1⟩, h2⟩ := h
  obtain ⟨n, h1⟩ := back_ow ho h1
  exact ⟨⟨_, _, h1⟩, by rw [wipe_out n]; exact h2⟩
theorem Ok.back (k : Ok K Y σ e F H) (k' : Ok K Y (L2.wipe σ own) e' F' H') (s : Sub F F') (ho : ownOk e own = true) : Ok K Y σ (De.back e e' own) F' H' where
  len := by
    rw [back_all, setAll_len, k'.len, wipe_all, setAll_len]
  sub := k'.sub
  fz := fun i d h => by
    rw [back_all] at h
    by_cases q : i ∈ own
    · rw [setAll_in q] at h
      split at h
      · rcases ownOk_at ho q with ⟨d', z⟩ | z
        · rw [List.getD_eq_getElem?_getD, z] at h
          cases h
          obtain ⟨v, h1, h2⟩ := k.fz i _ z
          exact ⟨v, h1, h2.mono s⟩
        · rw [List.getD_eq_getElem?_getD, z] at h
          cases h
      · cases h
    · rw [setAll_out q] at h
      obtain ⟨v, h1, h2⟩ := k'.fz i d h
      rw [wipe_out q] at h1
      exact ⟨v, h1, h2⟩
  ow := fun i b xs h => by
    obtain ⟨n, h⟩ := back_ow ho h
    have z := k'.ow i b xs h
    rw [wipe_out n] at z
    exact z
  inj := fun i j p h1 h2 => k'.inj i j p (back_own ho h1) (back_own ho h2)
  grow0 := k'.grow0
  new0 := k'.new0
  keep0 := k'.keep0
  stay0 := k'.stay0
  pin := fun i v h => by
    obtain ⟨h1, xs, h2⟩ := k'.pin i v h
    obtain ⟨g1, ys, g2⟩ := k.pin i v h
    have n : i ∉ own := fun q => by
      rcases ownOk_at ho q with ⟨d', z⟩ | z
      · rw [z] at g2; cases g2
      · rw [z] at g2; cases g2
    rw [back_all, setAll_out n]
    exact ⟨g1, xs, h2⟩
theorem Ok.change (k : Ok K Y σ e F H) {p : Addr} {o : HO} (hF : F p = none) (hO : ∀ i, ¬ OwnAt σ e i p) (hY : Y.H0 p = none) : Ok K Y σ e F (upd H p o) where
  len := k.len
  sub := fun a x h => by
    rw [upd_ne fun z => ?_]
    · exact k.sub a x h
    · subst z
      rw [hF] at h
      cases h
  fz := k.fz
  ow := fun i b xs h => by
    obtain ⟨q, vs, h1, h2, h3⟩ := k.ow i b xs h
    refine ⟨q, vs, h1, ?_, h3⟩
    rw [upd_ne fun z => hO i ⟨⟨_, _, h⟩, by rw [← z]; exact h1⟩]
    exact h2
  inj := k.inj
  grow0 := k.grow0
  new0 := k.new0
  keep0 := fun a x h n => by
    rw [upd_ne fun z => ?_]
    · exact k.keep0 a x h n
    · subst z
      rw [hY] at h
      cases h
  stay0 := fun a h z => by
    by_cases w : a = p
    · subst w
      rw [upd_same] at z
      cases z
    · rw [upd_ne w] at z
      exact k.stay0 a h z
  pin := k.pin
theorem Step2.change (s : Step2 σ e F H σ' e' F' H') {p : Addr} {o : HO} (hp : H p = none) : Step2 σ e F H σ' e' F' (upd H' p o) :=
  ⟨s.len, s.grow, fun a x h n => by
    have q : a ≠ p := fun z => by
      rw [z, hp] at h
      cases h
    rw [upd_ne q]
    exact s.keep a x h n, s.new, s.own, fun a h z => by
    by_cases w : a = p
    · exact h (by rw [w]; exact hp)
    · rw [upd_ne w] at z
      exact s.stay a h z⟩
theorem wipe_same {l : List Nat} (h : Out l (wipe σ own) σ') (hl : ∀ i ∈ l, i ∈ own) : wipe σ' own = wipe σ own := by
  apply List.ext_getElem?
  intro j
  have h1 := h.1
  rw [wipe_all, setAll_len] at h1
  by_cases q : j ∈ own
  · rw [wipe_all, wipe_all, setAll_in q, setAll_in q, h1]
  · rw [wipe_out q, h.2 j fun z => q (hl j z)]
end
section
variable {K : PySem.W.Frag} {fa : FV} {fi : FI} {fc : FT} {own : List Nat} {t : Tg}
theorem comp_reads (hl : ∀ i ∈ tgN t, i ∈ own) {σ : L2.St} {H : Hp} {Q : VK} (h : wV K (vComp fa own t fi fc) σ H Q) : tLc (wI K fi) (wG K t) (wT K fc) (wV K fa) own σ H Q := by
  obtain ⟨Y, e, F, r, e', ok, ev, q⟩ := h
  obtain ⟨ds, e1, ys, e2, rfl, h1, h2, h3, h4, rfl⟩ := inv_comp ev
  refine ⟨Y, e, F, ds, e1, ok, h1, fun J F1 H1 ok1 st1 jo D hD => ?_⟩
  have hp : ∀ i v, Y.pn i = some v → i ∉ own := fun i v hi q => by
    obtain ⟨_, xs, z⟩ := ok1.pin i v hi
    rcases ownOk_at h4 q with ⟨d', w⟩ | w
    · rw [w] at z; cases z
    · rw [w] at z; cases z
  have hDY : Y.H0 D = none := Classical.byContradiction fun z => ok1.stay0 D z hD
  have noD : ∀ {σ' : L2.St} {e' : En} {F' H' : Hp}, Step2 (wipe σ own) (wipeE e1 own) F1 H1 σ' e' F' H' → ∀ i, ¬ OwnAt σ' e' i D := fun s i z => ok1.noOwn hD i (wipe_own (s.own i D z))
  let Iv : Nat → Hp → Prop := fun i H => ∃ ei Fi acc yi zs, Ok K Y (wipe σ own) ei Fi H ∧ Step2 (wipe σ own) (wipeE e1 own) F1 H1 (wipe σ own) ei Fi H ∧ H D = some (.lst acc) ∧ Fi D = none ∧ RpA K Fi acc yi ∧
    compL (turnC fa own t fc) (ds.drop i) ei = some (zs, e2) ∧ yi ++ zs = ys
  refine ⟨fun i m H => m = ds.length - i ∧ i ≤ ds.length ∧ Iv i H, ⟨_, rfl, Nat.zero_le _, wipeE e1 own, F1, [], [], ys, (ok1.wipe hp).alloc hD, (Step.refl.alloc hD).s2, upd_same, sub_none ok1.sub hD, .nil, h2, rfl⟩, ?_⟩
  rintro i m H' ⟨rfl, hi, ei, Fi, acc, yi, zs, oki, sti, hDi, hFi, rai, hc, hy⟩
  by_cases hlt : i < ds.length
  · refine .inr ⟨jo.go i H' hlt (sti.grow.trans oki.sub), Iv (i + 1), fun H'' w => ⟨_, by omega, rfl, hlt, w⟩, fun x H'' y => ?_⟩
    obtain ⟨d, F2, hd, g, rp⟩ := jo.yld i Fi H' x H'' hlt sti.grow oki.sub y
    have hdrop : ds.drop i = d :: ds.drop (i + 1) := by
      rw [List.drop_eq_getElem_cons hlt]
      rw [List.getElem?_eq_getElem hlt] at hd
      cases hd
      rfl
    rw [hdrop, compL] at hc
    cases hq : turnC fa own t fc d ei with
    | none => rw [hq] at hc; cases hc
    | some pr =>
      obtain ⟨ys1, ea⟩ := pr
      rw [hq] at hc
      have hc : (match compL (turnC fa own t fc) (ds.drop (i + 1)) ea with
        | some (zs, e2) => some (ys1 ++ zs, e2)
        | none => none) = some (zs, e2) := hc
      cases hq2 : compL (turnC fa own t fc) (ds.drop (i + 1)) ea with
      | none => rw [hq2] at hc; cases hc
      | some pr2 =>
        obtain ⟨zs', eb⟩ := pr2
        rw [hq2] at hc
        cases hc
        obtain ⟨et, kk, e2', ht, hf, hk⟩ := inv_turn hq
        have ok2 := oki.gr g
        have st2 := sti.trans (Gr.step (σ := wipe σ own) (e := ei) g).s2
        have hD2 : H'' D = some (.lst acc) := g.h _ _ hDi
        have nF : ∀ {σa : L2.St} {ea eb : En} {Fa Ha Fb Hb : Hp}, Step σa ea Fa Ha eb Fb Hb → Fa D = none → Ha D = some (.lst acc) → (∀ i, ¬ OwnAt σa ea i D) → Fb D = none := fun s z1 z2 z3 => by
          refine Classical.byContradiction fun z => ?_
          rcases s.new D z with w | w | ⟨i, w⟩
          · exact w z1
          · rw [z2] at w; cases w
          · exact z3 i w
        have hF2 : F2 D = none := nF (Gr.step (σ := wipe σ own) (e := ei) g) hFi hDi (noD sti)
        refine ⟨Y, ei, F2, d, et, ok2, rp, ht, fun σ3 ok3 own3 len3 out3 => ?_⟩
        have hw := wipe_same out3 hl
        have st3 := st2.trans (Step2.slots (F := F2) (H := H'') len3 own3)
        refine ⟨hw, Y, et, F2, kk, e2', ok3, hf, fun F4 H4 ok4 st4 => ?_⟩
        have st5 := st3.trans st4.s2
        have hD4 : H4 D = some (.lst acc) := st4.keep D _ hD2 (noD st3)
        have hF4 : F4 D = none := nF st4 hF2 hD2 (noD st3)
        rcases hk with ⟨rfl, rfl, rfl⟩ | ⟨rfl, x', e3', yy, e4', hfa, hfr, rfl, rfl⟩
        · show ite _ _ _
          rw [if_neg Bool.false_ne_true]
          have okw := ok4.wipe hp
          rw [hw] at okw
          have stw : Step2 σ3 e2' F4 H4 (wipe σ own) (wipeE e2' own) F4 H4 := Step2.slots (by rw [wipeE_all, setAll_len]) fun i a z => wipe_own (by rw [hw]; exact z)
          exact ⟨_, F4, acc, yi, zs', okw, st5.trans stw, hD4, hF4, rai.mono (g.f.trans st4.grow), hq2, hy⟩
        · show ite _ _ _
          rw [if_pos rfl]
          refine ⟨Y, e2', F4, x', e3', ok4, hfa, fun v F5 H5 ok5 st6 rv5 => ?_⟩
          obtain ⟨F6, ok6, st7, rp6⟩ := frzd ok4 ok5 st6 rv5 hfr
          have st8 := st5.trans st7.s2
          have hD5 : H5 D = some (.lst acc) := st7.keep D _ hD4 (noD st5)
          have hF6 : F6 D = none := nF st7 hF4 hD4 (noD st5)
          have stw : Step2 σ3 e4' F6 H5 (wipe σ own) (wipeE e4' own) F6 H5 := Step2.slots (by rw [wipeE_all, setAll_len]) fun i a z => wipe_own (by rw [hw]; exact z)
          have okw := ok6.wipe hp
          rw [hw] at okw
          have st9 := st8.trans stw
          refine ⟨acc, hD5, ?_, _, F6, acc ++ [v], yi ++ [yy], zs', okw.change hF6 (noD st9) hDY, st9.change hD, upd_same, hF6, ?_, hq2, ?_⟩
          · have h5 : ys.length ≤ lim := of_decide_eq_true h3
            have h6 := rai.length
            have h7 := lim_le
            rw [← hy, List.length_append, List.length_append, List.length_singleton] at h5
            omega
          · exact (rai.mono (g.f.trans (st4.grow.trans st7.grow))).append (.cons rp6 .nil)
          · rw [← hy, List.append_assoc]
  · have e0 : i = ds.length := by omega
    subst e0
    rw [List.drop_length, compL] at hc
    cases hc
    rw [List.append_nil] at hy
    subst hy
    refine .inl ⟨jo.stop H' (sti.grow.trans oki.sub), ?_⟩
    have pre : Step2 σ e1 F1 H1 (wipe σ own) (wipeE e1 own) F1 H1 := Step2.slots (by rw [wipeE_all, setAll_len]) fun i a z => wipe_own z
    have post : Step2 (wipe σ own) e2 Fi H' σ (De.back e1 e2 own) Fi H' := Step2.slots (by rw [back_all, setAll_len]) fun i a z => back_own h4 z
    have st := ((pre.trans sti).trans post)
    exact q (.ref D) Fi H' (ok1.back oki sti.grow h4) (st1.trans st.one) ⟨D, acc, rfl, hDi, hFi, st1.back hD, fun i z => ok1.noOwn hD i (st.own i D z), rai⟩
end
section
variable {X : Cx} {G : Pg} {k : Nat} {N : List Str} {sc s : Scope} {fa : FV} {fi : FI} {fc : FT} {own : List Nat} {t : Tg} {elt tg iter : Expr} {ifs : List Expr} {pos : Pos}
theorem Cy.blk (C : Cy G k N X sc) (s0 : Shared) (H : Hp) (A : Addr) (cl : List (Str × Addr)) (fp : List Addr) : Cy G k N (X.blk s0 H s (compEnvC s cl A X.env) fp) (relS s sc) where
  calm := C.calm
  nn := C.nn
  nd := C.nd
  sc := by
    show relS s X.env.scope = _
    rw [C.sc]
  free := C.free
  gl := C.gl
  fn := C.fn
  room := C.room
theorem locO_cases {sc : Scope} {x : Str} (h : locO sc x = true) : sc.names.lookup x = some .local ∨ sc.names.lookup x = some .cell := by
  unfold locO at h
  cases q : sc.names.lookup x with
  | none => rw [q] at h; cases h
  | some n =>
    rw [q] at h
    cases n with
    | «local» => exact .inl rfl
    | cell => exact .inr rfl
    | _ => cases h
theorem Ty.blk (C : Cy G k N X sc) (s0 : Shared) (H : Hp) (A : Addr) (cl : List (Str × Addr)) (fp : List Addr) : Ty N (X.blk s0 H s (compEnvC s cl A X.env) fp) s where
  calm := C.calm
  nn := C.nn
  nd := C.nd
  loc := fun x h => by
    rcases locO_cases h with q | q
    · have z : (relS s X.env.scope).names.lookup x = some .local := lookup_relS_keep (fun z => nomatch z) q
      exact ⟨.inl z, .inr z⟩
    · have z : (relS s X.env.scope).names.lookup x = some .cell := lookup_relS_keep (fun z => nomatch z) q
      refine ⟨.inr z, .inl ?_⟩
      show (s.names.lookup x == some .cell) = true
      rw [q]
      rfl
theorem ownN_snd : (ownN N own).map (·.2) = own := by
  unfold ownN
  rw [List.map_map]
  induction own with
  | nil => rfl
  | cons a l ih => rw [List.map_cons, ih]; rfl
theorem own_all (h : ((tgN t).all fun i => own.contains i) = true) : ∀ i ∈ tgN t, i ∈ own := fun i hi => by
  have := List.all_eq_true.mp h i hi
  simpa using this
theorem r_lc (C : Cy G k N X sc) (hi : PI X tg iter (wI X.K fi)) (hb : blkC N sc s (ownN N own) = true) (ht : chkTg N s t tg = true) (hl : ((tgN t).all fun i => own.contains i) = true) (hs : notSet iter = true)
    (he : ∀ X' : Cx, X'.K = X.K → Cy G k N X' (relS s sc) → PE X' elt (wV X'.K fa)) (hc : ∀ X' : Cx, X'.K = X.K → Cy G k N X' (relS s sc) → PTs X' ifs (wT X'.K fc)) :
    PE X (.ListComp elt [⟨tg, iter, ifs, 0⟩] s pos) (wV X.K (vComp fa own t fi fc)) := by
  have bk : BlkOk X.N X.env.scope s (ownN N own) := by rw [C.nn, C.sc]; exact blkOk_by hb
  refine (pe_lc (g := wG X.K t) (tt := wT X.K fc) (te := wV X.K fa) C.calm (by rw [C.nn]; exact C.nd) hi bk (fun s0 H A cl fp => r_tgt (Ty.blk C s0 H A cl fp) t tg ht) (fun s0 H A cl fp => hc (X.blk s0 H s (compEnvC s cl A X.env) fp) rfl (C.blk s0 H A cl fp)) (fun s0 H A cl fp => he (X.blk s0 H s (compEnvC s cl A X.env) fp) rfl (C.blk s0 H A cl fp)) (setPlain hs)).imp fun σ H Q h => ?_
  rw [ownN_snd]
  exact comp_reads (own_all hl) h
theorem r_setLc {i : Nat} {y : Str} {py spos : Pos} (C : Cy G k N X sc) (hk : sc.kind = .function) (hy : N[i]? = some y) (hyl : plO sc y = true) (hln : (py.line == pos.line) = true) (hno : (s.names.any fun y' => y'.1 == y && (y'.2 == .local || y'.2 == .cell)) = false)
    (hi : PI X tg iter (wI X.K fi)) (hb : blkC N sc s (ownN N own) = true) (ht : chkTg N s t tg = true) (hl : ((tgN t).all fun i => own.contains i) = true) (hs : notSet iter = true)
    (he : ∀ X' : Cx, X'.K = X.K → Cy G k N X' (relS s sc) → PE X' elt (wV X'.K fa)) (hc : ∀ X' : Cx, X'.K = X.K → Cy G k N X' (relS s sc) → PTs X' ifs (wT X'.K fc)) :
    PS X (.Assign [.Name y py] (.ListComp elt [⟨tg, iter, ifs, 0⟩] s pos) spos) (tAsg (wV X.K (vComp fa own t fi fc)) (gName i)) := by
  have bk : BlkOk X.N X.env.scope s (ownN N own) := by rw [C.nn, C.sc]; exact blkOk_by hb
  have pl : X.env.scope.names.lookup y = some .local := by
    rw [C.sc]
    unfold plO at hyl
    cases q : sc.names.lookup y with
    | none => rw [q] at hyl; cases hyl
    | some n =>
      rw [q] at hyl
      cases n with
      | «local» => rfl
      | _ => cases hyl
  refine (ps_setLc (g := wG X.K t) (tt := wT X.K fc) (te := wV X.K fa) C.calm (by rw [C.nn]; exact C.nd) (by rw [C.nn]; exact hy) pl (sw_true (by rw [C.sc]; exact hk) pl hln hno) hi bk (fun s0 H A cl fp => r_tgt (Ty.blk C s0 H A cl fp) t tg ht) (fun s0 H A cl fp => hc (X.blk s0 H s (compEnvC s cl A X.env) fp) rfl (C.blk s0 H A cl fp)) (fun s0 H A cl fp => he (X.blk s0 H s (compEnvC s cl A X.env) fp) rfl (C.blk s0 H A cl fp)) (setPlain hs)).imp fun D σ H h => ?_
  show tLc _ _ _ _ _ σ H _
  rw [ownN_snd]
  exact comp_reads (own_all hl) h
theorem pts_yes : PTs X [] (wT X.K fYes) := ⟨fun pins s σ H Q I ⟨Y, e, F, r, e', ok, ev, q⟩ => pts_nil.run pins s σ H Q I (by
    cases ev
    exact q F H ok .refl)⟩
end
end De
end

section
set_option maxHeartbeats 4000000
namespace De
open PySem PySem.Spec PyProof.Rows L2
theorem fm_all {α β : Type} {f : α → Option β} : ∀ l : List α, (l.filterMap f).length = l.length → l.map f = (l.filterMap f).map some
  | [], _ => rfl
  | x :: l, h => by
    rw [List.filterMap_cons] at h ⊢
    have hle := List.length_filterMap_le f l
    cases q : f x with
    | none =>
      rw [q] at h
      simp only [List.length_cons] at h
      omega
    | some y =>
      rw [q] at h
      simp only [List.length_cons, Nat.add_right_cancel_iff] at h
      simp only [List.map_cons, q]
      rw [fm_all l h]
theorem sw_stores {sc : Scope} {env : Env} {ts vs : List Expr} {kt k2 : Nat} {pt pt2 : Pos} {b : Bool} (he : env.scope = sc) (hk : sc.kind = .function) (hp : vs.all notStar = true) (ho : swapO sc ts vs = some b) : swappedStores [.Tuple ts kt pt] (.Tuple vs k2 pt2) env =
    pure (if b then some (ts.filterMap (nmF sc ((ts.head?.map (·.pos.line)).getD 0))) else none) := by
  have hb : (env.blockKind != .function) = false := by
    unfold Env.blockKind
    rw [he, hk]
    rfl
  unfold swappedStores
  unfold swapO at ho
  simp only [pure_bind, hb, Bool.or_false]
  have key : ∀ (p : Expr → Bool) (f : Expr → Option Str), (∀ x, p x = !notStar x) → (∀ x, f x = nmF sc ((Option.map (fun x => x.pos.line) ts.head?).getD 0) x) →
      (if (!(ts.length == 2 || ts.length == 3) || vs.length != ts.length) = true then (pure none : Sem (Option (List Str)))
       else if vs.any p = true then pure none
       else if ((List.filterMap f ts).length != ts.length || (List.filterMap f ts).eraseDups.length != (List.filterMap f ts).length) = true then pure none
       else if vs.all (foldedForSure 8) = true then pure none
       else if vs.all (constantsAlone 8) = true then do
         unsupported "assign.tuple-of-constant-expressions:order-of-the-stores"
         pure (some (List.filterMap f ts))
       else pure (some (List.filterMap f ts))) = pure (if b = true then some (List.filterMap (nmF sc ((Option.map (fun x => x.pos.line) ts.head?).getD 0)) ts) else none) := by
    intro p f hp' hf'
    rw [show f = nmF sc ((Option.map (fun x => x.pos.line) ts.head?).getD 0) from funext hf']
    have hst : vs.any p = false := by
      rw [List.any_eq_false]
      intro x hx
      rw [hp' x, List.all_eq_true.mp hp x hx]
      exact Bool.false_ne_true
    rw [hst]
    generalize List.filterMap (nmF sc ((Option.map (fun x => x.pos.line) ts.head?).getD 0)) ts = names at ho ⊢
    by_cases h1 : ((ts.length == 2 || ts.length == 3) && vs.length == ts.length) = true
    · rw [if_pos h1] at ho
      have h1' : ¬ (!(ts.length == 2 || ts.length == 3) || vs.length != ts.length) = true := by
        rw [Bool.and_eq_true] at h1
        rw [h1.1, show (vs.length != ts.length) = false from by rw [bne, h1.2]; rfl]
        exact Bool.false_ne_true
      rw [if_neg h1', if_neg Bool.false_ne_true]
      by_cases h2 : (names.length != ts.length || names.eraseDups.length != names.length) = true
      · rw [if_pos h2] at ho ⊢
        cases ho
        rfl
      · rw [if_neg h2] at ho ⊢
        by_cases h3 : vs.all (foldedForSure 8) = true
        · rw [if_pos h3] at ho ⊢
          cases ho
          rfl
        · rw [if_neg h3] at ho ⊢
          by_cases h4 : vs.all (constantsAlone 8) = true
          · rw [if_pos h4] at ho
            cases ho
          · rw [if_neg h4] at ho ⊢
            cases ho
            rfl
    · rw [if_neg h1] at ho
      cases ho
      rw [if_pos]
      · rfl
      · rw [Bool.and_eq_true] at h1
        cases q1 : (ts.length == 2 || ts.length == 3)
        · rfl
        · cases q2 : (vs.length == ts.length)
          · rw [bne, q2]; rfl
          · exact absurd ⟨q1, q2⟩ h1

  exact key _ _ (fun x => by cases x <;> rfl) (fun x => by subst he; cases x <;> rfl)

/-! ### statements -/
def EndsOk (K : PySem.W.Frag) (Y : Fx) (D : Ends) : Fl → Prop
  | .nx e => ∀ σ F H, Ok K Y σ e F H → D.nx σ H
  | .bk e => ∀ σ F H, Ok K Y σ e F H → D.bk σ H
  | .ct e => ∀ σ F H, Ok K Y σ e F H → D.ct σ H
  | .rt r e => ∀ v σ F H, Ok K Y σ e F H → RvOk K Y.H0 σ e F H v r → D.rt v H
def wS (K : PySem.W.Frag) (f : FS) : TS := fun D σ H => ∃ Y e F fl, Ok K Y σ e F H ∧ f e = some fl ∧ EndsOk K Y D fl
section
variable {K : PySem.W.Frag} {Y : Fx} {σ σ' : L2.St} {e e' : En} {F F' H H' Hs : Hp}
theorem Ok.putOwn {i : Nat} {v : V} {xs : List PyData} (k : Ok K Y σ e F H) (rv : RvOk K Hs σ e F H v (.own xs)) (hs : ∀ a, Y.H0 a ≠ none → Hs a ≠ none) (h : De.put e i (.ow false xs) = some e') :
    Ok K Y (σ.set i (some v)) e' F H := by
  obtain ⟨rfl, ⟨t, ht⟩, hp⟩ := put_cases h
  obtain ⟨p, vs, rfl, h1, h2, h3, h4, h5⟩ := rv
  have hY : Y.H0 p = none := Classical.byContradiction fun q => hs p q h3
  have hl : i < σ.length := by
    rw [← k.len]
    exact (List.getElem?_eq_some_iff.mp ht).1
  have own : ∀ j a, OwnAt (σ.set i (some (.ref p))) (e.set i (.ow false xs)) j a → (j = i ∧ a = p) ∨ (j ≠ i ∧ OwnAt σ e j a) := fun j a ⟨⟨b, ys, z1⟩, z2⟩ => by
    rcases getSet z1 with ⟨rfl, _⟩ | ⟨n, z1⟩
    · rw [List.getElem?_set_self hl] at z2
      cases z2
      exact .inl ⟨rfl, rfl⟩
    · rw [List.getElem?_set_ne n] at z2
      exact .inr ⟨Ne.symm n, ⟨_, _, z1⟩, z2⟩
  refine ⟨by rw [List.length_set, List.length_set]; exact k.len, k.sub, fun j d' z => ?_, fun j b ys z => ?_, fun j l a z1 z2 => ?_, k.grow0, k.new0, k.keep0, k.stay0, fun j u z => ?_⟩
  · rcases getSet z with ⟨rfl, e2⟩ | ⟨n, z⟩
    · cases e2
    · obtain ⟨w, z1, z2⟩ := k.fz j d' z
      exact ⟨w, by rw [List.getElem?_set_ne n]; exact z1, z2⟩
  · rcases getSet z with ⟨rfl, e2⟩ | ⟨n, z⟩
    · cases e2
      exact ⟨p, vs, by rw [List.getElem?_set_self hl], h1, h2, h5, .inl ⟨rfl, hY⟩⟩
    · obtain ⟨q, ws, z1, z2⟩ := k.ow j b ys z
      exact ⟨q, ws, by rw [List.getElem?_set_ne n]; exact z1, z2⟩
  · rcases own j a z1 with ⟨rfl, rfl⟩ | ⟨n1, q1⟩
    · rcases own l _ z2 with ⟨rfl, _⟩ | ⟨_, q2⟩
      · rfl
      · exact absurd q2 (h4 l)
    · rcases own l a z2 with ⟨rfl, rfl⟩ | ⟨n2, q2⟩
      · exact absurd q1 (h4 j)
      · exact k.inj j l a q1 q2
  · obtain ⟨z1, ys, z2⟩ := k.pin j u z
    have n : i ≠ j := fun q => by
      subst q
      exact hp ys z2
    exact ⟨by rw [List.getElem?_set_ne n]; exact z1, ys, by rw [List.getElem?_set_ne n]; exact z2⟩
/-- a result to a slot -/
theorem Ok.store {F1 H1 : Hp} {e1 e2 : En} {i : Nat} {v : V} {r : Rv} (ok : Ok K Y σ e F H) (ok1 : Ok K Y σ e1 F1 H1) (st : Step σ e F H e1 F1 H1) (rv : RvOk K H σ e1 F1 H1 v r) (h : De.store e1 i r = some e2) :
    ∃ F2, Ok K Y (σ.set i (some v)) e2 F2 H1 := by
  cases r with
  | d x => exact ⟨F1, (ok1.put rv h).1⟩
  | own xs => exact ⟨F1, ok1.putOwn rv ok.stay0 h⟩
  | loc j =>
    unfold De.store at h
    cases q : frz (.loc j) e1 with
    | none => simp only [q] at h; cases h
    | some pr =>
      obtain ⟨d, e'⟩ := pr
      simp only [q] at h
      obtain ⟨F2, ok2, _, rp⟩ := frzd ok ok1 st rv q
      exact ⟨F2, (ok2.put rp h).1⟩
theorem Ok.rebase (k : Ok K Y σ e F H) : Ok K { Y with F0 := F } σ e F H :=
  ⟨k.len, k.sub, k.fz, k.ow, k.inj, Sub.refl _, fun _ h => .inl h, k.keep0, k.stay0, k.pin⟩
theorem Ok.unbase (k : Ok K Y σ e F H) (k' : Ok K { Y with F0 := F } σ' e' F' H') : Ok K Y σ' e' F' H' :=
  ⟨k'.len, k'.sub, k'.fz, k'.ow, k'.inj, k.grow0.trans k'.grow0, fun a h => (k'.new0 a h).elim (k.new0 a) .inr, k'.keep0, k'.stay0, k'.pin⟩
end
section
variable {X : Cx} {G : Pg} {k : Nat} {N : List Str} {sc : Scope} {x y z : Expr} {a b c : FV} {fi : FI} {fc : FT} {f g : FS} {pos p p2 ap : Pos} {i : Nat}
theorem swTarget {v : Expr} {t : Expr} {l : Nat} {env : Env} (h : (match t with | .Name .. => false | _ => true) = true) : swapsWith v (some t) l env = pure false := by
  cases t with
  | Name => cases h
  | _ => cases v <;> rfl
theorem swPlain {v : Expr} {t : Option Expr} {l : Nat} {env : Env} (h : notLc v = true) : swapsWith v t l env = pure false := by
  cases v <;> first | rfl | cases h
theorem ssName {v t : Expr} {env : Env} (h : (match t with | .Tuple .. => false | .List .. => false | _ => true) = true) : swappedStores [t] v env = pure none := by
  cases t <;> first | rfl | (cases h; done)
theorem ssPlain {v t : Expr} {env : Env} (h : notTup v = true) : swappedStores [t] v env = pure none := by
  cases v <;> first | (cases h; done) | (cases t <;> rfl)
theorem swSole {v t : Expr} {l : Nat} {env : Env} (h : (match t with | .Name .. => false | _ => true) = true) : swapsWithSole [t] v l env = pure false := by
  show swapsWith v (some t) l env = _
  exact swTarget h
theorem inv_sAsg {e : En} {fl : Fl} (h : sAsg i a e = some fl) : ∃ r e1 e2, a e = some (r, e1) ∧ store e1 i r = some e2 ∧ fl = .nx e2 := by
  unfold sAsg at h
  repeat' split at h
  all_goals first | (cases h; done) | (cases h; exact ⟨_, _, _, by assumption, by assumption, rfl⟩)
theorem asg_reads {D : Ends} {σ : L2.St} {H : Hp} (h : wS X.K (sAsg i a) D σ H) : tAsg (wV X.K a) (gName i) D σ H := by
  obtain ⟨Y, e, F, fl, ok, ev, q⟩ := h
  obtain ⟨r, e1, e2, h1, h2, rfl⟩ := inv_sAsg ev
  refine ⟨Y, e, F, r, e1, ok, h1, fun v F1 H1 ok1 st1 rv1 => ?_⟩
  obtain ⟨F2, ok2⟩ := Ok.store ok ok1 st1 rv1 h2
  exact q _ F2 H1 ok2
theorem s_asg {xn : Str} (T : Ty N X sc) (hi : N[i]? = some xn) (hx : locO sc xn = true) (he : PE X y (wV X.K a)) (hl : notLc y = true) : PS X (.Assign [.Name xn p] y pos) (wS X.K (sAsg i a)) := by
  obtain ⟨l1, l2⟩ := T.loc xn hx
  exact (ps_set (by rw [T.nn]; exact T.nd) (by rw [T.nn]; exact hi) l1 he (swPlain hl) l2).imp fun D σ H h => asg_reads h
theorem inv_sAsgT {t : Tg} {e : En} {fl : Fl} (h : sAsgT t a e = some fl) : ∃ r e1 d e2 e3, a e = some (r, e1) ∧ frz r e1 = some (d, e2) ∧ tgt (.tp t) d e2 = some e3 ∧ fl = .nx e3 := by
  unfold sAsgT at h
  repeat' split at h
  all_goals first | (cases h; done) | (cases h; exact ⟨_, _, _, _, _, by assumption, by assumption, by assumption, rfl⟩)
theorem s_asgT {t : Tg} {es : List Expr} {j : Nat} (T : Ty N X sc) (ht : chkTs N sc t es = true) (he : PE X y (wV X.K a)) (hn : notTup y = true) : PS X (.Assign [.Tuple es j p] y pos) (wS X.K (sAsgT t a)) := by
  refine (ps_asg he (r_tgt T (.tp t) (.Tuple es j p) (by rw [chkTg]; exact ht)) (swSole (t := .Tuple es j p) rfl) (ssPlain hn)).imp fun D σ H ⟨Y, e, F, fl, ok, ev, q⟩ => ?_
  obtain ⟨r, e1, d, e2, e3, h1, h2, h3, rfl⟩ := inv_sAsgT ev
  refine ⟨Y, e, F, r, e1, ok, h1, fun v F1 H1 ok1 st1 rv1 => ?_⟩
  obtain ⟨F2, ok2, st2, rp⟩ := frzd ok ok1 st1 rv1 h2
  exact ⟨Y, e2, F2, d, e3, ok2, rp, h3, fun σ' ok3 _ _ _ => q σ' F2 H1 ok3⟩
theorem inv_sPar {t : Tg} {e : En} {fl : Fl} (h : sPar t fi e = some fl) : ∃ ds e2 e3, fi e = some (ds, e2) ∧ tgts t ds e2 = some e3 ∧ small ds = true ∧ fl = .nx e3 := by
  unfold sPar at h
  repeat' split at h
  all_goals first | (cases h; done) | (cases h; exact ⟨_, _, _, by assumption, by assumption, by assumption, rfl⟩)
theorem s_par {t : Tg} {ts vs : List Expr} {j l : Nat} (T : Ty N X sc) (hsc : X.env.scope = sc) (hk : sc.kind = .function) (ht : chkTs N sc t ts = true) (hp : vs.all notStar = true) (he : PA X vs (wD X.K fi)) (ho : swapO sc ts vs = some false) :
    PS X (.Assign [.Tuple ts j p] (.Tuple vs l p2) pos) (wS X.K (sPar t fi)) := by
  refine (ps_asg (pe_tup he) (r_tgt T (.tp t) (.Tuple ts j p) (by rw [chkTg]; exact ht)) (swSole (t := .Tuple ts j p) rfl) (by rw [sw_stores hsc hk hp ho]; rfl)).imp fun D σ H ⟨Y, e, F, fl, ok, ev, q⟩ => ?_
  obtain ⟨ds, e2, e3, h1, h2, h3, rfl⟩ := inv_sPar ev
  refine ⟨Y, e, F, ds, e2, ok, h1, fun vs F1 H1 ok1 st1 ra => ⟨small_le h3 ra, fun a ha => ?_⟩⟩
  have g : Gr F1 H1 (upd F1 a (.tup vs)) (upd H1 a (.tup vs)) := Gr.both ok1.sub ha
  refine ⟨Y, e2, _, .tuple ds, e3, ok1.gr g, .tup (.inl (.inl upd_same)) (ra.mono g.f), by rw [tgt]; exact h2, fun σ' ok3 _ _ _ => q σ' _ _ ok3⟩
/-- the names of a swap -/
theorem nmF_name {line : Nat} {x : Expr} {n : Str} (h : nmF sc line x = some n) : ∃ q, x = .Name n q ∧ sc.names.lookup n = some .local := by
  cases x with
  | Name id q =>
    have h : (if sc.names.lookup id == some .local && q.line == line then some id else none) = some n := h
    split at h
    · rename_i hc
      cases h
      rw [Bool.and_eq_true] at hc
      exact ⟨q, rfl, by simpa using hc.1⟩
    · cases h
  | _ => exact nomatch h
theorem two_of {α : Type} {l : List α} (h : l.length = 2) : ∃ a b, l = [a, b] := by
  cases l with
  | nil => cases h
  | cons a l => cases l with
    | nil => cases h
    | cons b l => cases l with
      | nil => exact ⟨a, b, rfl⟩
      | cons c l => cases h
theorem three_of {α : Type} {l : List α} (h : l.length = 3) : ∃ a b c, l = [a, b, c] := by
  cases l with
  | nil => cases h
  | cons a l =>
    obtain ⟨b, c, rfl⟩ := two_of (Nat.succ.inj h)
    exact ⟨a, b, c, rfl⟩
theorem tg_name {t : Tg} {n : Str} {q : Pos} (h : chkTg N sc t (.Name n q) = true) : ∃ i, t = .nm i ∧ N[i]? = some n := by
  cases t with
  | nm i =>
    rw [chkTg, Bool.and_eq_true] at h
    exact ⟨i, rfl, of_decide_eq_true h.1⟩
  | _ => simp [chkTg] at h
theorem put2 {K : PySem.W.Frag} {Y : Fx} {σ : L2.St} {e e1 e2 : En} {F H : Hp} {i j : Nat} {v w : V} {d d' : PyData} (ok : Ok K Y σ e F H) (h1 : Rp K F v d) (h2 : Rp K F w d') (q1 : put e i (.fz d) = some e1) (q2 : put e1 j (.fz d') = some e2) :
    Ok K Y ((σ.set i (some v)).set j (some w)) e2 F H := ((ok.put h1 q1).1.put h2 q2).1
theorem s_par2 {t : Tg} {ts vs : List Expr} {j l : Nat} (T : Ty N X sc) (hsc : X.env.scope = sc) (hk : sc.kind = .function) (ht : chkTs N sc t ts = true) (hp : vs.all notStar = true) (he : PA X vs (wD X.K fi)) (ho : swapO sc ts vs = some true) :
    PS X (.Assign [.Tuple ts j p] (.Tuple vs l p2) pos) (wS X.K (sPar t fi)) := by
  have hw := sw_stores (env := X.env) (kt := j) (k2 := l) (pt := p) (pt2 := p2) hsc hk hp ho
  rw [if_pos rfl] at hw
  unfold swapO at ho
  by_cases h1 : ((ts.length == 2 || ts.length == 3) && vs.length == ts.length) = true
  · rw [if_pos h1] at ho
    generalize hn : ts.filterMap (nmF sc ((ts.head?.map (·.pos.line)).getD 0)) = names at ho hw
    by_cases h2 : (names.length != ts.length || names.eraseDups.length != names.length) = true
    · rw [if_pos h2] at ho
      cases ho
    · rw [Bool.and_eq_true, Bool.or_eq_true] at h1
      have h3 : names.length = ts.length ∧ names.eraseDups.length = names.length := by
        constructor
        · refine Classical.byContradiction fun z => h2 ?_
          rw [Bool.or_eq_true]
          exact .inl (by simpa using z)
        · refine Classical.byContradiction fun z => h2 ?_
          rw [Bool.or_eq_true]
          exact .inr (by simpa using z)
      have h4 := fm_all ts (by rw [hn]; exact h3.1)
      rw [hn] at h4
      have hv : vs.length = ts.length := by simpa using h1.2
      rcases h1.1 with h5 | h5
      · have h5 : ts.length = 2 := by simpa using h5
        obtain ⟨x1, x2, rfl⟩ := two_of h5
        obtain ⟨v1, v2, rfl⟩ := two_of (hv.trans h5)
        obtain ⟨n1, n2, rfl⟩ := two_of (h3.1.trans h5)
        simp only [List.map_cons, List.map_nil, List.cons.injEq, and_true] at h4
        obtain ⟨q1, rfl, m1⟩ := nmF_name h4.1
        obtain ⟨q2, rfl, m2⟩ := nmF_name h4.2
        have hne : n1 ≠ n2 := fun z => by
          have := h3.2
          subst z
          simp [List.eraseDups_cons] at this
        cases t with
        | cons t1 t' =>
          rw [chkTs, Bool.and_eq_true, Bool.and_eq_true] at ht
          cases t' with
          | cons t2 t'' =>
            obtain ⟨ht1, ht2⟩ := ht
            rw [chkTs, Bool.and_eq_true, Bool.and_eq_true] at ht2
            obtain ⟨i1, rfl, k1⟩ := tg_name ht1.1
            obtain ⟨i2, rfl, k2⟩ := tg_name ht2.1.1
            refine (ps_par T.calm (by rw [T.nn]; exact T.nd) (i := i1) (j := i2) (by rw [T.nn]; exact k1) (by rw [T.nn]; exact k2) (fun z => ?_) (by rw [hsc]; exact m1) (by rw [hsc]; exact m2) he hw).imp fun D σ H ⟨Y, e, F, fl, ok, ev, q⟩ => ?_
            · subst z
              rw [k1] at k2
              cases k2
              exact hne rfl
            · obtain ⟨ds, e2, e3, g1, g2, g3, rfl⟩ := inv_sPar ev
              refine ⟨Y, e, F, ds, e2, ok, g1, fun vs F1 H1 ok1 st1 ra => ?_⟩
              cases ra with
              | nil => simp [tgts] at g2
              | cons r1 ra =>
                cases ra with
                | nil => simp [tgts, tgt] at g2; split at g2 <;> cases g2
                | cons r2 ra =>
                  cases ra with
                  | cons r3 ra =>
                    cases t'' with
                    | nil =>
                      simp only [tgts, tgt] at g2
                      repeat' split at g2
                      all_goals cases g2
                    | _ => simp [chkTs] at ht2
                  | nil =>
                    simp only [tgts, tgt] at g2
                    split at g2
                    · rename_i e4 g4
                      split at g2
                      · rename_i e5 g5
                        cases t'' with
                        | nil =>
                          simp only [tgts] at g2
                          cases g2
                          exact ⟨_, _, rfl, q _ F1 _ (put2 ok1 r1 r2 g4 g5)⟩
                        | _ => simp [chkTs] at ht2
                      · cases g2
                    · cases g2
          | _ => simp [chkTs] at ht
        | _ => simp [chkTs] at ht
      · have h5 : ts.length = 3 := by simpa using h5
        obtain ⟨x1, x2, x3, rfl⟩ := three_of h5
        obtain ⟨v1, v2, v3, rfl⟩ := three_of (hv.trans h5)
        obtain ⟨n1, n2, n3, rfl⟩ := three_of (h3.1.trans h5)
        simp only [List.map_cons, List.map_nil, List.cons.injEq, and_true] at h4
        obtain ⟨q1, rfl, m1⟩ := nmF_name h4.1
        obtain ⟨q2, rfl, m2⟩ := nmF_name h4.2.1
        obtain ⟨q3, rfl, m3⟩ := nmF_name h4.2.2
        have hnd : n1 ≠ n2 ∧ n1 ≠ n3 ∧ n2 ≠ n3 := by
          have h6 := h3.2
          refine ⟨fun z => ?_, fun z => ?_, fun z => ?_⟩
          · subst z
            by_cases w : n1 = n3
            · subst w
              simp [List.eraseDups_cons] at h6
            · simp [List.eraseDups_cons, Ne.symm w] at h6
          · subst z
            by_cases w : n1 = n2
            · subst w
              simp [List.eraseDups_cons] at h6
            · simp [List.eraseDups_cons, Ne.symm w] at h6
          · subst z
            by_cases w : n1 = n2
            · subst w
              simp [List.eraseDups_cons] at h6
            · simp [List.eraseDups_cons, Ne.symm w] at h6
        cases t with
        | cons t1 t' =>
          rw [chkTs, Bool.and_eq_true, Bool.and_eq_true] at ht
          cases t' with
          | cons t2 t'' =>
            obtain ⟨ht1, ht2⟩ := ht
            rw [chkTs, Bool.and_eq_true, Bool.and_eq_true] at ht2
            cases t'' with
            | cons t3 t3' =>
              obtain ⟨ht2, ht3⟩ := ht2
              rw [chkTs, Bool.and_eq_true, Bool.and_eq_true] at ht3
              obtain ⟨i1, rfl, k1⟩ := tg_name ht1.1
              obtain ⟨i2, rfl, k2⟩ := tg_name ht2.1
              obtain ⟨i3, rfl, k3⟩ := tg_name ht3.1.1
              refine (ps_par3 T.calm (by rw [T.nn]; exact T.nd) (i := i1) (j := i2) (l := i3) (by rw [T.nn]; exact k1) (by rw [T.nn]; exact k2) (by rw [T.nn]; exact k3) (fun z => ?_) (fun z => ?_) (fun z => ?_) (by rw [hsc]; exact m1) (by rw [hsc]; exact m2) (by rw [hsc]; exact m3) he hw).imp fun D σ H ⟨Y, e, F, fl, ok, ev, q⟩ => ?_
              · subst z
                rw [k1] at k2
                cases k2
                exact hnd.1 rfl
              · subst z
                rw [k1] at k3
                cases k3
                exact hnd.2.1 rfl
              · subst z
                rw [k2] at k3
                cases k3
                exact hnd.2.2 rfl
              · obtain ⟨ds, e2, e3, g1, g2, g3, rfl⟩ := inv_sPar ev
                refine ⟨Y, e, F, ds, e2, ok, g1, fun vs F1 H1 ok1 st1 ra => ?_⟩
                have hl := tgts_len (N := N) (sc := sc) (t := .cons (.nm i1) (.cons (.nm i2) (.cons (.nm i3) t3'))) (es := [.Name n1 q1, .Name n2 q2, .Name n3 q3]) (by simp only [chkTs, chkTg, notStar, Bool.and_true, Bool.and_eq_true] at ht1 ht2 ht3 ⊢; exact ⟨ht1.1, ht2.1, ht3.1.1, ht3.2⟩) g2
                obtain ⟨d1, d2, d3, rfl⟩ := three_of hl
                cases ra with
                | cons r1 ra =>
                cases ra with
                | cons r2 ra =>
                cases ra with
                | cons r3 ra =>
                cases ra
                simp only [tgts, tgt] at g2
                split at g2
                · rename_i e4 g4
                  split at g2
                  · rename_i e5 g5
                    split at g2
                    · rename_i e6 g6
                      cases t3' with
                      | nil =>
                        simp only [tgts] at g2
                        cases g2
                        exact ⟨_, _, _, rfl, q _ F1 _ ((put2 ok1 r1 r2 g4 g5).put r3 g6).1⟩
                      | _ => simp [chkTs] at ht3
                    · cases g2
                  · cases g2
                · cases g2
            | _ => simp [chkTs] at ht2
          | _ => simp [chkTs] at ht
        | _ => simp [chkTs] at ht
  · rw [if_neg h1] at ho
    cases ho
end
end De
end

section
set_option maxHeartbeats 4000000
namespace De
open PySem PySem.Spec PyProof.Rows L2

/-! ### a list's item, by values -/
def rGetL (K : PySem.W.Frag) : V → V → Hp → VK → Prop := fun o i H Q => ∃ p xs k v, o = .ref p ∧ i = .int k ∧ SqL K H p xs ∧ atI xs k = some v ∧ Q v H
theorem get_list {X : Cx} : PGet X (rGetL X.K) := by
  intro pins s σ H o i ov iv Q I ro ri h
  obtain ⟨p, xs, k, v, rfl, rfl, hq, he, q⟩ := h
  cases ro
  obtain ⟨t, rfl⟩ := ri
  obtain ⟨its, r, pl, hz⟩ := I.list hq
  obtain ⟨j, h1, h2, h3, h4, h5⟩ := atI_get he
  obtain ⟨w, ew, rw'⟩ := r.get h2
  have hl := r.length
  have hn := line63
  have fin : EP X pins σ Q w s := ⟨v, H, I, rw', q⟩
  by_cases h0 : 0 ≤ k
  · have hj : k.toNat = j := by
      rw [seqIndex_of h0 h5] at h1
      exact Option.some.inj h1
    exact wpAny_getItem_list pl.isList h0 (by omega) (by rw [hj]; simpa using ew) fin
  · have hj : (k + (its.toArray.size : Int)).toNat = j := by
      rw [seqIndex_neg (by omega) h4] at h1
      rw [List.size_toArray, ← hl]
      exact Option.some.inj h1
    exact wpAny_getItem_list_neg pl.isList (by omega) (by rw [List.size_toArray] <;> omega) (by omega) (by rw [hj]; simpa using ew) fin
theorem sw_no {x : Str} {p : Pos} {v : Expr} {l : Nat} {env : Env} {sc : Scope} (he : env.scope = sc) (hk : sc.kind = .function) (h : swNo sc x p v = true) : swapsWith v (some (.Name x p)) l env = pure false := by
  cases v with
  | ListComp e g s cp =>
    have hb : env.blockKind = .function := by
      unfold Env.blockKind
      rw [he, hk]
      rfl
    have hkd : env.kindOf x = sc.names.lookup x := by rw [← he]; rfl
    have h : (!(sc.names.lookup x == some .local && p.line == cp.line && !(s.names.any fun y => y.1 == x && (y.2 == .local || y.2 == .cell)))) = true := h
    rw [Bool.not_eq_true'] at h
    unfold swapsWith
    simp only [hb, hkd, Expr.pos]
    show pure (true && (sc.names.lookup x == some .local) && (p.line == cp.line) && !(s.names.any fun y => y.1 == x && (y.2 == .local || y.2 == .cell))) = pure false
    rw [Bool.true_and, h]
  | _ => cases h
section
variable {X : Cx} {G : Pg} {k : Nat} {N : List Str} {sc : Scope} {x y z : Expr} {a b c : FV} {fi : FI} {fc : FT} {f g : FS} {pos p p2 ap : Pos} {i : Nat}
theorem ixN_rp {K : PySem.W.Frag} {F : Hp} {vs : List V} {xs : List PyData} {k : Int} {j : Nat} (r : RpA K F vs xs) (h : ixN xs.length k = some j) : ixN vs.length k = some j := by
  rw [r.length]
  exact h
theorem s_asgNo {xn : Str} (T : Ty N X sc) (hsc : X.env.scope = sc) (hk : sc.kind = .function) (hi : N[i]? = some xn) (hx : locO sc xn = true) (he : PE X y (wV X.K a)) (hl : swNo sc xn p y = true) : PS X (.Assign [.Name xn p] y pos) (wS X.K (sAsg i a)) := by
  obtain ⟨l1, l2⟩ := T.loc xn hx
  exact (ps_set (by rw [T.nn]; exact T.nd) (by rw [T.nn]; exact hi) l1 he (sw_no hsc hk hl) l2).imp fun D σ H h => asg_reads h
theorem inv_sSet {e : En} {fl : Fl} (h : sSet i b a e = some fl) : ∃ r e1 d e2 k e3 bb xs j, a e = some (r, e1) ∧ frz r e1 = some (d, e2) ∧ b e2 = some (.d (.int k), e3) ∧ e3[i]? = some (Sv.ow bb xs) ∧ ixN xs.length k = some j ∧ isOw e2 i = true ∧ fl = .nx (e3.set i (.ow bb (xs.set j d))) := by
  unfold sSet at h
  repeat' split at h
  all_goals first | (cases h; done) | (cases h; exact ⟨_, _, _, _, _, _, _, _, _, by assumption, by assumption, by assumption, by assumption, by assumption, by assumption, rfl⟩)
theorem s_set (ho : PE X x (tVar i)) (hb : PE X y (wV X.K b)) (he : PE X z (wV X.K a)) (hs : notSl y = true) : PS X (.Assign [.Subscript x y p] z pos) (wS X.K (sSet i b a)) := by
  refine (ps_asg he (pg_sub ho hb set_list (fun v => by cases y <;> first | rfl | (cases hs; done))) (swSole (t := .Subscript x y p) rfl) (ssName rfl)).imp fun D σ H ⟨Y, e, F, fl, ok, ev, q⟩ => ?_
  obtain ⟨r, e1, d, e2, kk, e3, bb, xs, j, h1, h2, h3, h4, h5, h6, rfl⟩ := inv_sSet ev
  refine ⟨Y, e, F, r, e1, ok, h1, fun v F1 H1 ok1 st1 rv1 => ?_⟩
  obtain ⟨F2, ok2, st2, rp⟩ := frzd ok ok1 st1 rv1 h2
  obtain ⟨b0, xs0, g0⟩ := inv_isOw h6
  obtain ⟨p, vs0, g1, _⟩ := ok2.ow i _ _ g0
  refine ⟨_, g1, Y, e2, F2, _, e3, ok2, h3, fun u F3 H3 ok3 st3 rv3 => ?_⟩
  cases rv3
  obtain ⟨p', vs, g2, g3, g4, g5, g6⟩ := ok3.ow i _ _ h4
  rw [g1] at g2
  cases g2
  exact ⟨p, vs, kk, j, rfl, rfl, g3, ixN_rp g5 h5, q σ F3 _ (ok3.write h4 g1 (RpA.set (rp.mono st3.grow) j g5)).1⟩
theorem bop_add {u v : Int} {r : Rv} (h : bop .add (.int u) (.int v) = some r) : r = .d (.int (u + v)) := by
  cases h
  rfl
theorem bop_sub {u v : Int} {r : Rv} (h : bop .sub (.int u) (.int v) = some r) : r = .d (.int (u - v)) := by
  cases h
  rfl
theorem inv_sAug {op : Bop} {e : En} {fl : Fl} (h : sAug i op a e = some fl) : ∃ p q e1 r e2, e[i]? = some (.fz (.int p)) ∧ a e = some (.d (.int q), e1) ∧ bop op (.int p) (.int q) = some (.d r) ∧ put e1 i (.fz r) = some e2 ∧ fl = .nx e2 := by
  unfold sAug at h
  repeat' split at h
  all_goals first | (cases h; done) | (cases h; exact ⟨_, _, _, _, _, by assumption, by assumption, by assumption, by assumption, rfl⟩)
theorem s_aug {op : Bop} {xn : Str} (hop : (match op with | .add => true | .sub => true | _ => false) = true) (T : Ty N X sc) (hi : N[i]? = some xn) (hx : locO sc xn = true) (he : PE X y (wV X.K a)) : PS X (.AugAssign (.Name xn p) (opB op) y pos) (wS X.K (sAug i op a)) := by
  obtain ⟨l1, l2⟩ := T.loc xn hx
  cases op with
  | add =>
    refine (ps_aug (by rw [T.nn]; exact T.nd) (by rw [T.nn]; exact hi) l1 he ip_add l2).imp fun D σ H ⟨Y, e, F, fl, ok, ev, q⟩ => ?_
    obtain ⟨u, v, e1, r, e2, h1, h2, h3, h4, rfl⟩ := inv_sAug ev
    cases bop_add h3
    obtain ⟨w, g1, g2⟩ := ok.fz i _ h1
    refine ⟨w, g1, Y, e, F, _, e1, ok, h2, fun v' F1 H1 ok1 st1 rv1 => ?_⟩
    cases rv1
    cases g2
    exact ⟨u, v, rfl, rfl, q _ F1 H1 (ok1.put (.int _) h4).1⟩
  | sub =>
    refine (ps_aug (by rw [T.nn]; exact T.nd) (by rw [T.nn]; exact hi) l1 he ip_sub l2).imp fun D σ H ⟨Y, e, F, fl, ok, ev, q⟩ => ?_
    obtain ⟨u, v, e1, r, e2, h1, h2, h3, h4, rfl⟩ := inv_sAug ev
    cases bop_sub h3
    obtain ⟨w, g1, g2⟩ := ok.fz i _ h1
    refine ⟨w, g1, Y, e, F, _, e1, ok, h2, fun v' F1 H1 ok1 st1 rv1 => ?_⟩
    cases rv1
    cases g2
    exact ⟨u, v, rfl, rfl, q _ F1 H1 (ok1.put (.int _) h4).1⟩
  | _ => cases hop
theorem inv_sAugS {op : Bop} {e : En} {fl : Fl} (h : sAugS i b op a e = some fl) : ∃ k e1 b0 xs p q e2 r bb ys j, b e = some (.d (.int k), e1) ∧ e1[i]? = some (Sv.ow b0 xs) ∧ ixD xs k = some (.int p) ∧ a e1 = some (.d (.int q), e2) ∧ bop op (.int p) (.int q) = some (.d r) ∧ e2[i]? = some (Sv.ow bb ys) ∧ ixN ys.length k = some j ∧ isOw e i = true ∧ fl = .nx (e2.set i (.ow bb (ys.set j r))) := by
  unfold sAugS at h
  repeat' split at h
  all_goals first | (cases h; done) | (cases h; exact ⟨_, _, _, _, _, _, _, _, _, _, _, by assumption, by assumption, by assumption, by assumption, by assumption, by assumption, by assumption, by assumption, rfl⟩)
theorem augS_reads {op : Bop} {tip : TIp} {o : PyData → PyData → PyData} (hop : ∀ p q r, bop op (.int p) (.int q) = some (.d r) → ∃ w : Int, r = .int w ∧ ∀ H Q, Q (.int w) H → tip (.int p) (.int q) H Q) {D : Ends} {σ : L2.St} {H : Hp}
    (h : wS X.K (sAugS i b op a) D σ H) : tAugS (tVar i) (wV X.K b) (wV X.K a) (rGetL X.K) tip rSetL D σ H := by
  obtain ⟨Y, e, F, fl, ok, ev, q⟩ := h
  obtain ⟨kk, e1, b0, xs, u, v, e2, r, bb, ys, j, h1, h2, h3, h4, h5, h6, h7, h8, rfl⟩ := inv_sAugS ev
  obtain ⟨w, rfl, hw⟩ := hop u v r h5
  obtain ⟨b1, xs1, g0⟩ := inv_isOw h8
  obtain ⟨p, vs0, g1, _⟩ := ok.ow i _ _ g0
  refine ⟨_, g1, Y, e, F, _, e1, ok, h1, fun v1 F1 H1 ok1 st1 rv1 => ?_⟩
  cases rv1
  obtain ⟨p', vs, g2, g3, g4, g5, g6⟩ := ok1.ow i _ _ h2
  rw [g1] at g2
  cases g2
  obtain ⟨w', k1, k2⟩ := atI_rp g5 h3
  cases k2
  refine ⟨p, vs, kk, _, rfl, rfl, SqL.of g3, k1, Y, e1, F1, _, e2, ok1, h4, fun v2 F2 H2 ok2 st2 rv2 => ?_⟩
  cases rv2
  refine hw _ _ ?_
  obtain ⟨p'', ws, m2, m3, m4, m5, m6⟩ := ok2.ow i _ _ h6
  rw [g1] at m2
  cases m2
  exact ⟨p, ws, kk, j, rfl, rfl, m3, ixN_rp m5 h7, q σ F2 _ (ok2.write h6 g1 (RpA.set (.int _) j m5)).1⟩
theorem s_augS {op : Bop} (hop : (match op with | .add => true | .sub => true | _ => false) = true) (ho : PE X x (tVar i)) (hb : PE X y (wV X.K b)) (he : PE X z (wV X.K a)) (hs : notSl y = true) : PS X (.AugAssign (.Subscript x y p) (opB op) z pos) (wS X.K (sAugS i b op a)) := by
  have ha : ∀ ov iv new, augStore y ov iv new = (do holding [new, ov, iv] (setItem ov iv new); release [new, ov, iv] []; pure .next) := fun ov iv new => by cases y <;> first | rfl | (cases hs; done)
  cases op with
  | add => exact (ps_augS ho hb get_list he ip_add set_list ha).imp fun D σ H h => augS_reads (o := fun x _ => x) (fun p q r z => by cases bop_add z; exact ⟨_, rfl, fun H Q w => ⟨_, _, rfl, rfl, w⟩⟩) h
  | sub => exact (ps_augS ho hb get_list he ip_sub set_list ha).imp fun D σ H h => augS_reads (o := fun x _ => x) (fun p q r z => by cases bop_sub z; exact ⟨_, rfl, fun H Q w => ⟨_, _, rfl, rfl, w⟩⟩) h
  | _ => cases hop
theorem inv_sApp {e : En} {fl : Fl} (h : sApp i a e = some fl) : ∃ r e1 d e2 b xs, a e = some (r, e1) ∧ frz r e1 = some (d, e2) ∧ e2[i]? = some (Sv.ow b xs) ∧ (decide (xs.length < lim) && isOw e i) = true ∧ fl = .nx (e2.set i (.ow b (xs ++ [d]))) := by
  unfold sApp at h
  repeat' split at h
  all_goals first | (cases h; done) | (cases h; exact ⟨_, _, _, _, _, _, by assumption, by assumption, by assumption, by assumption, rfl⟩)
theorem s_app (ho : PE X x (tVar i)) (ha : PE X y (wV X.K a)) (hb : notCall0 x = true) (hl : (ap.endLine == p.line) = true) (hs : notStar y = true) : PS X (.Expr (.Call (.Attribute x "append" ap) [y] [] p) pos) (wS X.K (sApp i a)) := by
  refine (ps_expr (pe_bm PySem.F.plainAttrs_list PySem.F.slot_list_append PySem.F.type_list_append mt_append ho (pa_cons ha pa_nil (starPlain hs)) (basePlain hb) (few0 hs) hl (starPlain hs) rfl)).imp fun D σ H ⟨Y, e, F, fl, ok, ev, q⟩ => ?_
  obtain ⟨r, e1, d, e2, bb, xs, h1, h2, h3, h4, rfl⟩ := inv_sApp ev
  rw [Bool.and_eq_true] at h4
  obtain ⟨b0, xs0, g0⟩ := inv_isOw h4.2
  obtain ⟨p, vs0, g1, g2, _⟩ := ok.ow i _ _ g0
  refine ⟨_, g1, .inl ⟨rfl, vs0, SqL.of g2⟩, Y, e, F, r, e1, ok, h1, fun v F1 H1 ok1 st1 rv1 => ?_⟩
  obtain ⟨F2, ok2, st2, rp⟩ := frzd ok ok1 st1 rv1 h2
  obtain ⟨p', vs, m1, m2, m3, m4, m5⟩ := ok2.ow i _ _ h3
  rw [g1] at m1
  cases m1
  have h5 : xs.length < lim := of_decide_eq_true h4.1
  have h6 := lim_le
  exact ⟨p, vs, v, rfl, rfl, m2, by rw [m4.length]; omega, q σ F2 _ (ok2.write h3 g1 (m4.append (.cons rp .nil))).1⟩
theorem inv_sExt {e : En} {fl : Fl} (h : sExt i a e = some fl) : ∃ r e1 ds e2 b xs, a e = some (r, e1) ∧ frz r e1 = some (.list ds, e2) ∧ e2[i]? = some (Sv.ow b xs) ∧ (decide (xs.length + ds.length ≤ lim) && isOw e i) = true ∧ fl = .nx (e2.set i (.ow b (xs ++ ds))) := by
  unfold sExt at h
  repeat' split at h
  all_goals first | (cases h; done) | (cases h; exact ⟨_, _, _, _, _, _, by assumption, by assumption, by assumption, by assumption, rfl⟩)
theorem s_ext (ho : PE X x (tVar i)) (ha : PE X y (wV X.K a)) (hb : notCall0 x = true) (hl : (ap.endLine == p.line) = true) (hs : notStar y = true) : PS X (.Expr (.Call (.Attribute x "extend" ap) [y] [] p) pos) (wS X.K (sExt i a)) := by
  refine (ps_expr (pe_bm PySem.F.plainAttrs_list PySem.F.slot_list_extend PySem.F.type_list_extend mt_extend ho (pa_cons ha pa_nil (starPlain hs)) (basePlain hb) (few0 hs) hl (starPlain hs) rfl)).imp fun D σ H ⟨Y, e, F, fl, ok, ev, q⟩ => ?_
  obtain ⟨r, e1, ds, e2, bb, xs, h1, h2, h3, h4, rfl⟩ := inv_sExt ev
  rw [Bool.and_eq_true] at h4
  obtain ⟨b0, xs0, g0⟩ := inv_isOw h4.2
  obtain ⟨p, vs0, g1, g2, _⟩ := ok.ow i _ _ g0
  refine ⟨_, g1, .inl ⟨rfl, vs0, SqL.of g2⟩, Y, e, F, r, e1, ok, h1, fun v F1 H1 ok1 st1 rv1 => ?_⟩
  obtain ⟨F2, ok2, st2, rp⟩ := frzd ok ok1 st1 rv1 h2
  obtain ⟨p', vs, m1, m2, m3, m4, m5⟩ := ok2.ow i _ _ h3
  rw [g1] at m1
  cases m1
  have h5 : xs.length + ds.length ≤ lim := of_decide_eq_true h4.1
  have h6 := lim_le
  cases rp with
  | lst hp ra => exact ⟨p, _, vs, _, rfl, rfl, m2, ok2.sub _ _ hp, by rw [m4.length, ra.length]; omega, q σ F2 _ (ok2.write h3 g1 (m4.append ra)).1⟩
theorem s_ex (he : PE X y (wV X.K a)) (hl : notLc y = true) : PS X (.Expr y pos) (wS X.K (sEx a)) := by
  refine (ps_expr he (swPlain hl)).imp fun D σ H ⟨Y, e, F, fl, ok, ev, q⟩ => ?_
  unfold sEx at ev
  cases h1 : a e with
  | none => rw [h1] at ev; cases ev
  | some pr =>
    obtain ⟨r, e1⟩ := pr
    rw [h1] at ev
    cases ev
    exact ⟨Y, e, F, r, e1, ok, h1, fun v F1 H1 ok1 st1 rv1 => q σ F1 H1 ok1⟩
theorem inv_sRet {e : En} {fl : Fl} (h : sRet a e = some fl) : ∃ x e1, a e = some (x, e1) ∧ ((∃ d, x = .d d ∧ fl = .rt (.d d) e1) ∨ (∃ xs, x = .own xs ∧ fl = .rt (.own xs) e1) ∨ ∃ i, x = .loc i ∧ ((∃ d, e1[i]? = some (Sv.fz d) ∧ fl = .rt (.d d) e1) ∨ ∃ xs, e1[i]? = some (Sv.ow false xs) ∧ fl = .rt (.own xs) (e1.set i .un))) := by
  unfold sRet at h
  repeat' split at h
  all_goals first
    | (cases h; done)
    | (cases h; exact ⟨_, _, by assumption, .inl ⟨_, rfl, rfl⟩⟩)
    | (cases h; exact ⟨_, _, by assumption, .inr (.inl ⟨_, rfl, rfl⟩)⟩)
    | (cases h; exact ⟨_, _, by assumption, .inr (.inr ⟨_, rfl, .inl ⟨_, by assumption, rfl⟩⟩)⟩)
    | (cases h; exact ⟨_, _, by assumption, .inr (.inr ⟨_, rfl, .inr ⟨_, by assumption, rfl⟩⟩)⟩)
theorem Ok.forget {K : PySem.W.Frag} {Y : Fx} {σ : L2.St} {e : En} {F H : Hp} (k : Ok K Y σ e F H) {i : Nat} {xs : List PyData} (h : e[i]? = some (.ow false xs)) : Ok K Y σ (e.set i .un) F H where
  len := by rw [List.length_set]; exact k.len
  sub := k.sub
  fz := fun j d z => by
    rcases getSet z with ⟨_, e2⟩ | ⟨_, z⟩
    · cases e2
    · exact k.fz j d z
  ow := fun j b ys z => by
    rcases getSet z with ⟨_, e2⟩ | ⟨_, z⟩
    · cases e2
    · exact k.ow j b ys z
  inj := fun a b p ⟨⟨c, ys, z1⟩, z2⟩ ⟨⟨c', ys', z3⟩, z4⟩ => by
    rcases getSet z1 with ⟨_, e2⟩ | ⟨_, z1⟩
    · cases e2
    rcases getSet z3 with ⟨_, e2⟩ | ⟨_, z3⟩
    · cases e2
    exact k.inj a b p ⟨⟨_, _, z1⟩, z2⟩ ⟨⟨_, _, z3⟩, z4⟩
  grow0 := k.grow0
  new0 := k.new0
  keep0 := k.keep0
  stay0 := k.stay0
  pin := fun j u z => by
    obtain ⟨z1, ys, z2⟩ := k.pin j u z
    refine ⟨z1, ys, ?_⟩
    rw [List.getElem?_set_ne fun q => ?_]
    · exact z2
    · subst q
      rw [h] at z2
      cases z2
theorem s_ret (he : PE X y (wV X.K a)) : PS X (.Return (some y) pos) (wS X.K (sRet a)) := by
  refine (ps_ret he).imp fun D σ H ⟨Y, e, F, fl, ok, ev, q⟩ => ?_
  obtain ⟨x, e1, h1, hx⟩ := inv_sRet ev
  refine ⟨Y, e, F, x, e1, ok, h1, fun v F1 H1 ok1 st1 rv1 => ?_⟩
  rcases hx with ⟨d, rfl, rfl⟩ | ⟨xs, rfl, rfl⟩ | ⟨i, rfl, ⟨d, h2, rfl⟩ | ⟨xs, h2, rfl⟩⟩
  · exact q v σ F1 H1 ok1 rv1
  · exact q v σ F1 H1 ok1 (rv1.from ok.stay0)
  · obtain ⟨w, g1, g2⟩ := ok1.fz i _ h2
    have rv1 : σ[i]? = some (some v) := rv1
    rw [g1] at rv1
    cases rv1
    exact q _ σ F1 H1 ok1 g2
  · obtain ⟨p, vs, g1, g2, g3, g4, g5⟩ := ok1.ow i _ _ h2
    have rv1 : σ[i]? = some (some v) := rv1
    rw [g1] at rv1
    cases rv1
    have hY : Y.H0 p = none := by
      rcases g5 with ⟨_, z⟩ | ⟨z, _⟩
      · exact z
      · cases z
    refine q _ σ F1 H1 (ok1.forget h2) ⟨p, vs, rfl, g2, g3, hY, fun j ⟨⟨b, ys, z1⟩, z2⟩ => ?_, g4⟩
    rcases getSet z1 with ⟨_, e2⟩ | ⟨n, z1⟩
    · cases e2
    · exact n (ok1.inj i j p ⟨⟨_, _, h2⟩, g1⟩ ⟨⟨_, _, z1⟩, z2⟩)
theorem s_retN : PS X (.Return none pos) (wS X.K sRetN) := ps_retN.imp fun D σ H ⟨Y, e, F, fl, ok, ev, q⟩ => by
  cases ev
  exact q .non σ F H ok .non
theorem s_brk : PS X (.Break pos) (wS X.K sBrk) := ps_break.imp fun D σ H ⟨Y, e, F, fl, ok, ev, q⟩ => by
  cases ev
  exact q σ F H ok
theorem s_cont : PS X (.Continue pos) (wS X.K sCont) := ps_continue.imp fun D σ H ⟨Y, e, F, fl, ok, ev, q⟩ => by
  cases ev
  exact q σ F H ok
theorem s_pass : PS X (.Pass pos) (wS X.K sPass) := ps_pass.imp fun D σ H ⟨Y, e, F, fl, ok, ev, q⟩ => by
  cases ev
  exact q σ F H ok
theorem s_no {st : Stmt} : PS X st (wS X.K sNo) := ps_never.imp fun D σ H ⟨Y, e, F, fl, ok, ev, q⟩ => nomatch ev
theorem b_nil : PSs X [] (wS X.K sPass) := pss_nil.imp fun D σ H ⟨Y, e, F, fl, ok, ev, q⟩ => by
  cases ev
  exact q σ F H ok
theorem b_cons {st : Stmt} {rest : List Stmt} (h1 : PS X st (wS X.K f)) (h2 : PSs X rest (wS X.K g)) : PSs X (st :: rest) (wS X.K (sSeq f g)) := by
  refine (pss_cons h1 h2).imp fun D σ H ⟨Y, e, F, fl, ok, ev, q⟩ => ?_
  unfold sSeq at ev
  cases h : f e with
  | none => rw [h] at ev; cases ev
  | some fl1 =>
    rw [h] at ev
    cases fl1 with
    | nx e1 => exact ⟨Y, e, F, .nx e1, ok, h, fun σ1 F1 H1 ok1 => ⟨Y, e1, F1, fl, ok1, ev, q⟩⟩
    | rt r e1 =>
      cases ev
      exact ⟨Y, e, F, _, ok, h, q⟩
    | bk e1 =>
      cases ev
      exact ⟨Y, e, F, _, ok, h, q⟩
    | ct e1 =>
      cases ev
      exact ⟨Y, e, F, _, ok, h, q⟩
theorem s_ite {c : Expr} {p q : List Stmt} (hc : PT X c (wT X.K fc)) (h1 : PSs X p (wS X.K f)) (h2 : PSs X q (wS X.K g)) : PS X (.If c p q pos) (wS X.K (sIte fc f g)) := by
  refine (ps_if hc h1 h2).imp fun D σ H ⟨Y, e, F, fl, ok, ev, q⟩ => ?_
  unfold sIte at ev
  cases h : fc e with
  | none => rw [h] at ev; cases ev
  | some pr =>
    obtain ⟨k, e1⟩ := pr
    rw [h] at ev
    refine ⟨Y, e, F, k, e1, ok, h, fun F1 H1 ok1 st1 => ?_⟩
    cases k with
    | true =>
      rw [if_pos rfl]
      exact ⟨Y, e1, F1, fl, ok1, ev, q⟩
    | false =>
      rw [if_neg Bool.false_ne_true]
      exact ⟨Y, e1, F1, fl, ok1, ev, q⟩
theorem s_whl {c : Expr} {p : List Stmt} {M : Nat} (hp : PassesOwn (model X.prog X.w) X.A X.env X.xe) (hc : PT X c (wT X.K fc)) (h1 : PSs X p (wS X.K f)) : PS X (.While c p [] pos) (wS X.K (whL fc f M)) := by
  refine (ps_while hp hc h1).imp fun D σ H ⟨Y, e, F, fl, ok, ev, q⟩ => ?_
  refine ⟨fun m σ H => ∃ e F, Ok X.K Y σ e F H ∧ whL fc f m e = some fl, ⟨M, e, F, ok, ev⟩, ?_⟩
  rintro m σ H ⟨e, F, ok, ev⟩
  cases m with
  | zero => cases ev
  | succ n =>
    rw [whL] at ev
    cases h : fc e with
    | none => rw [h] at ev; cases ev
    | some pr =>
      obtain ⟨k, e1⟩ := pr
      rw [h] at ev
      refine ⟨Y, e, F, k, e1, ok, h, fun F1 H1 ok1 st1 => ?_⟩
      cases k with
      | false =>
        rw [if_neg Bool.false_ne_true]
        cases ev
        exact q σ F1 H1 ok1
      | true =>
        rw [if_pos rfl]
        cases h2 : f e1 with
        | none => simp only [h2] at ev; cases ev
        | some fl1 =>
          simp only [h2] at ev
          refine ⟨fun σ' H' => ∃ e F, Ok X.K Y σ' e F H' ∧ whL fc f n e = some fl, fun σ' H' w => ⟨n, Nat.lt_succ_self _, w⟩, Y, e1, F1, fl1, ok1, h2, ?_⟩
          cases fl1 with
          | nx e2 => exact fun σ2 F2 H2 ok2 => ⟨e2, F2, ok2, ev⟩
          | ct e2 => exact fun σ2 F2 H2 ok2 => ⟨e2, F2, ok2, ev⟩
          | bk e2 =>
            cases ev
            exact q
          | rt r e2 =>
            cases ev
            exact q
theorem EndsOk.rebase {K : PySem.W.Frag} {Y : Fx} {σ : L2.St} {e : En} {F H : Hp} {D : Ends} {fl : Fl} (ok : Ok K Y σ e F H) (q : EndsOk K Y D fl) : EndsOk K { Y with F0 := F } D fl := by
  cases fl with
  | nx e' => exact fun σ' F' H' k => q σ' F' H' (ok.unbase k)
  | bk e' => exact fun σ' F' H' k => q σ' F' H' (ok.unbase k)
  | ct e' => exact fun σ' F' H' k => q σ' F' H' (ok.unbase k)
  | rt r e' => exact fun v σ' F' H' k => q v σ' F' H' (ok.unbase k)
theorem s_for {tg iter : Expr} {t : Tg} {p : List Stmt} (hp : PassesOwn (model X.prog X.w) X.A X.env X.xe) (hc : X.calm = true) (hi : PI X tg iter (wI X.K fi)) (hg : PG X tg (wG X.K t)) (h1 : PSs X p (wS X.K f)) (hs : notSet iter = true) : PS X (.For tg iter p [] pos) (wS X.K (sFor t fi f)) := by
  refine (ps_for hp hc hi hg h1 (setPlain hs)).imp fun D σ H ⟨Y, e, F, fl, ok, ev, q⟩ => ?_
  unfold sFor at ev
  cases h : fi e with
  | none => rw [h] at ev; cases ev
  | some pr =>
    obtain ⟨ds, e1⟩ := pr
    rw [h] at ev
    refine ⟨Y, e, F, ds, e1, ok, h, fun J F1 H1 ok1 st1 jo => ?_⟩
    have q1 := EndsOk.rebase ok1 q
    generalize hY : ({ Y with F0 := F1 } : Fx) = Y1 at q1
    have hF0 : Y1.F0 = F1 := by rw [← hY]
    have ok1' : Ok X.K Y1 σ e1 F1 H1 := by rw [← hY]; exact ok1.rebase
    refine ⟨fun i m σ H => m = ds.length - i ∧ i ≤ ds.length ∧ ∃ ei Fi, Ok X.K Y1 σ ei Fi H ∧ forL (fun d e => match tgt t d e with
      | some e2 => f e2
      | none => none) (ds.drop i) ei = some fl, ⟨_, rfl, Nat.zero_le _, e1, F1, ok1', ev⟩, ?_⟩
    rintro i m σ' H' ⟨rfl, hi', ei, Fi, oki, hl⟩
    have gr : Sub F1 Fi := by
      have := oki.grow0
      rw [hF0] at this
      exact this
    by_cases hlt : i < ds.length
    · refine .inr ⟨jo.go i H' hlt (gr.trans oki.sub), fun σ2 H2 => ∃ ei Fi, Ok X.K Y1 σ2 ei Fi H2 ∧ forL (fun d e => match tgt t d e with
        | some e2 => f e2
        | none => none) (ds.drop (i + 1)) ei = some fl, fun σ2 H2 w => ⟨_, by omega, rfl, hlt, w⟩, fun x H2 y => ?_⟩
      obtain ⟨d, F2, hd, g, rp⟩ := jo.yld i Fi H' x H2 hlt gr oki.sub y
      have hdrop : ds.drop i = d :: ds.drop (i + 1) := by
        rw [List.drop_eq_getElem_cons hlt]
        rw [List.getElem?_eq_getElem hlt] at hd
        cases hd
        rfl
      rw [hdrop, forL] at hl
      cases ht : tgt t d ei with
      | none => simp only [ht] at hl; cases hl
      | some e2 =>
        simp only [ht] at hl
        refine ⟨Y1, ei, F2, d, e2, oki.gr g, rp, ht, fun σ2 ok2 _ _ _ => ?_⟩
        cases hf : f e2 with
        | none => simp only [hf] at hl; cases hl
        | some fl1 =>
          simp only [hf] at hl
          refine ⟨Y1, e2, F2, fl1, ok2, hf, ?_⟩
          cases fl1 with
          | nx e3 => exact fun σ3 F3 H3 ok3 => ⟨e3, F3, ok3, hl⟩
          | ct e3 => exact fun σ3 F3 H3 ok3 => ⟨e3, F3, ok3, hl⟩
          | bk e3 =>
            cases hl
            exact q1
          | rt r e3 =>
            cases hl
            exact q1
    · have e0 : i = ds.length := by omega
      subst e0
      rw [List.drop_length, forL] at hl
      cases hl
      exact .inl ⟨jo.stop H' (gr.trans oki.sub), q1 σ' Fi H' oki⟩
end
end De
end

section
set_option maxHeartbeats 4000000
namespace De
open PySem PySem.Spec PyProof.Rows L2

section
variable (G : Pg) (k : Nat) (N : List Str)
structure EOk (u : E) : Prop where
  v : ∀ (X : Cx) (sc : Scope), Cy G k N X sc → ∀ x, (ck G N u).e sc x = true → PE X x (wV X.K (ev (run G.M G.P k) u).v)
  t : ∀ (X : Cx) (sc : Scope), Cy G k N X sc → ∀ x, (ck G N u).t sc x = true → PT X x (wT X.K (ev (run G.M G.P k) u).t)
  w : ∀ (X : Cx) (sc : Scope), Cy G k N X sc → ∀ o l p, (ck G N u).t sc (.BoolOp o l p) = true → PW X (.BoolOp o l p) (wT X.K (ev (run G.M G.P k) u).t)
  i : ∀ (X : Cx) (sc : Scope), Cy G k N X sc → ∀ tg x, (ck G N u).i sc tg x = true → PI X tg x (wI X.K (ev (run G.M G.P k) u).i)
structure EsOk (t : Es) : Prop where
  a : ∀ (X : Cx) (sc : Scope), Cy G k N X sc → ∀ xs, cks G N t sc xs = true → PA X xs (wA X.K (evs (run G.M G.P k) t).a)
  d : ∀ (X : Cx) (sc : Scope), Cy G k N X sc → ∀ xs, cks G N t sc xs = true → PA X xs (wD X.K (evs (run G.M G.P k) t).d)
  p : ∀ sc xs, cks G N t sc xs = true → xs.all notStar = true
end
section
variable {G : Pg} {k : Nat} {N : List Str}
theorem EOk.ofV {t : E} {f : Scope → Expr → Bool} {fv : FV} (h1 : ck G N t = ckV f) (h2 : ev (run G.M G.P k) t = mkV fv) (hv : ∀ (X : Cx) (sc : Scope), Cy G k N X sc → ∀ x, f sc x = true → PE X x (wV X.K fv)) : EOk G k N t where
  v := fun X sc C x h => by
    rw [h1] at h
    rw [h2]
    exact hv X sc C x h
  t := fun X sc C x h => by
    rw [h1] at h
    rw [h2]
    obtain ⟨a, b⟩ := and2 h
    exact r_test (hv X sc C x a) b
  w := fun X sc C o l p h => by
    rw [h1] at h
    obtain ⟨a, b⟩ := and2 h
    cases b
  i := fun X sc C tg x h => by
    rw [h1] at h
    rw [h2]
    exact r_iter (hv X sc C x h)
theorem EOk.ofN {t : E} {f : Scope → Expr → Bool} {fv : FV} (h1 : ck G N t = ckN f) (h2 : ev (run G.M G.P k) t = mkV fv) (hv : ∀ (X : Cx) (sc : Scope), Cy G k N X sc → ∀ x, f sc x = true → PE X x (wV X.K fv)) : EOk G k N t where
  v := fun X sc C x h => by
    rw [h1] at h
    rw [h2]
    exact hv X sc C x h
  t := fun X sc C x h => by
    rw [h1] at h
    cases h
  w := fun X sc C o l p h => by
    rw [h1] at h
    cases h
  i := fun X sc C tg x h => by
    rw [h1] at h
    cases h
theorem EOk.ofI {t : E} {f : Scope → Expr → Expr → Bool} {fv : FI} (h1 : ck G N t = ckI f) (h2 : (ev (run G.M G.P k) t).i = fv) (hv : ∀ (X : Cx) (sc : Scope), Cy G k N X sc → ∀ tg x, f sc tg x = true → PI X tg x (wI X.K fv)) : EOk G k N t where
  v := fun X sc C x h => by
    rw [h1] at h
    cases h
  t := fun X sc C x h => by
    rw [h1] at h
    cases h
  w := fun X sc C o l p h => by
    rw [h1] at h
    cases h
  i := fun X sc C tg x h => by
    rw [h1] at h
    rw [h2]
    exact hv X sc C tg x h
theorem c_cst (d : Dt) (X : Cx) (sc : Scope) (x : Expr) (h : cCst d sc x = true) : PE X x (wV X.K (vCst d)) := by
  cases x with
  | Constant c j p =>
    have h : cstO d c = true := h
    cases d with
    | none => cases c with
      | none => exact r_cst (v := .non) (fun F => .non) pe_non
      | _ => cases h
    | bool b => cases c with
      | bool b' =>
        have : b = b' := by simpa using (show (b == b') = true from h)
        subst this
        exact r_cst (v := .bl b) (fun F => .bl b) pe_bl
      | _ => cases h
    | int i => cases c with
      | int i' =>
        have : i = i' := of_decide_eq_true h
        subst this
        exact r_cst (v := .int i) (fun F => .int i) pe_int
      | _ => cases h
    | str i => cases c with
      | str i' =>
        have : i = i' := of_decide_eq_true h
        subst this
        exact r_cst (v := .str i) (fun F => .str i) pe_str
      | _ => cases h
    | _ => cases c <;> cases h
  | _ => cases h
theorem c_glob (xn : Str) (d : Dt) (X : Cx) (sc : Scope) (C : Cy G k N X sc) (x : Expr) (h : cGlob G xn d sc x = true) : PE X x (wV X.K (vCst d)) := by
  cases x with
  | Name y p =>
    cases d with
    | int i =>
      have h : (decide (xn = y) && glO sc y && G.gl.any fun q => decide (q.1 = y) && decide (q.2 = i)) = true := h
      obtain ⟨h, h3⟩ := and2 h
      obtain ⟨h1, h2⟩ := and2 h
      obtain ⟨q, hq, hq2⟩ := List.any_eq_true.mp h3
      obtain ⟨e1, e2⟩ := and2 hq2
      have e1 : q.1 = y := of_decide_eq_true e1
      have e2 : q.2 = i := of_decide_eq_true e2
      obtain ⟨t, ht⟩ := C.gl q hq
      subst e1 e2
      obtain ⟨g1, g2⟩ := C.gl' h2
      exact r_cst (v := .int q.2) (fun F => .int _) (pe_glob g1 ht ⟨_, rfl⟩ g2)
    | _ => cases h
  | _ => cases h
theorem c_nm (i : Nat) (X : Cx) (sc : Scope) (C : Cy G k N X sc) (x : Expr) (h : cNm N i sc x = true) : PE X x (wV X.K (vNm i)) := by
  cases x with
  | Name y p => exact r_nm (C.pv h)
  | _ => cases h
theorem c_comp (elt : E) (own : List Nat) (t : Tg) (it : E) (e1 : EOk G k N elt) (e2 : EOk G k N it) (X : Cx) (sc : Scope) (C : Cy G k N X sc) (x : Expr) (h : cComp N own t sc (ck G N elt).e ((ck G N it).i sc) x = true) :
    PE X x (wV X.K (vComp (ev (run G.M G.P k) elt).v own t (ev (run G.M G.P k) it).i fYes)) := by
  cases x with
  | ListComp e gs s p =>
    match gs, h with
    | [⟨tg, iter, [], 0⟩], h =>
      have h : ((ck G N elt).e (relS s sc) e && chkTg N s t tg && (ck G N it).i sc tg iter && blkC N sc s (ownN N own) && notSet iter && (tgN t).all fun i => own.contains i) = true := h
      obtain ⟨h, h6⟩ := and2 h
      obtain ⟨h, h5⟩ := and2 h
      obtain ⟨h, h4⟩ := and2 h
      obtain ⟨h, h3⟩ := and2 h
      obtain ⟨h1, h2⟩ := and2 h
      exact r_lc C (e2.i X sc C tg iter h3) h4 h2 h6 h5 (fun X' hK C' => e1.v X' _ C' e h1) (fun X' hK C' => pts_yes)
  | _ => cases h
theorem c_compIf (elt : E) (own : List Nat) (t : Tg) (it c : E) (e1 : EOk G k N elt) (e2 : EOk G k N it) (e3 : EOk G k N c) (X : Cx) (sc : Scope) (C : Cy G k N X sc) (x : Expr) (h : cCompIf N own t sc (ck G N elt).e (ck G N c).t ((ck G N it).i sc) x = true) :
    PE X x (wV X.K (vComp (ev (run G.M G.P k) elt).v own t (ev (run G.M G.P k) it).i (ev (run G.M G.P k) c).t)) := by
  cases x with
  | ListComp e gs s p =>
    match gs, h with
    | [⟨tg, iter, [f], 0⟩], h =>
      have h : ((ck G N elt).e (relS s sc) e && chkTg N s t tg && (ck G N it).i sc tg iter && blkC N sc s (ownN N own) && notSet iter && ((tgN t).all fun i => own.contains i) && (ck G N c).t (relS s sc) f) = true := h
      obtain ⟨h, h7⟩ := and2 h
      obtain ⟨h, h6⟩ := and2 h
      obtain ⟨h, h5⟩ := and2 h
      obtain ⟨h, h4⟩ := and2 h
      obtain ⟨h, h3⟩ := and2 h
      obtain ⟨h1, h2⟩ := and2 h
      exact r_lc C (e2.i X sc C tg iter h3) h4 h2 h6 h5 (fun X' hK C' => e1.v X' _ C' e h1) (fun X' hK C' => pts_one (e3.t X' _ C' f h7))
  | _ => cases h
theorem nmP {X : Cx} {sc : Scope} {i : Nat} {y : Str} (h : nmO N sc i y = true) : notCall0 (.Name y p) = true := rfl
mutual
theorem e_ok : ∀ t : E, EOk G k N t
  | .cst d => .ofV rfl rfl fun X sc C x h => c_cst d X sc x h
  | .glob y d => .ofV rfl rfl fun X sc C x h => c_glob y d X sc C x h
  | .nm i => .ofV rfl rfl fun X sc C x h => c_nm i X sc C x h
  | .bin op a b => .ofV rfl rfl fun X sc C x h => by
    cases x with
    | BinOp l o r p =>
      obtain ⟨h, h3⟩ := and2 (show (decide (opB op = o) && (ck G N a).e sc l && (ck G N b).e sc r) = true from h)
      obtain ⟨h1, h2⟩ := and2 h
      have h1 : opB op = o := of_decide_eq_true h1
      subst h1
      exact r_bin ((e_ok a).v X sc C l h2) ((e_ok b).v X sc C r h3)
    | _ => cases h
  | .neg a => .ofN rfl rfl fun X sc C x h => by
    cases x with
    | UnaryOp o y p => cases o with
      | USub => exact r_neg ((e_ok a).v X sc C y h)
      | _ => cases h
    | _ => cases h
  | .bits a => .ofV rfl rfl fun X sc C x h => by
    unfold cBits at h
    split at h
    · obtain ⟨h, h4⟩ := and2 h
      obtain ⟨h, h3⟩ := and2 h
      obtain ⟨h1, h2⟩ := and2 h
      cases of_decide_eq_true h1
      exact r_bits ((e_ok a).v X sc C _ h2) h4 h3
    · cases h
  | .cmp op a b => by
    have key : ∀ (X : Cx) (sc : Scope), Cy G k N X sc → ∀ x, cCmp op ((ck G N a).e sc) ((ck G N b).e sc) x = true → PE X x (wV X.K (vCmp op (ev (run G.M G.P k) a).v (ev (run G.M G.P k) b).v)) ∧ PT X x (wT X.K (tOf (vCmp op (ev (run G.M G.P k) a).v (ev (run G.M G.P k) b).v))) := fun X sc C x h => by
      unfold cCmp at h
      split at h
      · obtain ⟨h, h4⟩ := and2 h
        obtain ⟨h, h3⟩ := and2 h
        obtain ⟨h1, h2⟩ := and2 h
        cases of_decide_eq_true h1
        exact ⟨r_cmp C.hu ((e_ok a).v X sc C _ h2) ((e_ok b).v X sc C _ h3) h4, r_cmpT C.hu ((e_ok a).v X sc C _ h2) ((e_ok b).v X sc C _ h3) h4⟩
      · cases h
    exact ⟨fun X sc C x h => (key X sc C x h).1, fun X sc C x h => (key X sc C x h).2, fun X sc C o l p h => (nomatch (show false = true from h)), fun X sc C tg x h => (nomatch (show false = true from h))⟩
  | .cmp2 op op2 a b c => by
    have key : ∀ (X : Cx) (sc : Scope), Cy G k N X sc → ∀ x, cCmp2 op op2 ((ck G N a).e sc) ((ck G N b).e sc) ((ck G N c).e sc) x = true → PE X x (wV X.K (vCmp2 op op2 (ev (run G.M G.P k) a).v (ev (run G.M G.P k) b).v (ev (run G.M G.P k) c).v)) ∧ PT X x (wT X.K (tOf (vCmp2 op op2 (ev (run G.M G.P k) a).v (ev (run G.M G.P k) b).v (ev (run G.M G.P k) c).v))) := fun X sc C x h => by
      unfold cCmp2 at h
      split at h
      · obtain ⟨h, h7⟩ := and2 h
        obtain ⟨h, h6⟩ := and2 h
        obtain ⟨h, h5⟩ := and2 h
        obtain ⟨h, h4⟩ := and2 h
        obtain ⟨h, h3⟩ := and2 h
        obtain ⟨h1, h2⟩ := and2 h
        cases of_decide_eq_true h1
        cases of_decide_eq_true h2
        exact ⟨r_cmp2 C.hu ((e_ok a).v X sc C _ h3) ((e_ok b).v X sc C _ h4) ((e_ok c).v X sc C _ h5) h6 h7, r_cmp2T C.hu ((e_ok a).v X sc C _ h3) ((e_ok b).v X sc C _ h4) ((e_ok c).v X sc C _ h5) h6 h7⟩
      · cases h
    exact ⟨fun X sc C x h => (key X sc C x h).1, fun X sc C x h => (key X sc C x h).2, fun X sc C o l p h => (nomatch (show false = true from h)), fun X sc C tg x h => (nomatch (show false = true from h))⟩
  | .and a b => by
    have key : ∀ (X : Cx) (sc : Scope), Cy G k N X sc → ∀ x, cBo .And ((ck G N a).t sc) ((ck G N b).t sc) x = true → PW X x (wT X.K (tAnd (ev (run G.M G.P k) a).t (ev (run G.M G.P k) b).t)) := fun X sc C x h => by
      unfold cBo at h
      split at h
      · obtain ⟨h, h3⟩ := and2 h
        obtain ⟨h1, h2⟩ := and2 h
        cases of_decide_eq_true h1
        exact r_andT ((e_ok a).t X sc C _ h2) ((e_ok b).w X sc C _ _ _ h3)
      · cases h
    refine ⟨fun X sc C x h => ?_, fun X sc C x h => (key X sc C x h).pt, fun X sc C o l p h => key X sc C _ h, fun X sc C tg x h => (nomatch (show false = true from h))⟩
    have h : cBo .And ((ck G N a).e sc) ((ck G N b).e sc) x = true := h
    unfold cBo at h
    split at h
    · obtain ⟨h, h3⟩ := and2 h
      obtain ⟨h1, h2⟩ := and2 h
      cases of_decide_eq_true h1
      exact r_and ((e_ok a).v X sc C _ h2) ((e_ok b).v X sc C _ h3)
    · cases h
  | .or a b => by
    have key : ∀ (X : Cx) (sc : Scope), Cy G k N X sc → ∀ x, cBo .Or ((ck G N a).t sc) ((ck G N b).t sc) x = true → PW X x (wT X.K (tOr (ev (run G.M G.P k) a).t (ev (run G.M G.P k) b).t)) := fun X sc C x h => by
      unfold cBo at h
      split at h
      · obtain ⟨h, h3⟩ := and2 h
        obtain ⟨h1, h2⟩ := and2 h
        cases of_decide_eq_true h1
        exact r_orT ((e_ok a).t X sc C _ h2) ((e_ok b).w X sc C _ _ _ h3)
      · cases h
    refine ⟨fun X sc C x h => ?_, fun X sc C x h => (key X sc C x h).pt, fun X sc C o l p h => key X sc C _ h, fun X sc C tg x h => (nomatch (show false = true from h))⟩
    have h : cBo .Or ((ck G N a).e sc) ((ck G N b).e sc) x = true := h
    unfold cBo at h
    split at h
    · obtain ⟨h, h3⟩ := and2 h
      obtain ⟨h1, h2⟩ := and2 h
      cases of_decide_eq_true h1
      exact r_or ((e_ok a).v X sc C _ h2) ((e_ok b).v X sc C _ h3)
    · cases h
  | .one a => by
    have key : ∀ (X : Cx) (sc : Scope), Cy G k N X sc → ∀ x, cOne ((ck G N a).t sc) x = true → PW X x (wT X.K (ev (run G.M G.P k) a).t) := fun X sc C x h => by
      unfold cOne at h
      split at h
      · rename_i o y p
        cases o with
        | And => exact pw_and1 ((e_ok a).t X sc C _ h)
        | Or => exact pw_or1 ((e_ok a).t X sc C _ h)
      · cases h
    refine ⟨fun X sc C x h => ?_, fun X sc C x h => (key X sc C x h).pt, fun X sc C o l p h => key X sc C _ h, fun X sc C tg x h => (nomatch (show false = true from h))⟩
    have h : cOne ((ck G N a).e sc) x = true := h
    unfold cOne at h
    split at h
    · exact pe_one ((e_ok a).v X sc C _ h)
    · cases h
  | .not a => by
    refine ⟨fun X sc C x h => ?_, fun X sc C x h => ?_, fun X sc C o l p h => (nomatch (show false = true from h)), fun X sc C tg x h => (nomatch (show false = true from h))⟩
    · have h : cNot ((ck G N a).e sc) x = true := h
      unfold cNot at h
      split at h
      · exact r_not ((e_ok a).v X sc C _ h)
      · cases h
    · have h : cNot ((ck G N a).t sc) x = true := h
      unfold cNot at h
      split at h
      · exact r_notT ((e_ok a).t X sc C _ h)
      · cases h
  | .ite c a b => .ofN rfl rfl fun X sc C x h => by
    unfold cIte at h
    split at h
    · obtain ⟨h, h3⟩ := and2 h
      obtain ⟨h1, h2⟩ := and2 h
      exact r_ite ((e_ok c).t X sc C _ h1) ((e_ok a).v X sc C _ h2) ((e_ok b).v X sc C _ h3)
    · cases h
  | .tup es => .ofV rfl rfl fun X sc C x h => by
    unfold cTup at h
    split at h
    · exact r_tup ((es_ok es).d X sc C _ h)
    · cases h
  | .lst es => .ofV rfl rfl fun X sc C x h => by
    unfold cLst at h
    split at h
    · exact r_lst ((es_ok es).d X sc C _ h)
    · cases h
  | .ix a i => .ofV rfl rfl fun X sc C x h => by
    unfold cIx at h
    split at h
    · obtain ⟨h, h3⟩ := and2 h
      obtain ⟨h1, h2⟩ := and2 h
      exact r_ix ((e_ok a).v X sc C _ h1) ((e_ok i).v X sc C _ h2) h3
    · cases h
  | .slF a lo => .ofV rfl rfl fun X sc C x h => by
    unfold cSlF at h
    split at h
    · obtain ⟨h1, h2⟩ := and2 h
      exact r_slF ((e_ok a).v X sc C _ h1) ((e_ok lo).v X sc C _ h2)
    · cases h
  | .slT a lo => .ofV rfl rfl fun X sc C x h => by
    unfold cSlT at h
    split at h
    · obtain ⟨h1, h2⟩ := and2 h
      exact r_slT ((e_ok a).v X sc C _ h1) ((e_ok lo).v X sc C _ h2)
    · cases h
  | .sl a lo hi => .ofV rfl rfl fun X sc C x h => by
    unfold cSl at h
    split at h
    · obtain ⟨h, h3⟩ := and2 h
      obtain ⟨h1, h2⟩ := and2 h
      exact r_sl ((e_ok a).v X sc C _ h1) ((e_ok lo).v X sc C _ h2) ((e_ok hi).v X sc C _ h3)
    · cases h
  | .rev a => .ofV rfl rfl fun X sc C x h => by
    unfold cRev at h
    split at h
    · exact r_rev ((e_ok a).v X sc C _ h)
    · cases h
  | .call f es => .ofV rfl rfl fun X sc C x h => by
    have ih := es_ok es
    unfold cCall at h
    split at h
    · rename_i y p1 xs p2
      obtain ⟨h, h4⟩ := and2 h
      obtain ⟨h, h3⟩ := and2 h
      obtain ⟨h1, h2⟩ := and2 h
      have h1 : G.nm[f]? = some y := of_decide_eq_true h1
      cases es with
      | nil =>
        cases xs with
        | nil => exact r_call0 C h1 h2 h4
        | cons z zs => cases h3
      | cons e es =>
        cases xs with
        | nil => cases h3
        | cons z zs => exact r_call C (ih.a X sc C _ h3) (ih.p sc _ h3) h1 h2 h4
    · cases h
  | .blt b a => .ofV rfl rfl fun X sc C x h => by
    unfold cBlt at h
    split at h
    · obtain ⟨h, h4⟩ := and2 h
      obtain ⟨h, h3⟩ := and2 h
      obtain ⟨h1, h2⟩ := and2 h
      cases of_decide_eq_true h1
      exact r_blt C h2 ((e_ok a).v X sc C _ h3) h4
    · cases h
  | .blt2 b a c => .ofV rfl rfl fun X sc C x h => by
    unfold cBlt2 at h
    split at h
    · obtain ⟨h, h6⟩ := and2 h
      obtain ⟨h, h5⟩ := and2 h
      obtain ⟨h, h4⟩ := and2 h
      obtain ⟨h, h3⟩ := and2 h
      obtain ⟨h1, h2⟩ := and2 h
      cases of_decide_eq_true h1
      exact r_blt2 C h2 ((e_ok a).v X sc C _ h3) ((e_ok c).v X sc C _ h4) h5 h6
    · cases h
  | .pop i => .ofV rfl rfl fun X sc C x h => by
    unfold cPop at h
    split at h
    · obtain ⟨h, h3⟩ := and2 h
      obtain ⟨h1, h2⟩ := and2 h
      cases of_decide_eq_true h1
      exact r_pop (C.pv h2) rfl h3
    · cases h
  | .popAt i a => .ofV rfl rfl fun X sc C x h => by
    unfold cPopAt at h
    split at h
    · obtain ⟨h, h5⟩ := and2 h
      obtain ⟨h, h4⟩ := and2 h
      obtain ⟨h, h3⟩ := and2 h
      obtain ⟨h1, h2⟩ := and2 h
      cases of_decide_eq_true h1
      exact r_popAt (C.pv h2) ((e_ok a).v X sc C _ h4) rfl h3 h5
    · cases h
  | .comp elt own t it => .ofV rfl rfl fun X sc C x h => c_comp elt own t it (e_ok elt) (e_ok it) X sc C x h
  | .compIf elt own t it c => .ofV rfl rfl fun X sc C x h => c_compIf elt own t it c (e_ok elt) (e_ok it) (e_ok c) X sc C x h
  | .rng1 a => .ofI rfl rfl fun X sc C tg x h => by
    unfold cRng1 at h
    split at h
    · obtain ⟨h, h4⟩ := and2 h
      obtain ⟨h, h3⟩ := and2 h
      obtain ⟨h1, h2⟩ := and2 h
      cases of_decide_eq_true h1
      exact r_rng1 C h2 ((e_ok a).v X sc C _ h3) h4
    · cases h
  | .rng2 a b => .ofI rfl rfl fun X sc C tg x h => by
    unfold cRng2 at h
    split at h
    · obtain ⟨h, h6⟩ := and2 h
      obtain ⟨h, h5⟩ := and2 h
      obtain ⟨h, h4⟩ := and2 h
      obtain ⟨h, h3⟩ := and2 h
      obtain ⟨h1, h2⟩ := and2 h
      cases of_decide_eq_true h1
      exact r_rng2 C h2 ((e_ok a).v X sc C _ h3) ((e_ok b).v X sc C _ h4) h5 h6
    · cases h
  | .rng3 a b c => .ofI rfl rfl fun X sc C tg x h => by
    unfold cRng3 at h
    split at h
    · obtain ⟨h, h8⟩ := and2 h
      obtain ⟨h, h7⟩ := and2 h
      obtain ⟨h, h6⟩ := and2 h
      obtain ⟨h, h5⟩ := and2 h
      obtain ⟨h, h4⟩ := and2 h
      obtain ⟨h, h3⟩ := and2 h
      obtain ⟨h1, h2⟩ := and2 h
      cases of_decide_eq_true h1
      exact r_rng3 C h2 ((e_ok a).v X sc C _ h3) ((e_ok b).v X sc C _ h4) ((e_ok c).v X sc C _ h5) h6 h7 h8
    · cases h
  | .enum a => .ofI rfl rfl fun X sc C tg x h => by
    unfold cEnum at h
    split at h
    · obtain ⟨h, h5⟩ := and2 h
      obtain ⟨h, h4⟩ := and2 h
      obtain ⟨h, h3⟩ := and2 h
      obtain ⟨h1, h2⟩ := and2 h
      cases of_decide_eq_true h1
      exact r_enum C h5 h2 ((e_ok a).v X sc C _ h3) h4
    · cases h
  | .zip a b => .ofI rfl rfl fun X sc C tg x h => by
    unfold cZip at h
    split at h
    · obtain ⟨h, h7⟩ := and2 h
      obtain ⟨h, h6⟩ := and2 h
      obtain ⟨h, h5⟩ := and2 h
      obtain ⟨h, h4⟩ := and2 h
      obtain ⟨h, h3⟩ := and2 h
      obtain ⟨h1, h2⟩ := and2 h
      cases of_decide_eq_true h1
      exact r_zip C h7 h2 ((e_ok a).v X sc C _ h3) ((e_ok b).v X sc C _ h4) h5 h6
    · cases h
  | .revd a => .ofI rfl rfl fun X sc C tg x h => by
    unfold cRevd at h
    split at h
    · obtain ⟨h, h4⟩ := and2 h
      obtain ⟨h, h3⟩ := and2 h
      obtain ⟨h1, h2⟩ := and2 h
      cases of_decide_eq_true h1
      exact r_revd C h2 ((e_ok a).v X sc C _ h3) h4
    · cases h
  | .fz a => .ofV rfl rfl fun X sc C x h => r_fz ((e_ok a).v X sc C x h)
theorem es_ok : ∀ t : Es, EsOk G k N t
  | .nil => by
    refine ⟨fun X sc C xs h => ?_, fun X sc C xs h => ?_, fun sc xs h => ?_⟩
    · cases xs with
      | nil => exact r_aNil
      | cons _ _ => cases h
    · cases xs with
      | nil => exact r_dNil
      | cons _ _ => cases h
    · cases xs with
      | nil => rfl
      | cons _ _ => cases h
  | .cons e es => by
    have key : ∀ sc xs, cks G N (.cons e es) sc xs = true → ∃ y ys, xs = y :: ys ∧ (ck G N e).e sc y = true ∧ notStar y = true ∧ cks G N es sc ys = true := fun sc xs h => by
      cases xs with
      | nil => cases h
      | cons y ys =>
        obtain ⟨h, h3⟩ := and2 (show ((ck G N e).e sc y && notStar y && cks G N es sc ys) = true from h)
        obtain ⟨h1, h2⟩ := and2 h
        exact ⟨y, ys, rfl, h1, h2, h3⟩
    refine ⟨fun X sc C xs h => ?_, fun X sc C xs h => ?_, fun sc xs h => ?_⟩
    · obtain ⟨y, ys, rfl, h1, h2, h3⟩ := key sc xs h
      exact r_aCons ((e_ok e).v X sc C y h1) ((es_ok es).a X sc C ys h3) h2
    · obtain ⟨y, ys, rfl, h1, h2, h3⟩ := key sc xs h
      exact r_dCons ((e_ok e).v X sc C y h1) ((es_ok es).d X sc C ys h3) h2
    · obtain ⟨y, ys, rfl, h1, h2, h3⟩ := key sc xs h
      rw [List.all_cons, h2, (es_ok es).p sc ys h3]
      rfl
end
end
end De
end

section
set_option maxHeartbeats 4000000
namespace De
open PySem PySem.Spec PyProof.Rows L2
theorem zip_lookup_not {α : Type} : ∀ {ps : List Str} {us : List α} {x : Str}, x ∉ ps → (ps.zip us).lookup x = none
  | [], _, _, _ => by simp
  | _ :: _, [], _, _ => by simp
  | p :: ps, u :: us, x, h => by
    rw [List.mem_cons, not_or] at h
    rw [List.zip_cons_cons, List.lookup_cons]
    have : (x == p) = false := by simpa using h.1
    rw [this]
    exact zip_lookup_not h.2
theorem zip_map {α : Type} : ∀ {ps : List Str} {us : List α} {rest : List (Str × α)}, ps.Nodup → us.length = ps.length → (∀ x ∈ ps, rest.lookup x = none) → (ps.filterMap fun n => ((rest ++ ps.zip us).lookup n).map (n, ·)) = ps.zip us
  | [], _, _, _, _, _ => by simp
  | p :: ps, u :: us, rest, nd, hl, hr => by
    obtain ⟨n1, n2⟩ := List.nodup_cons.mp nd
    have h1 : (rest ++ (p :: ps).zip (u :: us)).lookup p = some u := by
      rw [List.lookup_append, hr p List.mem_cons_self, List.zip_cons_cons, List.lookup_cons]
      simp
    rw [List.filterMap_cons, h1, List.zip_cons_cons]
    show (p, u) :: _ = _
    congr 1
    have h2 := zip_map (ps := ps) (us := us) (rest := rest ++ [(p, u)]) n2 (Nat.succ.inj hl) (fun x hx => by
      rw [List.lookup_append, hr x (List.mem_cons_of_mem _ hx)]
      have : (x == p) = false := by
        simp
        exact fun z => n1 (z ▸ hx)
      simp [List.lookup_cons, this])
    rw [List.append_assoc] at h2
    exact h2
  | _ :: _, [], _, _, h, _ => by cases h
theorem zip_some {α : Type} : ∀ {ps : List Str} {us : List α}, us.length = ps.length → ∀ x ∈ ps, ((ps.zip us).lookup x).isNone = false
  | [], _, _, _, h => by cases h
  | p :: ps, u :: us, hl, x, h => by
    rw [List.zip_cons_cons, List.lookup_cons]
    cases q : (x == p)
    · have hx : x ∈ ps := by
        rcases List.mem_cons.mp h with e | h
        · rw [e] at q
          simp at q
        · exact h
      exact zip_some (Nat.succ.inj hl) x hx
    · rfl
  | _ :: _, [], h, _, _ => by cases h
def plainP (a : Arguments) (ps : List Str) : Bool := a.posonlyargs.isEmpty && decide (a.args.map (·.arg) = ps) && a.vararg.isNone && a.kwonlyargs.isEmpty && a.kwarg.isNone
theorem bind_plain {fd : FuncData} {ps : List Str} {us : List Value} (hp : plainP fd.params ps = true) (hd : fd.defaults = .none) (nd : ps.Nodup) (hl : us.length = ps.length) : bindArgs fd ⟨us, []⟩ = pure (ps.zip us) := by
  unfold plainP at hp
  simp only [Bool.and_eq_true, List.isEmpty_iff, decide_eq_true_eq, Option.isNone_iff_eq_none] at hp
  obtain ⟨⟨⟨⟨h1, h2⟩, h3⟩, h4⟩, h5⟩ := hp
  have hm : (ps.take (ps.length - 0)).filter (fun n => ((ps.zip us).lookup n).isNone) = [] := by
    rw [Nat.sub_zero, List.take_length, List.filter_eq_nil_iff]
    intro x hx
    rw [zip_some hl x hx]
    exact Bool.false_ne_true
  have hz := zip_map (ps := ps) (us := us) (rest := []) nd hl (fun _ _ => rfl)
  have hs : seqItems? Value.none = pure none := rfl
  have hgt : ¬ (us.length > ps.length) := by omega
  unfold bindArgs
  simp only [h1, h2, h3, h4, h5, hd, hs, List.map_nil, List.nil_append, List.append_nil, List.forIn_nil, pure_bind, Option.getD_none, List.drop_nil, List.length_nil, Nat.sub_zero, hgt, decide_false, Bool.false_and, Bool.false_eq_true, if_false]
  rw [Nat.sub_zero] at hm
  rw [hm, List.zip_nil_right]
  simp only [List.isEmpty_nil, Bool.not_true, Bool.false_eq_true, if_false, List.forIn_nil, pure_bind]
  exact congrArg pure hz

section
variable {G : Pg} {k : Nat} {N : List Str}
mutual
theorem s_ok {X : Cx} {sc : Scope} (C : Cy G k N X sc) (T : Ty N X sc) (hk : sc.kind = .function) (hp : PassesOwn (model X.prog X.w) X.A X.env X.xe) : ∀ (t : S) (x : Stmt), chkS G N sc t x = true → PS X x (wS X.K (evS (run G.M G.P k) G.M t))
  | .asg (.nm i) a, x, h => by
    unfold chkS at h
    split at h <;> try (cases h; done)
    all_goals (rename_i heq; try (cases heq; done))
    cases heq
    rename_i y p v q
    obtain ⟨h, h4⟩ := and2 h
    obtain ⟨h, h3⟩ := and2 h
    obtain ⟨h1, h2⟩ := and2 h
    have h1 : N[i]? = some y := of_decide_eq_true h1
    rw [Bool.or_eq_true, Bool.or_eq_true] at h4
    rcases h4 with (hn | hn) | h5
    · exact s_asg T h1 h2 ((e_ok a).v X sc C v h3) hn
    · exact s_asgNo T C.sc hk h1 h2 ((e_ok a).v X sc C v h3) hn
    · obtain ⟨h5, h6⟩ := and2 h5
      cases a with
      | comp elt own t it =>
        have h3 : cComp N own t sc (ck G N elt).e ((ck G N it).i sc) v = true := h3
        unfold cComp at h3
        split at h3
        · obtain ⟨h3, g6⟩ := and2 h3
          obtain ⟨h3, g5⟩ := and2 h3
          obtain ⟨h3, g4⟩ := and2 h3
          obtain ⟨h3, g3⟩ := and2 h3
          obtain ⟨g1, g2⟩ := and2 h3
          obtain ⟨h6, h9⟩ := and2 h6
          obtain ⟨h7, h8⟩ := and2 h6
          exact (r_setLc C hk h1 h7 h8 (by simpa using h9) ((e_ok it).i X sc C _ _ g3) g4 g2 g6 g5 (fun X' hK C' => (e_ok elt).v X' _ C' _ g1) (fun X' hK C' => pts_yes)).imp fun D σ H w => asg_reads w
        · cases h3
      | compIf elt own t it c =>
        have h3 : cCompIf N own t sc (ck G N elt).e (ck G N c).t ((ck G N it).i sc) v = true := h3
        unfold cCompIf at h3
        split at h3
        · obtain ⟨h3, g7⟩ := and2 h3
          obtain ⟨h3, g6⟩ := and2 h3
          obtain ⟨h3, g5⟩ := and2 h3
          obtain ⟨h3, g4⟩ := and2 h3
          obtain ⟨h3, g3⟩ := and2 h3
          obtain ⟨g1, g2⟩ := and2 h3
          obtain ⟨h6, h9⟩ := and2 h6
          obtain ⟨h7, h8⟩ := and2 h6
          exact (r_setLc C hk h1 h7 h8 (by simpa using h9) ((e_ok it).i X sc C _ _ g3) g4 g2 g6 g5 (fun X' hK C' => (e_ok elt).v X' _ C' _ g1) (fun X' hK C' => pts_one ((e_ok c).t X' _ C' _ g7))).imp fun D σ H w => asg_reads w
        · cases h3
      | _ => cases h5
  | .asg (.tp t) a, x, h => by
    unfold chkS at h
    split at h <;> try (cases h; done)
    all_goals (rename_i heq; try (cases heq; done))
    cases heq
    obtain ⟨h, h3⟩ := and2 h
    obtain ⟨h1, h2⟩ := and2 h
    exact s_asgT T h1 ((e_ok a).v X sc C _ h2) h3
  | .asg .nil a, x, h => by
    unfold chkS at h
    cases h
  | .asg (.cons _ _) a, x, h => by
    unfold chkS at h
    cases h
  | .par t es, x, h => by
    unfold chkS at h
    split at h <;> try (cases h; done)
    all_goals (rename_i heq; try (cases heq; done))
    cases heq
    obtain ⟨h, h3⟩ := and2 h
    obtain ⟨h1, h2⟩ := and2 h
    have hpl := (es_ok (G := G) (k := k) (N := N) es).p sc _ h2
    have ha := (es_ok es).d X sc C _ h2
    split at h3
    · exact s_par2 T C.sc hk h1 hpl ha (by assumption)
    · exact s_par T C.sc hk h1 hpl ha (by assumption)
    · cases h3
  | .set i ix a, x, h => by
    unfold chkS at h
    split at h <;> try (cases h; done)
    all_goals (rename_i heq; try (cases heq; done))
    cases heq
    obtain ⟨h, h4⟩ := and2 h
    obtain ⟨h, h3⟩ := and2 h
    obtain ⟨h1, h2⟩ := and2 h
    exact s_set (C.pv h1) ((e_ok ix).v X sc C _ h2) ((e_ok a).v X sc C _ h4) h3
  | .aug i op a, x, h => by
    unfold chkS at h
    split at h <;> try (cases h; done)
    all_goals (rename_i heq; try (cases heq; done))
    cases heq
    obtain ⟨h, h5⟩ := and2 h
    obtain ⟨h, h4⟩ := and2 h
    obtain ⟨h, h3⟩ := and2 h
    obtain ⟨h1, h2⟩ := and2 h
    cases of_decide_eq_true h1
    exact s_aug h5 T (of_decide_eq_true h2) h3 ((e_ok a).v X sc C _ h4)
  | .augS i ix op a, x, h => by
    unfold chkS at h
    split at h <;> try (cases h; done)
    all_goals (rename_i heq; try (cases heq; done))
    cases heq
    obtain ⟨h, h6⟩ := and2 h
    obtain ⟨h, h5⟩ := and2 h
    obtain ⟨h, h4⟩ := and2 h
    obtain ⟨h, h3⟩ := and2 h
    obtain ⟨h1, h2⟩ := and2 h
    cases of_decide_eq_true h1
    exact s_augS h6 (C.pv h2) ((e_ok ix).v X sc C _ h3) ((e_ok a).v X sc C _ h5) h4
  | .app i a, x, h => by
    unfold chkS at h
    split at h <;> try (cases h; done)
    all_goals (rename_i heq; try (cases heq; done))
    cases heq
    obtain ⟨h, h5⟩ := and2 h
    obtain ⟨h, h4⟩ := and2 h
    obtain ⟨h, h3⟩ := and2 h
    obtain ⟨h1, h2⟩ := and2 h
    cases of_decide_eq_true h1
    exact s_app (C.pv h2) ((e_ok a).v X sc C _ h4) rfl h3 h5
  | .ext i a, x, h => by
    unfold chkS at h
    split at h <;> try (cases h; done)
    all_goals (rename_i heq; try (cases heq; done))
    cases heq
    obtain ⟨h, h5⟩ := and2 h
    obtain ⟨h, h4⟩ := and2 h
    obtain ⟨h, h3⟩ := and2 h
    obtain ⟨h1, h2⟩ := and2 h
    cases of_decide_eq_true h1
    exact s_ext (C.pv h2) ((e_ok a).v X sc C _ h4) rfl h3 h5
  | .ex a, x, h => by
    unfold chkS at h
    split at h <;> try (cases h; done)
    all_goals (rename_i heq; try (cases heq; done))
    cases heq
    obtain ⟨h1, h2⟩ := and2 h
    exact s_ex ((e_ok a).v X sc C _ h1) h2
  | .ite c t f, x, h => by
    unfold chkS at h
    split at h <;> try (cases h; done)
    all_goals (rename_i heq; try (cases heq; done))
    cases heq
    obtain ⟨h, h3⟩ := and2 h
    obtain ⟨h1, h2⟩ := and2 h
    exact s_ite ((e_ok c).t X sc C _ h1) (b_ok C T hk hp t _ h2) (b_ok C T hk hp f _ h3)
  | .whl c b, x, h => by
    unfold chkS at h
    split at h <;> try (cases h; done)
    all_goals (rename_i heq; try (cases heq; done))
    cases heq
    obtain ⟨h1, h2⟩ := and2 h
    exact s_whl hp ((e_ok c).t X sc C _ h1) (b_ok C T hk hp b _ h2)
  | .for t it b, x, h => by
    unfold chkS at h
    split at h <;> try (cases h; done)
    all_goals (rename_i heq; try (cases heq; done))
    cases heq
    obtain ⟨h, h4⟩ := and2 h
    obtain ⟨h, h3⟩ := and2 h
    obtain ⟨h1, h2⟩ := and2 h
    exact s_for hp C.calm ((e_ok it).i X sc C _ _ h2) (r_tgt T t _ h1) (b_ok C T hk hp b _ h4) h3
  | .ret a, x, h => by
    unfold chkS at h
    split at h <;> try (cases h; done)
    all_goals (rename_i heq; try (cases heq; done))
    cases heq
    exact s_ret ((e_ok a).v X sc C _ h)
  | .retN, x, h => by
    cases x with
    | Return v p => cases v with
      | none => exact s_retN
      | some v => simp [chkS] at h
    | _ => simp [chkS] at h
  | .brk, x, h => by
    cases x with
    | Break p => exact s_brk
    | _ => simp [chkS] at h
  | .cont, x, h => by
    cases x with
    | Continue p => exact s_cont
    | _ => simp [chkS] at h
  | .pass, x, h => by
    cases x with
    | Pass p => exact s_pass
    | _ => simp [chkS] at h
  | .never, x, h => s_no
theorem b_ok {X : Cx} {sc : Scope} (C : Cy G k N X sc) (T : Ty N X sc) (hk : sc.kind = .function) (hp : PassesOwn (model X.prog X.w) X.A X.env X.xe) : ∀ (t : Ss) (xs : List Stmt), chkB G N sc t xs = true → PSs X xs (wS X.K (evB (run G.M G.P k) G.M t))
  | .nil, xs, h => by
    cases xs with
    | nil => exact b_nil
    | cons _ _ => simp [chkB] at h
  | .cons s ss, xs, h => by
    cases xs with
    | nil => simp [chkB] at h
    | cons x xs =>
      rw [chkB, Bool.and_eq_true] at h
      exact b_cons (s_ok C T hk hp s x h.1) (b_ok C T hk hp ss xs h.2)
end
end
end De
end

section
set_option maxHeartbeats 4000000
namespace De
open PySem PySem.Spec PyProof.Rows L2

/-! ### a def of the program -/
def chkD (G : Pg) (d : Df) (N ps : List Str) (params : Arguments) (scope : Scope) (body : List Stmt) : Bool :=
  scO N ps scope && decide (d.np = ps.length) && decide (d.ns = N.length) && chkB G N scope d.body body && plainP params ps
structure DOk (G : Pg) (K : PySem.W.Frag) (mg : Str → Option Value) (f : Nat) (d : Df) (x : Str) (fa : Addr) (fd : FuncData) (ps : List Str) : Prop where
  nm : G.nm[f]? = some x
  at_ : mg x = some (.ref fa)
  ex : ∃ (N : List Str) (name qual : Str) (params : Arguments) (body : List Stmt) (scope : Scope) (kws : List (Str × V)), FunD K name qual params body scope [] kws fa fd ∧ chkD G d N ps params scope body = true
structure GOk (G : Pg) (K : PySem.W.Frag) (mg : Str → Option Value) : Prop where
  fns : ∀ f d, G.P[f]? = some d → ∃ x fa fd ps, DOk G K mg f d x fa fd ps
  gl : ∀ q ∈ G.gl, ∃ t, mg q.1 = some (.int q.2 t)
  free : ∀ x ∈ bltNames, mg x = none
section
variable {G : Pg} {K : PySem.W.Frag} {mg : Str → Option Value} {f : Nat} {d : Df} {x : Str} {fa : Addr} {fd : FuncData} {ps : List Str}
theorem DOk.np (D : DOk G K mg f d x fa fd ps) : d.np = ps.length := by
  obtain ⟨N, name, qual, params, body, scope, kws, F, h⟩ := D.ex
  obtain ⟨h, h5⟩ := and2 h
  obtain ⟨h, h4⟩ := and2 h
  obtain ⟨h, h3⟩ := and2 h
  obtain ⟨h1, h2⟩ := and2 h
  exact of_decide_eq_true h2
theorem scO_ok {N ps : List Str} {sc : Scope} (h : scO N ps sc = true) : FnScope N ps sc := by
  unfold scO at h
  obtain ⟨h, h7⟩ := and2 h
  obtain ⟨h, h6⟩ := and2 h
  obtain ⟨h, h5⟩ := and2 h
  obtain ⟨h, h4⟩ := and2 h
  obtain ⟨h, h3⟩ := and2 h
  obtain ⟨h1, h2⟩ := and2 h
  refine ⟨of_decide_eq_true h1, by simpa using h2, by simpa using h3, of_decide_eq_true h4, of_decide_eq_true h5, fun y hy => locO_cases (List.all_eq_true.mp h6 y hy), fun y hy e => ?_⟩
  have := List.all_eq_true.mp h7 y hy
  rw [e] at this
  cases this
theorem DOk.bind (D : DOk G K mg f d x fa fd ps) (s : Shared) (us : List Value) (hl : us.length = ps.length) : BindsTo s fd ⟨us, []⟩ (ps.zip us) := by
  obtain ⟨N, name, qual, params, body, scope, kws, F, h⟩ := D.ex
  obtain ⟨h, h5⟩ := and2 h
  obtain ⟨h, h4⟩ := and2 h
  obtain ⟨h, h3⟩ := and2 h
  obtain ⟨h1, h2⟩ := and2 h
  have nd : ps.Nodup := by
    have S := scO_ok h1
    rw [← S.pre]
    exact S.nd.sublist (List.take_sublist _ _)
  exact F.bindsA (fun kV doc pm an cdv ct us hl => bind_plain h5 rfl nd hl) s us hl
theorem DOk.binds (D : DOk G K mg f d x fa fd ps) : Binds K fd ps [] := fun s us _ hl => by
  rw [List.append_nil] at hl ⊢
  exact D.bind s us hl
theorem DOk.kp (D : DOk G K mg f d x fa fd ps) : PySem.W.keepIn K (.ref fa) = true := by
  obtain ⟨N, name, qual, params, body, scope, kws, F, h⟩ := D.ex
  exact F.kp
end
theorem getPad {σ : List (Option V)} {n i : Nat} {v : V} (h : σ[i]? = some (some v)) : (σ ++ List.replicate n none)[i]? = some (some v) := by
  rw [List.getElem?_append_left (List.getElem?_eq_some_iff.mp h).1]
  exact h
theorem padE {e : En} {n i : Nat} {s : Sv} (h : (e ++ List.replicate n .un)[i]? = some s) (hs : s ≠ .un) : e[i]? = some s := by
  by_cases q : i < e.length
  · rw [List.getElem?_append_left q] at h
    exact h
  · rw [List.getElem?_append_right (by omega)] at h
    have := List.mem_of_getElem? h
    exact absurd (List.mem_replicate.mp this).2 hs
/-- the parameters, the other names unbound -/
theorem Ok.pad {K : PySem.W.Frag} {Y : Fx} {σ : L2.St} {e : En} {F H : Hp} {n : Nat} (k : Ok K Y σ e F H) : Ok K Y (σ ++ List.replicate n none) (e ++ List.replicate n .un) F H where
  len := by rw [List.length_append, List.length_append, List.length_replicate, List.length_replicate, k.len]
  sub := k.sub
  fz := fun i d h => by
    obtain ⟨v, h1, h2⟩ := k.fz i d (padE h fun z => nomatch z)
    exact ⟨v, getPad h1, h2⟩
  ow := fun i b xs h => by
    obtain ⟨p, vs, h1, h2⟩ := k.ow i b xs (padE h fun z => nomatch z)
    exact ⟨p, vs, getPad h1, h2⟩
  inj := fun i j p ⟨⟨b, xs, h1⟩, h2⟩ ⟨⟨b', xs', h3⟩, h4⟩ => by
    have h1 := padE h1 fun z => nomatch z
    have h3 := padE h3 fun z => nomatch z
    obtain ⟨q, _, g1, _⟩ := k.ow i _ _ h1
    obtain ⟨q', _, g3, _⟩ := k.ow j _ _ h3
    rw [getPad g1] at h2
    rw [getPad g3] at h4
    cases h2
    cases h4
    exact k.inj i j p ⟨⟨_, _, h1⟩, g1⟩ ⟨⟨_, _, h3⟩, g3⟩
  grow0 := k.grow0
  new0 := k.new0
  keep0 := k.keep0
  stay0 := k.stay0
  pin := fun i v h => by
    obtain ⟨h1, xs, h2⟩ := k.pin i v h
    refine ⟨getPad h1, xs, ?_⟩
    rw [List.getElem?_append_left (List.getElem?_eq_some_iff.mp h2).1]
    exact h2
section
variable {G : Pg} {K : PySem.W.Frag} {mg : Str → Option Value} {P : Program} {w : World} {base : Heap}
theorem all_ok (g : GOk G K mg) : ∀ (k f : Nat) (d : Df) (x : Str) (fa : Addr) (fd : FuncData) (ps : List Str), G.P[f]? = some d → DOk G K mg f d x fa fd ps → FnOk P w K mg base CX0 k fa fd ps (spD K G k f)
  | 0, f, d, x, fa, fd, ps, hf, D => by
    have no : ∀ vs H Q E, ¬ spD K G 0 f vs H Q E := fun vs H Q E h => by
      obtain ⟨F, io, svs, r, ec, _, h, _⟩ := h
      cases h
    exact ⟨fun vs H Q E h => absurd h (no vs H Q E), fun A outer s H args us vs Q E hr he hb hv h => absurd h (no vs H Q E)⟩
  | k + 1, f, d, x, fa, fd, ps, hf, D => by
    have ih := all_ok g k
    obtain ⟨N, name, qual, params, body, scope, kws, F, h⟩ := D.ex
    obtain ⟨h, h5⟩ := and2 h
    obtain ⟨h, h4⟩ := and2 h
    obtain ⟨h, h3⟩ := and2 h
    obtain ⟨h1, h2⟩ := and2 h
    have S := scO_ok h1
    have h2 : d.np = ps.length := of_decide_eq_true h2
    have h3 : d.ns = N.length := of_decide_eq_true h3
    have len : ∀ vs H Q E, spD K G (k + 1) f vs H Q E → vs.length = ps.length := fun vs H Q E h => by
      obtain ⟨F, io, svs, r, ec, ok, hr, _⟩ := h
      have hl := ok.len
      rw [List.length_map] at hl
      rw [run, hf] at hr
      have hr : runD (run G.M G.P k) G.M d svs = some (r, ec) := hr
      unfold runD at hr
      by_cases q : svs.length = d.np
      · omega
      · rw [if_neg (by simpa using q)] at hr
        cases hr
    refine F.ok S len fun cdv A outer s H vs Q E hr h => ⟨wS K (evB (run G.M G.P k) G.M d.body), ?_, ?_⟩
    · have C : Cy G k N (cxOf CX0 P w K mg base N qual scope fa cdv A outer s H E) scope :=
        ⟨rfl, rfl, S.nd, rfl, g.free, g.gl, fun f' d' hf' => by
          obtain ⟨x', fa', fd', ps', D'⟩ := g.fns f' d' hf'
          exact ⟨x', fa', fd', ps', D'.nm, D'.at_, D'.kp, D'.binds, ih f' d' x' fa' fd' ps' hf' D'⟩, hr⟩
      have T : Ty N (cxOf CX0 P w K mg base N qual scope fa cdv A outer s H E) scope := ⟨rfl, rfl, S.nd, fun x hx => ⟨C.loc hx, .inl rfl⟩⟩
      exact b_ok C T S.kind PassesOwn.leaving d.body body h4
    · have hl := len vs H Q E h
      obtain ⟨F0, io, svs, r, ec, ok, hrun, nu, q⟩ := h
      have hsl := ok.len
      rw [List.length_map] at hsl
      rw [run, hf] at hrun
      have hrun : runD (run G.M G.P k) G.M d svs = some (r, ec) := hrun
      unfold runD at hrun
      rw [if_pos (by simp; omega)] at hrun
      have hs : L2.start N vs = vs.map some ++ List.replicate (d.ns - d.np) none := by
        unfold L2.start
        rw [h3, h2, hl]
      rw [hs]
      cases he : evB (run G.M G.P k) G.M d.body (svs ++ List.replicate (d.ns - d.np) .un) with
      | none => rw [he] at hrun; cases hrun
      | some fl =>
        rw [he] at hrun
        refine ⟨_, _, F0, fl, ok.pad, he, ?_⟩
        cases fl with
        | nx e =>
          cases hrun
          exact fun σ' F' H' ok' => q .non F' H' σ' ok' .non
        | bk e => cases hrun
        | ct e => cases hrun
        | rt r' e =>
          cases r' with
          | d y =>
            cases hrun
            exact fun v σ' F' H' ok' rv => q v F' H' σ' ok' rv
          | own y =>
            cases hrun
            exact fun v σ' F' H' ok' rv => q v F' H' σ' ok' rv
          | loc y => cases hrun
end
/-! ### a law -/
def scr (ns : List Int) : List Sv := [.fz (.dict [(.none, .list (ns.map .int))])]
theorem law_ends {l : PySem.W.OpenLaw} {n k f : Nat} {q : Program} {loose : List Str} {XP : (Str → Option Value) → Heap → Prop} {YP : World → Heap → Prop} {d : DefRec} {G : Pg} {df : Df}
    (hn : l.most = some n) (hn2 : n ≤ sizeLine) (hdf : d.params.defaults = []) (hr : Room k callerA) (hf : G.P[f]? = some df) (h1 : df.np = 1)
    (F : ∀ (w : World) (mg : Str → Option Value) (h : Heap), YP w h → h.Ns mainGlobals mg → ∃ K : PySem.W.Frag, K.In h ∧ GOk G K mg ∧ G.nm[f]? = some d.name)
    (law : ∀ ns : List Int, ns.length ≤ n → (∀ i ∈ ns, Builtin.Int.intBits i ≤ 1048576) → ∃ ec, run G.M G.P k f (scr ns) = some (.d (.bool true), ec)) :
    PySem.W.WalkO q loose XP YP l.row.toRowW d [] (fun f vs => PySem.call f vs) := by
  refine Att.attach_callB hn hdf fun w s₀ s₁ mg mb fa o pm cd doc a vs ns Gr Y ho hd hcd hmg hobj hints hlen hbits hg => ?_
  obtain ⟨K, KX, g, hnm⟩ := F w mg _ Y Gr.T.g
  obtain ⟨x, fa', fd, ps, D⟩ := g.fns f df hf
  have hx := D.nm
  rw [hnm] at hx
  cases hx
  have ha := D.at_
  rw [hmg] at ha
  cases ha
  have hps : ps.length = 1 := by
    rw [← D.np]
    exact h1
  obtain ⟨y, rfl⟩ : ∃ y, ps = [y] := by
    cases ps with
    | nil => cases hps
    | cons y r => cases r with
      | nil => exact ⟨y, rfl⟩
      | cons z r => cases hps
  refine law_call (CX := CX0) KX Gr.T.g Gr.T.b Gr.T.builtins Gr.T.nolimit hg hobj hints (Nat.le_trans hlen hn2) hr (fun base _ _ => all_ok g k f df _ _ _ _ hf D) (fun s u => D.bind s [u] rfl) (fun H hO hS => ?_) fun _ _ _ z => z
  obtain ⟨ec, hrun⟩ := law ns hlen hbits
  refine ⟨H, [], scr ns, _, ec, ⟨rfl, Sub.refl _, fun i d h => ?_, fun i b xs h => ?_, fun i j p ⟨⟨b, xs, h⟩, _⟩ _ => ?_, Sub.refl _, fun a h => .inl h, fun a o h _ => h, fun a h => h, fun i v h => ?_⟩, hrun, fun i r h z => ?_, fun v F' H' σ' ok rv => ?_⟩
  · cases i with
    | zero =>
      cases h
      exact ⟨_, rfl, .scr hS (rpA_ints ns)⟩
    | succ i => simp [scr] at h
  · cases i with
    | zero => cases h
    | succ i => simp [scr] at h
  · cases i with
    | zero => cases h
    | succ i => simp [scr] at h
  · cases i with
    | zero => cases h
    | succ i => simp [pnOf, scr] at h
  · subst z
    cases i with
    | zero => cases h
    | succ i => simp [scr] at h
  · cases rv
    rfl
end De
end

section
set_option maxHeartbeats 4000000
namespace De
open PySem PySem.Spec PyProof.Rows L2

/-! ### a law's program from the head's facts -/
def chkOne (G : Pg) (d : Df) (x : Str) (e : He.DefD) (N : List Str) : Bool :=
  decide (e.at_ = (x, none)) && e.dfl.isEmpty && chkD G d N (e.params.args.map (·.arg)) e.params e.scope e.body
def chkAll (G : Pg) : List Df → List Str → List He.DefD → List (List Str) → Bool
  | [], [], [], [] => true
  | d :: ds, x :: xs, e :: es, N :: Ns => chkOne G d x e N && chkAll G ds xs es Ns
  | _, _, _, _ => false
def facts (G : Pg) : List He.Fa := (G.nm.map He.Fa.glo ++ G.gl.map fun q => He.Fa.int q.1 q.2) ++ bltNames.map He.Fa.free
theorem chkAll_at {G : Pg} : ∀ {ds : List Df} {xs : List Str} {es : List He.DefD} {Ns : List (List Str)} (_ : chkAll G ds xs es Ns = true) (f : Nat) {d : Df}, ds[f]? = some d →
    ∃ x e N, xs[f]? = some x ∧ es[f]? = some e ∧ chkOne G d x e N = true
  | [], _, _, _, _, f, d, h => by simp at h
  | d :: ds, x :: xs, e :: es, N :: Ns, h, f, d', hd => by
    obtain ⟨h1, h2⟩ := and2 (show (chkOne G d x e N && chkAll G ds xs es Ns) = true from h)
    cases f with
    | zero =>
      simp at hd
      subst hd
      exact ⟨x, e, N, rfl, rfl, h1⟩
    | succ f =>
      obtain ⟨x', e', N', a, b, c⟩ := chkAll_at h2 f (d := d') (by simpa using hd)
      exact ⟨x', e', N', by simpa using a, by simpa using b, c⟩
  | _ :: _, [], _, _, h, _, _, _ => by simp [chkAll] at h
  | _ :: _, _ :: _, [], _, h, _, _, _ => by simp [chkAll] at h
  | _ :: _, _ :: _, _ :: _, [], h, _, _, _ => by simp [chkAll] at h
theorem gok {G : Pg} {fn : List He.DefD} {Ns : List (List Str)} {K : PySem.W.Frag} {h : Heap} {mg : Str → Option Value} (X : K.In h) (Gn : h.Ns mainGlobals mg) (c : He.SaysD (facts G) fn K) (hc : chkAll G G.P G.nm fn Ns = true) : GOk G K mg := by
  have fact : ∀ f ∈ facts G, f.ok K = true := fun f hf => by
    obtain ⟨i, hi⟩ := List.getElem?_of_mem hf
    exact c.fact i hi
  refine ⟨fun f d hd => ?_, fun q hq => ?_, fun x hx => ?_⟩
  · obtain ⟨x, e, N, h1, h2, h3⟩ := chkAll_at hc f hd
    obtain ⟨h3, h5⟩ := and2 (show (decide (e.at_ = (x, none)) && e.dfl.isEmpty && chkD G d N (e.params.args.map (·.arg)) e.params e.scope e.body) = true from h3)
    obtain ⟨h3, h4⟩ := and2 h3
    have h3 : e.at_ = (x, none) := of_decide_eq_true h3
    obtain ⟨fd, F⟩ := c.def_ f h2
    have hz : e.dvs K = [] := by
      unfold He.DefD.dvs
      rw [List.isEmpty_iff.mp h4]
      rfl
    rw [hz] at F
    have ha : He.fAd K e.at_ = He.ga K x := by
      rw [h3]
      rfl
    rw [ha] at F
    refine ⟨x, He.ga K x, fd, e.params.args.map (·.arg), h1, ?_, N, _, _, _, _, _, _, F, h5⟩
    exact He.glo_ok X Gn (fact (.glo x) (List.mem_append_left _ (List.mem_append_left _ (List.mem_map_of_mem (List.mem_of_getElem? h1)))))
  · exact He.int_ok X Gn (fact (.int q.1 q.2) (List.mem_append_left _ (List.mem_append_right _ (List.mem_map_of_mem (f := fun q : Str × Int => He.Fa.int q.1 q.2) hq))))
  · exact He.free_ok X Gn (fact (.free x) (List.mem_append_right _ (List.mem_map_of_mem hx)))
end De
end

section
set_option maxHeartbeats 4000000
namespace De
open PySem
section
variable {a b c d x y : Int} {p q r s t u : Dt} {xs ys : List Dt} {e : En}
theorem z_add : bop .add (.int a) (.int b) = some (.d (.int (a + b))) := rfl
theorem z_sub : bop .sub (.int a) (.int b) = some (.d (.int (a - b))) := rfl
theorem z_mul (h : mulOk a b = true) : bop .mul (.int a) (.int b) = some (.d (.int (a * b))) := if_pos h
theorem z_fdiv (h : divOk b = true) : bop .fdiv (.int a) (.int b) = some (.d (.int (a.fdiv b))) := if_pos h
theorem z_mod (h : b ≠ 0) : bop .mod (.int a) (.int b) = some (.d (.int (a.fmod b))) := if_pos (decide_eq_true h)
theorem z_xor : bop .xor (.int a) (.int b) = some (.d (.int (Builtin.bitXor a b))) := rfl
theorem z_catL (h : xs.length + ys.length ≤ 1000000) : bop .add (.list xs) (.list ys) = some (.own (xs ++ ys)) := if_pos (decide_eq_true h)
theorem z_catT (h : xs.length + ys.length ≤ 1000000) : bop .add (.tuple xs) (.tuple ys) = some (.d (.tuple (xs ++ ys))) := if_pos (decide_eq_true h)
theorem z_repT (h : 0 ≤ a) (h2 : a ≤ 1000) (h3 : xs.length ≤ 1000) : bop .mul (.tuple xs) (.int a) = some (.d (.tuple (rep a.toNat xs))) := if_pos (by rw [decide_eq_true h, decide_eq_true h2, decide_eq_true h3]; rfl)
theorem z_eq : cop .eq (.int a) (.int b) = some (decide (a = b)) := rfl
theorem z_ne : cop .ne (.int a) (.int b) = some (!decide (a = b)) := rfl
theorem z_lt : cop .lt (.int a) (.int b) = some (decide (a < b)) := rfl
theorem z_le : cop .le (.int a) (.int b) = some (decide (a ≤ b)) := rfl
theorem z_gt : cop .gt (.int a) (.int b) = some (decide (b < a)) := rfl
theorem z_ge : cop .ge (.int a) (.int b) = some (decide (b ≤ a)) := rfl
theorem z_dd : deref e (.d p) = some p := rfl
theorem z_do : deref e (.own xs) = some (.list xs) := rfl
theorem z_dl {i : Nat} : deref e (.loc i) = match e[i]? with
  | some (.fz d) => some d
  | some (.ow _ xs) => some (.list xs)
  | _ => none := rfl
theorem z_tb {k : Bool} : truth (.bool k) = some k := rfl
theorem z_lenL : blt .len [.list xs] = some (.d (.int xs.length)) := rfl
theorem z_lenT : blt .len [.tuple xs] = some (.d (.int xs.length)) := rfl
theorem z_int : blt .int [.int a] = some (.d (.int a)) := rfl
theorem z_intB {k : Bool} : blt .int [.bool k] = some (.d (.int (if k then 1 else 0))) := rfl
theorem z_abs : blt .abs [.int a] = some (.d (.int (if a < 0 then -a else a))) := rfl
theorem z_max : blt .max [.int a, .int b] = some (.d (.int (if b > a then b else a))) := rfl
theorem z_min : blt .min [.int a, .int b] = some (.d (.int (if b < a then b else a))) := rfl
theorem z_tupL : blt .tuple [.list xs] = some (.d (.tuple xs)) := rfl
theorem z_tupT : blt .tuple [.tuple xs] = some (.d (.tuple xs)) := rfl
theorem z_lstL : blt .list [.list xs] = some (.own xs) := rfl
theorem z_lstT : blt .list [.tuple xs] = some (.own xs) := rfl
theorem z_scr : blt .list [.dict [(.none, .list xs)]] = some (.own xs) := rfl
theorem ix0 : ixD (p :: xs) 0 = some p := by
  unfold ixD L2.atI L2.ixN
  rw [if_pos (by omega), if_pos (by simp only [List.length_cons]; omega)]
  rfl
theorem ix1 : ixD (p :: q :: xs) 1 = some q := by
  unfold ixD L2.atI L2.ixN
  rw [if_pos (by omega), if_pos (by simp only [List.length_cons]; omega)]
  rfl
theorem ix2 : ixD (p :: q :: r :: xs) 2 = some r := by
  unfold ixD L2.atI L2.ixN
  rw [if_pos (by omega), if_pos (by simp only [List.length_cons]; omega)]
  rfl
theorem ix3 : ixD (p :: q :: r :: s :: xs) 3 = some s := by
  unfold ixD L2.atI L2.ixN
  rw [if_pos (by omega), if_pos (by simp only [List.length_cons]; omega)]
  rfl
theorem ix4 : ixD (p :: q :: r :: s :: t :: xs) 4 = some t := by
  unfold ixD L2.atI L2.ixN
  rw [if_pos (by omega), if_pos (by simp only [List.length_cons]; omega)]
  rfl
theorem ixn1 : L2.ixN (p :: q :: r :: s :: t :: u :: xs).length 1 = some 1 := by
  unfold L2.ixN
  rw [if_pos (by omega), if_pos (by simp only [List.length_cons]; omega)]
  rfl
theorem ixn2 : L2.ixN (p :: q :: r :: s :: t :: u :: xs).length 2 = some 2 := by
  unfold L2.ixN
  rw [if_pos (by omega), if_pos (by simp only [List.length_cons]; omega)]
  rfl
theorem ixn3 : L2.ixN (p :: q :: r :: s :: t :: u :: xs).length 3 = some 3 := by
  unfold L2.ixN
  rw [if_pos (by omega), if_pos (by simp only [List.length_cons]; omega)]
  rfl
theorem ixn4 : L2.ixN (p :: q :: r :: s :: t :: u :: xs).length 4 = some 4 := by
  unfold L2.ixN
  rw [if_pos (by omega), if_pos (by simp only [List.length_cons]; omega)]
  rfl
theorem ixNat {i : Int} (h : 0 ≤ i) (h2 : i < xs.length) : ixD xs i = xs[i.toNat]? := by
  unfold ixD L2.atI L2.ixN
  rw [if_pos h, if_pos h2]
  rfl
theorem runD_d {cf : CF} {M : Nat} {d : Df} {svs : List Sv} {e' : En} (e : En) {r : Dt} (hl : svs.length = d.np) (he : svs ++ List.replicate (d.ns - d.np) .un = e) (h : evB cf M d.body e = some (.rt (.d r) e')) : runD cf M d svs = some (.d r, e') := by
  unfold runD
  rw [if_pos (decide_eq_true hl), he, h]
theorem runD_own {cf : CF} {M : Nat} {d : Df} {svs : List Sv} {e' : En} (e : En) {r : List Dt} (hl : svs.length = d.np) (he : svs ++ List.replicate (d.ns - d.np) .un = e) (h : evB cf M d.body e = some (.rt (.own r) e')) : runD cf M d svs = some (.own r, e') := by
  unfold runD
  rw [if_pos (decide_eq_true hl), he, h]
end
/-! applied -/
theorem x_vCst (d : Dt) (e : En) : vCst d e = (some (.d d, e)) := rfl
theorem x_vNm (i : Nat) (e : En) : vNm i e = (match e[i]? with
  | some (.fz d) => some (.d d, e)
  | some (.ow _ _) => some (.loc i, e)
  | _ => none) := rfl
theorem x_vBin (op : Bop) (a b : FV) (e : En) : vBin op a b e = (match a e with
  | some (x, e1) => match b e1 with
    | some (y, e2) => match deref e2 x, deref e2 y with
      | some p, some q => match bop op p q with
        | some r => some (r, e2)
        | none => none
      | _, _ => none
    | none => none
  | none => none) := rfl
theorem x_vNeg (a : FV) (e : En) : vNeg a e = (match a e with
  | some (.d (.int i), e1) => some (.d (.int (-i)), e1)
  | _ => none) := rfl
theorem x_vBits (a : FV) (e : En) : vBits a e = (match a e with
  | some (.d (.int i), e1) => some (.d (.int (Builtin.Int.intBits i : Nat)), e1)
  | _ => none) := rfl
theorem x_vCmp (op : Cop) (a b : FV) (e : En) : vCmp op a b e = (match a e with
  | some (x, e1) => match b e1 with
    | some (y, e2) => match deref e2 x, deref e2 y with
      | some p, some q => match cop op p q with
        | some k => some (.d (.bool k), e2)
        | none => none
      | _, _ => none
    | none => none
  | none => none) := rfl
theorem x_vCmp2 (op op2 : Cop) (a b c : FV) (e : En) : vCmp2 op op2 a b c e = (match a e with
  | some (x, e1) => match b e1 with
    | some (y, e2) => match deref e2 x, deref e2 y with
      | some p, some q => match cop op p q with
        | some true => match c e2 with
          | some (z, e3) => match deref e3 y, deref e3 z with
            | some q', some r => match cop op2 q' r with
              | some k => some (.d (.bool k), e3)
              | none => none
            | _, _ => none
          | none => none
        | some false => some (.d (.bool false), e2)
        | none => none
      | _, _ => none
    | none => none
  | none => none) := rfl
theorem x_vAnd (a b : FV) (e : En) : vAnd a b e = (match a e with
  | some (.d (.bool true), e1) => b e1
  | some (.d (.bool false), e1) => some (.d (.bool false), e1)
  | _ => none) := rfl
theorem x_vOr (a b : FV) (e : En) : vOr a b e = (match a e with
  | some (.d (.bool true), e1) => some (.d (.bool true), e1)
  | some (.d (.bool false), e1) => b e1
  | _ => none) := rfl
theorem x_vNot (a : FV) (e : En) : vNot a e = (match a e with
  | some (.d (.bool k), e1) => some (.d (.bool (!k)), e1)
  | _ => none) := rfl
theorem x_vIte (c : FT) (a b : FV) (e : En) : vIte c a b e = (match c e with
  | some (true, e1) => a e1
  | some (false, e1) => b e1
  | none => none) := rfl
theorem x_vTup (es : FI) (e : En) : vTup es e = (match es e with
  | some (ds, e2) => if small ds then some (.d (.tuple ds), e2) else none
  | none => none) := rfl
theorem x_vLst (es : FI) (e : En) : vLst es e = (match es e with
  | some (ds, e2) => if small ds then some (.own ds, e2) else none
  | none => none) := rfl
theorem x_vIx (a i : FV) (e : En) : vIx a i e = (match a e with
  | some (x, e1) => match i e1 with
    | some (.d (.int k), e2) => match deref e2 x with
      | some (.list xs) => match ixD xs k with
        | some d => some (.d d, e2)
        | none => none
      | some (.tuple xs) => match ixD xs k with
        | some d => some (.d d, e2)
        | none => none
      | _ => none
    | _ => none
  | none => none) := rfl
theorem x_vSlF (a lo : FV) (e : En) : vSlF a lo e = (match a e with
  | some (x, e1) => match lo e1 with
    | some (.d (.int k), e2) => match deref e2 x with
      | some d => match slice d (some k) none with
        | some r => some (r, e2)
        | none => none
      | none => none
    | _ => none
  | none => none) := rfl
theorem x_vSlT (a hi : FV) (e : En) : vSlT a hi e = (match a e with
  | some (x, e1) => match hi e1 with
    | some (.d (.int k), e2) => match deref e2 x with
      | some d => match slice d none (some k) with
        | some r => some (r, e2)
        | none => none
      | none => none
    | _ => none
  | none => none) := rfl
theorem x_vSl (a lo hi : FV) (e : En) : vSl a lo hi e = (match a e with
  | some (x, e1) => match lo e1 with
    | some (.d (.int k), e2) => match hi e2 with
      | some (.d (.int l), e3) => match deref e3 x with
        | some d => match slice d (some k) (some l) with
          | some r => some (r, e3)
          | none => none
        | none => none
      | _ => none
    | _ => none
  | none => none) := rfl
theorem x_vRev (a : FV) (e : En) : vRev a e = (match a e with
  | some (x, e1) => match deref e1 x with
    | some (.list xs) => some (.own xs.reverse, e1)
    | _ => none
  | none => none) := rfl
theorem x_vCall (c : List Sv → Option (Rv × En)) (es : FA) (e : En) : vCall c es e = (match es e with
  | some (rs, e1) => match argsOf e1 rs with
    | some svs => if decide (locs rs).Nodup then match c svs with
        | some (r, ec) => match backs e1 rs ec with
          | some e2 => some (r, e2)
          | none => none
        | none => none
      else none
    | none => none
  | none => none) := rfl
theorem x_vBlt (b : Blt) (a : FV) (e : En) : vBlt b a e = (match a e with
  | some (x, e1) => match deref e1 x with
    | some d => match blt b [d] with
      | some r => some (r, e1)
      | none => none
    | none => none
  | none => none) := rfl
theorem x_vBlt2 (b : Blt) (a c : FV) (e : En) : vBlt2 b a c e = (match a e with
  | some (.d x, e1) => match c e1 with
    | some (.d y, e2) => match blt b [x, y] with
      | some r => some (r, e2)
      | none => none
    | _ => none
  | _ => none) := rfl
theorem x_vPop (i : Nat) (e : En) : vPop i e = (match e[i]? with
  | some (.ow b xs) => match xs[xs.length - 1]? with
    | some d => some (.d d, e.set i (.ow b xs.dropLast))
    | none => none
  | _ => none) := rfl
theorem x_vPopAt (i : Nat) (a : FV) (e : En) : vPopAt i a e = (match a e with
  | some (.d (.int k), e1) => match e1[i]? with
    | some (.ow b xs) => match L2.ixN xs.length k with
      | some j => match xs[j]? with
        | some d => if rngOk k && isOw e i then some (.d d, e1.set i (.ow b (xs.eraseIdx j))) else none
        | none => none
      | none => none
    | _ => none
  | _ => none) := rfl
theorem x_fYes  (e : En) : fYes  e = (some (true, e)) := rfl
theorem x_vComp (elt : FV) (own : List Nat) (t : Tg) (it : FI) (c : FT) (e : En) : vComp elt own t it c e = (match it e with
  | some (ds, e1) => match compL (turnC elt own t c) ds (wipeE e1 own) with
    | some (ys, e2) => if small ys && ownOk e1 own then some (.own ys, back e1 e2 own) else none
    | none => none
  | none => none) := rfl
theorem x_vFz (a : FV) (e : En) : vFz a e = (match a e with
  | some (x, e1) => match frz x e1 with
    | some (d, e2) => some (.d d, e2)
    | none => none
  | none => none) := rfl
theorem x_vNo  (e : En) : vNo  e = (none) := rfl
theorem x_tOf (a : FV) (e : En) : tOf a e = (match a e with
  | some (x, e1) => match deref e1 x with
    | some d => match truth d with
      | some k => some (k, e1)
      | none => none
    | none => none
  | none => none) := rfl
theorem x_tAnd (a b : FT) (e : En) : tAnd a b e = (match a e with
  | some (true, e1) => b e1
  | some (false, e1) => some (false, e1)
  | none => none) := rfl
theorem x_tOr (a b : FT) (e : En) : tOr a b e = (match a e with
  | some (true, e1) => some (true, e1)
  | some (false, e1) => b e1
  | none => none) := rfl
theorem x_tNot (a : FT) (e : En) : tNot a e = (match a e with
  | some (k, e1) => some (!k, e1)
  | none => none) := rfl
theorem x_iOf (a : FV) (e : En) : iOf a e = (match a e with
  | some (x, e1) => match frz x e1 with
    | some (.list xs, e2) => some (xs, e2)
    | some (.tuple xs, e2) => some (xs, e2)
    | _ => none
  | none => none) := rfl
theorem x_iNo  (e : En) : iNo  e = (none) := rfl
theorem x_iRng1 (a : FV) (e : En) : iRng1 a e = (match a e with
  | some (.d (.int n), e1) => if rngOk n then some (rngL 0 1 0 n.toNat, e1) else none
  | _ => none) := rfl
theorem x_iRng2 (a b : FV) (e : En) : iRng2 a b e = (match a e with
  | some (.d (.int m), e1) => match b e1 with
    | some (.d (.int n), e2) => if rngOk m && rngOk n then some (rngL m 1 0 (n - m).toNat, e2) else none
    | _ => none
  | _ => none) := rfl
theorem x_iRng3 (a b c : FV) (e : En) : iRng3 a b c e = (match a e with
  | some (.d (.int m), e1) => match b e1 with
    | some (.d (.int n), e2) => match c e2 with
      | some (.d (.int k), e3) => if rng3Ok m n k then some (rngL m k 0 (Builtin.Range.rangeSize m n k).toNat, e3) else none
      | _ => none
    | _ => none
  | _ => none) := rfl
theorem x_iEnum (a : FV) (e : En) : iEnum a e = (match a e with
  | some (x, e1) => match frz x e1 with
    | some (.list xs, e2) => some (enumL 0 xs, e2)
    | some (.tuple xs, e2) => some (enumL 0 xs, e2)
    | _ => none
  | none => none) := rfl
theorem x_iZip (a b : FV) (e : En) : iZip a b e = (match a e with
  | some (x, e1) => match frz x e1 with
    | some (p, e2) => match b e2 with
      | some (y, e3) => match frz y e3 with
        | some (q, e4) => match p, q with
          | .list xs, .list ys => some (zipL xs ys, e4)
          | .tuple xs, .tuple ys => some (zipL xs ys, e4)
          | _, _ => none
        | none => none
      | none => none
    | none => none
  | none => none) := rfl
theorem x_iRevd (a : FV) (e : En) : iRevd a e = (match a e with
  | some (x, e1) => match frz x e1 with
    | some (.list xs, e2) => some (xs.reverse, e2)
    | some (.tuple xs, e2) => some (xs.reverse, e2)
    | _ => none
  | none => none) := rfl
theorem x_aNil  (e : En) : aNil  e = (some ([], e)) := rfl
theorem x_aCons (a : FV) (es : FA) (e : En) : aCons a es e = (match a e with
  | some (.loc i, e1) => match es e1 with
    | some (xs, e2) => some (.loc i :: xs, e2)
    | none => none
  | some (.d x, e1) => match es e1 with
    | some (xs, e2) => some (.d x :: xs, e2)
    | none => none
  | some (.own x, e1) => match es e1 with
    | some (xs, e2) => some (.d (.list x) :: xs, e2)
    | none => none
  | none => none) := rfl
theorem x_dNil  (e : En) : dNil  e = (some ([], e)) := rfl
theorem x_sAsg (i : Nat) (a : FV) (e : En) : sAsg i a e = (match a e with
  | some (x, e1) => match store e1 i x with
    | some e2 => some (.nx e2)
    | none => none
  | none => none) := rfl
theorem x_sAsgT (t : Tg) (a : FV) (e : En) : sAsgT t a e = (match a e with
  | some (x, e1) => match frz x e1 with
    | some (d, e2) => match tgt (.tp t) d e2 with
      | some e3 => some (.nx e3)
      | none => none
    | none => none
  | none => none) := rfl
theorem x_sPar (t : Tg) (es : FI) (e : En) : sPar t es e = (match es e with
  | some (ds, e2) => match tgts t ds e2 with
    | some e3 => if small ds then some (.nx e3) else none
    | none => none
  | none => none) := rfl
theorem x_sSet (i : Nat) (ix a : FV) (e : En) : sSet i ix a e = (match a e with
  | some (x, e1) => match frz x e1 with
    | some (d, e2) => match ix e2 with
      | some (.d (.int k), e3) => match e3[i]? with
        | some (.ow b xs) => match L2.ixN xs.length k with
          | some j => if isOw e2 i then some (.nx (e3.set i (.ow b (xs.set j d)))) else none
          | none => none
        | _ => none
      | _ => none
    | none => none
  | none => none) := rfl
theorem x_sAug (i : Nat) (op : Bop) (a : FV) (e : En) : sAug i op a e = (match e[i]? with
  | some (.fz (.int p)) => match a e with
    | some (.d (.int q), e1) => match bop op (.int p) (.int q) with
      | some (.d r) => match put e1 i (.fz r) with
        | some e2 => some (.nx e2)
        | none => none
      | _ => none
    | _ => none
  | _ => none) := rfl
theorem x_sAugS (i : Nat) (ix : FV) (op : Bop) (a : FV) (e : En) : sAugS i ix op a e = (match ix e with
  | some (.d (.int k), e1) => match e1[i]? with
    | some (.ow _ xs) => match ixD xs k with
      | some (.int p) => match a e1 with
        | some (.d (.int q), e2) => match bop op (.int p) (.int q) with
          | some (.d r) => match e2[i]? with
            | some (.ow b ys) => match L2.ixN ys.length k with
              | some j => if isOw e i then some (.nx (e2.set i (.ow b (ys.set j r)))) else none
              | none => none
            | _ => none
          | _ => none
        | _ => none
      | _ => none
    | _ => none
  | _ => none) := rfl
theorem x_sApp (i : Nat) (a : FV) (e : En) : sApp i a e = (match a e with
  | some (x, e1) => match frz x e1 with
    | some (d, e2) => match e2[i]? with
      | some (.ow b xs) => if decide (xs.length < lim) && isOw e i then some (.nx (e2.set i (.ow b (xs ++ [d])))) else none
      | _ => none
    | none => none
  | none => none) := rfl
theorem x_sExt (i : Nat) (a : FV) (e : En) : sExt i a e = (match a e with
  | some (x, e1) => match frz x e1 with
    | some (.list ds, e2) => match e2[i]? with
      | some (.ow b xs) => if decide (xs.length + ds.length ≤ lim) && isOw e i then some (.nx (e2.set i (.ow b (xs ++ ds)))) else none
      | _ => none
    | _ => none
  | none => none) := rfl
theorem x_sEx (a : FV) (e : En) : sEx a e = (match a e with
  | some (_, e1) => some (.nx e1)
  | none => none) := rfl
theorem x_sIte (c : FT) (t f : FS) (e : En) : sIte c t f e = (match c e with
  | some (true, e1) => t e1
  | some (false, e1) => f e1
  | none => none) := rfl
theorem x_sFor (t : Tg) (it : FI) (b : FS) (e : En) : sFor t it b e = (match it e with
  | some (ds, e1) => forL (fun d e => match tgt t d e with
      | some e2 => b e2
      | none => none) ds e1
  | none => none) := rfl
theorem x_sRet (a : FV) (e : En) : sRet a e = (match a e with
  | some (.d x, e1) => some (.rt (.d x) e1)
  | some (.own xs, e1) => some (.rt (.own xs) e1)
  | some (.loc i, e1) => match e1[i]? with
    | some (.fz d) => some (.rt (.d d) e1)
    | some (.ow false xs) => some (.rt (.own xs) (e1.set i .un))
    | _ => none
  | none => none) := rfl
theorem x_sRetN  (e : En) : sRetN  e = (some (.rt (.d .none) e)) := rfl
theorem x_sBrk  (e : En) : sBrk  e = (some (.bk e)) := rfl
theorem x_sCont  (e : En) : sCont  e = (some (.ct e)) := rfl
theorem x_sPass  (e : En) : sPass  e = (some (.nx e)) := rfl
theorem x_sNo  (e : En) : sNo  e = (none) := rfl
theorem x_sSeq (s b : FS) (e : En) : sSeq s b e = (match s e with
  | some (.nx e1) => b e1
  | some (.rt r e1) => some (.rt r e1)
  | some (.bk e1) => some (.bk e1)
  | some (.ct e1) => some (.ct e1)
  | none => none) := rfl
theorem x_dCons (a : FV) (es : FI) (e : En) : dCons a es e = (match a e with
  | some (x, e1) => match frz x e1 with
    | some (d, e2) => match es e2 with
      | some (ds, e3) => some (d :: ds, e3)
      | none => none
    | none => none
  | none => none) := rfl
def forB (t : Tg) (b : FS) : Dt → En → Option Fl := fun d e => match tgt t d e with
  | some e2 => b e2
  | none => none
theorem x_forB (t : Tg) (b : FS) (d : Dt) (e : En) : forB t b d e = (match tgt t d e with
  | some e2 => b e2
  | none => none) := rfl
theorem x_sForB (t : Tg) (it : FI) (b : FS) (e : En) : sFor t it b e = (match it e with
  | some (ds, e1) => forL (forB t b) ds e1
  | none => none) := rfl
theorem x_turnC (elt : FV) (own : List Nat) (t : Tg) (c : FT) (d : Dt) (e : En) : turnC elt own t c d e = (match tgt t d e with
  | some e2 => match c e2 with
    | some (true, e2) => match elt e2 with
      | some (r, e3) => match frz r e3 with
        | some (y, e4) => some ([y], wipeE e4 own)
        | none => none
      | none => none
    | some (false, e2) => some ([], wipeE e2 own)
    | none => none
  | none => none) := rfl
theorem nd0 : (([] : List Nat).Nodup) = True := by simp
theorem nd1 (a : Nat) : (([a] : List Nat).Nodup) = True := by simp
theorem iRng3_of {a b c : FV} {e e1 e2 e3 : En} {m n k : Int} {ds : List Dt} (ha : a e = some (.d (.int m), e1)) (hb : b e1 = some (.d (.int n), e2)) (hc : c e2 = some (.d (.int k), e3)) (h : rng3Ok m n k = true) (hd : rngL m k 0 (Builtin.Range.rangeSize m n k).toNat = ds) : iRng3 a b c e = some (ds, e3) := by
  unfold iRng3
  rw [ha]
  simp only [hb, hc]
  rw [if_pos h, hd]
theorem sSeq_nx {s b : FS} {e e1 : En} {r : Option Fl} (h : s e = some (.nx e1)) (h2 : b e1 = r) : sSeq s b e = r := by
  unfold sSeq
  rw [h]
  exact h2
theorem sSeq_rt {s b : FS} {e e1 : En} {r : Rv} (h : s e = some (.rt r e1)) : sSeq s b e = some (.rt r e1) := by
  unfold sSeq
  rw [h]
theorem sIte_f {c : FT} {t f : FS} {e e1 : En} {r : Option Fl} (h : c e = some (false, e1)) (h2 : f e1 = r) : sIte c t f e = r := by
  unfold sIte
  rw [h]
  exact h2
theorem sIte_t {c : FT} {t f : FS} {e e1 : En} {r : Option Fl} (h : c e = some (true, e1)) (h2 : t e1 = r) : sIte c t f e = r := by
  unfold sIte
  rw [h]
  exact h2
theorem sFor_of {t : Tg} {it : FI} {b : FS} {e e1 : En} {ds : List Dt} {r : Option Fl} (h : it e = some (ds, e1)) (h2 : forL (forB t b) ds e1 = r) : sFor t it b e = r := by
  rw [x_sForB, h]
  exact h2
end De
end

section
set_option maxHeartbeats 0
namespace Lawk83
open PySem PySem.Spec PyProof.Rows L2 De
def top (i : Nat) : Stmt := PySem.Challenge.pw_wholeproof_k83_whole_figures_of_changed.main.body.getD i (.Pass ⟨0, 0, 0, 0⟩)
def dd (i : Nat) (x y : Str) : He.DefD := ⟨(x, none), y, y, defArgs (top i), defBody (top i), defScope (top i), [], []⟩
def b__law_pool : Ss :=
 (.cons (.ret (.lst (.cons (.blt .list (.nm 0)) (.cons (.cst (.int 0)) (.cons (.cst (.int 0)) (.cons (.cst (.int 1)) (.cons (.cst (.int 0)) (.cons (.nm 1) .nil))))))))
 .nil)
def b__law_power : Ss :=
 (.cons (.asg (.nm 2) (.cst (.int 1)))
 (.cons (.for (.nm 3) (.rng1 (.nm 1))
 (.cons (.asg (.nm 2) (.bin .mul (.nm 2) (.nm 0)))
 .nil))
 (.cons (.ret (.nm 2))
 .nil)))
def b__half : Ss :=
 (.cons (.ite (.or (.cmp .lt (.nm 0) (.cst (.int 3))) (.one (.cmp .eq (.bin .mod (.nm 0) (.cst (.int 2))) (.cst (.int 0)))))
 (.cons .never
 .nil)
 .nil)
 (.cons (.ret (.bin .fdiv (.bin .sub (.nm 0) (.cst (.int 1))) (.cst (.int 2))))
 .nil))
def b_balanced : Ss :=
 (.cons (.asg (.nm 2) (.call 2 (.cons (.nm 1) .nil)))
 (.cons (.asg (.nm 3) (.lst .nil))
 (.cons (.whl (.cmp .ne (.nm 0) (.cst (.int 0)))
 (.cons (.asg (.nm 4) (.bin .sub (.bin .mod (.bin .add (.nm 0) (.nm 2)) (.nm 1)) (.nm 2)))
 (.cons (.app 3 (.nm 4))
 (.cons (.asg (.nm 0) (.bin .fdiv (.bin .sub (.nm 0) (.nm 4)) (.nm 1)))
 .nil))))
 (.cons (.ret (.blt .tuple (.nm 3)))
 .nil))))
def b_steps_of : Ss :=
 (.cons (.ite (.cmp .lt (.nm 0) (.cst (.int 0)))
 (.cons .never
 .nil)
 .nil)
 (.cons (.asg (.nm 1) (.lst .nil))
 (.cons (.whl (.cmp .gt (.nm 0) (.cst (.int 0)))
 (.cons (.asg (.nm 2) (.bin .add (.blt .len (.nm 1)) (.cst (.int 2))))
 (.cons (.app 1 (.bin .mod (.nm 0) (.nm 2)))
 (.cons (.asg (.nm 0) (.bin .fdiv (.nm 0) (.nm 2)))
 .nil))))
 (.cons (.ret (.blt .tuple (.nm 1)))
 .nil))))
def b__law_draw : Ss :=
 (.cons (.ite (.and (.cmp .le (.ix (.nm 0) (.cst (.int 2))) (.cst (.int 0))) (.and (.cmp .le (.ix (.nm 0) (.cst (.int 4))) (.cst (.int 0))) (.one (.cmp .lt (.ix (.nm 0) (.cst (.int 1))) (.blt .len (.ix (.nm 0) (.cst (.int 0))))))))
 (.cons (.asg (.nm 2) (.ix (.ix (.nm 0) (.cst (.int 0))) (.ix (.nm 0) (.cst (.int 1)))))
 (.cons (.set 0 (.cst (.int 1)) (.bin .add (.ix (.nm 0) (.cst (.int 1))) (.cst (.int 1))))
 (.cons (.set 0 (.cst (.int 3)) (.bin .mod (.blt .int (.bin .add (.bin .mul (.ix (.nm 0) (.cst (.int 3))) (.cst (.int 31))) (.nm 2))) (.cst (.int 2147483647))))
 (.cons (.set 0 (.cst (.int 4)) (.cst (.int 7)))
 (.cons (.ite (.cmp .ge (.nm 2) (.bin .pow (.cst (.int 10)) (.cst (.int 18))))
 (.cons (.set 0 (.cst (.int 2)) (.nm 2))
 .nil)
 .nil)
 .nil)))))
 .nil)
 (.cons (.ite (.cmp .gt (.ix (.nm 0) (.cst (.int 2))) (.cst (.int 0)))
 (.cons (.asg (.nm 3) (.bin .mod (.blt .int (.ix (.nm 0) (.cst (.int 2)))) (.nm 1)))
 (.cons (.set 0 (.cst (.int 2)) (.bin .fdiv (.ix (.nm 0) (.cst (.int 2))) (.nm 1)))
 (.cons (.set 0 (.cst (.int 4)) (.cst (.int 0)))
 (.cons (.ret (.nm 3))
 .nil))))
 .nil)
 (.cons (.set 0 (.cst (.int 4)) (.bin .sub (.ix (.nm 0) (.cst (.int 4))) (.cst (.int 1))))
 (.cons (.set 0 (.cst (.int 3)) (.bin .mod (.blt .int (.bin .add (.bin .mul (.ix (.nm 0) (.cst (.int 3))) (.cst (.int 48271))) (.cst (.int 12345)))) (.cst (.int 2147483647))))
 (.cons (.ret (.bin .mod (.bin .mod (.blt .int (.bin .add (.bin .mul (.ix (.nm 0) (.cst (.int 3))) (.cst (.int 69621))) (.cst (.int 7919)))) (.cst (.int 2147483647))) (.nm 1)))
 .nil)))))
def b__size : Ss :=
 (.cons (.ite (.cmp2 .lt .lt (.neg (.cst (.int 2))) (.nm 0) (.cst (.int 2)))
 (.cons .never
 .nil)
 .nil)
 (.cons (.ret (.blt .abs (.nm 0)))
 .nil))
def b_figures : Ss :=
 (.cons (.asg (.nm 2) (.call 6 (.cons (.nm 1) .nil)))
 (.cons (.ite (.and (.cmp .gt (.nm 1) (.cst (.int 0))) (.one (.cmp .lt (.nm 0) (.cst (.int 0)))))
 (.cons .never
 .nil)
 .nil)
 (.cons (.asg (.nm 3) (.lst .nil))
 (.cons (.whl (.cmp .ne (.nm 0) (.cst (.int 0)))
 (.cons (.app 3 (.bin .mod (.nm 0) (.nm 2)))
 (.cons (.asg (.nm 0) (.bin .fdiv (.bin .sub (.nm 0) (.bin .mod (.nm 0) (.nm 2))) (.nm 1)))
 .nil)))
 (.cons (.ret (.blt .tuple (.nm 3)))
 .nil)))))
def b__whole : Ss :=
 (.cons (.asg (.nm 2) (.cst (.int 0)))
 (.cons (.for (.nm 3) (.revd (.nm 0))
 (.cons (.asg (.nm 2) (.bin .add (.bin .mul (.nm 2) (.nm 1)) (.nm 3)))
 .nil))
 (.cons (.ret (.nm 2))
 .nil)))
def b_from_balanced : Ss :=
 (.cons (.asg (.nm 2) (.call 2 (.cons (.nm 1) .nil)))
 (.cons (.asg (.nm 0) (.blt .tuple (.nm 0)))
 (.cons (.ite (.blt .any (.comp (.cmp .gt (.blt .abs (.nm 3)) (.nm 2)) [3] (.nm 3) (.nm 0)))
 (.cons .never
 .nil)
 .nil)
 (.cons (.ret (.call 8 (.cons (.fz (.nm 0)) (.cons (.nm 1) .nil))))
 .nil))))
def b_gray : Ss :=
 (.cons (.ite (.cmp .lt (.nm 0) (.cst (.int 0)))
 (.cons .never
 .nil)
 .nil)
 (.cons (.ret (.call 7 (.cons (.bin .xor (.nm 0) (.bin .fdiv (.nm 0) (.cst (.int 2)))) (.cons (.cst (.int 2)) .nil))))
 .nil))
def b__law_exclusive : Ss :=
 (.cons (.asg (.nm 1) (.call 7 (.cons (.fz (.nm 0)) (.cons (.cst (.int 2)) .nil))))
 (.cons (.asg (.nm 2) (.bin .add (.nm 1) (.tup (.cons (.cst (.int 0)) .nil))))
 (.cons (.ret (.blt .tuple (.comp (.bin .mod (.blt .int (.bin .add (.ix (.nm 2) (.nm 3)) (.ix (.nm 2) (.bin .add (.nm 3) (.cst (.int 1)))))) (.cst (.int 2))) [3] (.nm 3) (.rng1 (.blt .len (.nm 1))))))
 .nil)))
def b_from_gray : Ss :=
 (.cons (.asg (.nm 0) (.blt .tuple (.nm 0)))
 (.cons (.ite (.blt .any (.comp (.cmp .nmem (.nm 3) (.tup (.cons (.cst (.int 0)) (.cons (.cst (.int 1)) .nil)))) [3] (.nm 3) (.nm 0)))
 (.cons .never
 .nil)
 .nil)
 (.cons (.asg (.nm 1) (.cst (.int 0)))
 (.cons (.asg (.nm 2) (.cst (.int 0)))
 (.cons (.for (.nm 3) (.revd (.nm 0))
 (.cons (.asg (.nm 2) (.bin .xor (.nm 2) (.nm 3)))
 (.cons (.asg (.nm 1) (.bin .add (.bin .mul (.cst (.int 2)) (.nm 1)) (.nm 2)))
 .nil)))
 (.cons (.ret (.nm 1))
 .nil))))))
def b__law_some : Ss :=
 (.cons (.asg (.nm 1) (.call 5 (.cons (.nm 0) (.cons (.cst (.int 8)) .nil))))
 (.cons (.ite (.cmp .lt (.nm 1) (.cst (.int 4)))
 (.cons (.ret (.call 5 (.cons (.nm 0) (.cons (.cst (.int 40)) .nil))))
 .nil)
 .nil)
 (.cons (.ite (.cmp .lt (.nm 1) (.cst (.int 6)))
 (.cons (.ret (.call 5 (.cons (.nm 0) (.cons (.cst (.int 3000)) .nil))))
 .nil)
 .nil)
 (.cons (.ite (.cmp .eq (.nm 1) (.cst (.int 6)))
 (.cons (.ret (.call 5 (.cons (.nm 0) (.cons (.bin .pow (.cst (.int 10)) (.cst (.int 6))) .nil))))
 .nil)
 .nil)
 (.cons (.ret (.call 5 (.cons (.nm 0) (.cons (.bin .pow (.cst (.int 10)) (.cst (.int 10))) .nil))))
 .nil)))))
def b_number_of : Ss :=
 (.cons (.asg (.nm 2) (.call 6 (.cons (.nm 1) .nil)))
 (.cons (.asg (.nm 0) (.blt .tuple (.nm 0)))
 (.cons (.ite (.blt .any (.comp (.not (.cmp2 .le .lt (.cst (.int 0)) (.nm 3) (.nm 2))) [3] (.nm 3) (.nm 0)))
 (.cons .never
 .nil)
 .nil)
 (.cons (.ret (.call 8 (.cons (.fz (.nm 0)) (.cons (.nm 1) .nil))))
 .nil))))
def b__law_sign : Ss :=
 (.cons (.ret (.bin .mul (.nm 1) (.bin .sub (.cst (.int 1)) (.bin .mul (.cst (.int 2)) (.call 5 (.cons (.nm 0) (.cons (.cst (.int 2)) .nil)))))))
 .nil)
def b__law_huge : Ss :=
 (.cons (.ret (.call 15 (.cons (.nm 0) (.cons (.bin .add (.bin .mul (.call 5 (.cons (.nm 0) (.cons (.bin .pow (.cst (.int 10)) (.cst (.int 20))) .nil))) (.call 5 (.cons (.nm 0) (.cons (.bin .pow (.cst (.int 10)) (.cst (.int 20))) .nil)))) (.call 5 (.cons (.nm 0) (.cons (.bin .pow (.cst (.int 10)) (.cst (.int 20))) .nil)))) .nil))))
 .nil)
def b_from_steps : Ss :=
 (.cons (.asg (.nm 0) (.blt .tuple (.nm 0)))
 (.cons (.ite (.blt .any (.comp (.not (.cmp2 .le .le (.cst (.int 0)) (.nm 3) (.bin .add (.nm 2) (.cst (.int 1))))) [2, 3] (.tp (.cons (.nm 2) (.cons (.nm 3) .nil))) (.enum (.nm 0))))
 (.cons .never
 .nil)
 .nil)
 (.cons (.asg (.nm 1) (.cst (.int 0)))
 (.cons (.for (.nm 2) (.rng3 (.blt .len (.nm 0)) (.cst (.int 0)) (.neg (.cst (.int 1))))
 (.cons (.asg (.nm 1) (.bin .add (.bin .mul (.nm 1) (.bin .add (.nm 2) (.cst (.int 1)))) (.ix (.nm 0) (.bin .sub (.nm 2) (.cst (.int 1))))))
 .nil))
 (.cons (.ret (.nm 1))
 .nil)))))
def b_law : Ss :=
 (.cons (.asg (.nm 1) (.call 0 (.cons (.nm 0) (.cons (.cst (.int 0)) .nil))))
 (.cons (.for (.nm 2) (.rng1 (.cst (.int 3)))
 (.cons (.asg (.nm 6) (.bin .add (.cst (.int 1)) (.ix (.tup (.cons (.call 5 (.cons (.nm 1) (.cons (.cst (.int 300)) .nil))) (.cons (.call 13 (.cons (.nm 1) .nil)) (.cons (.blt .abs (.call 16 (.cons (.nm 1) .nil))) .nil)))) (.call 5 (.cons (.nm 1) (.cons (.cst (.int 3)) .nil))))))
 (.cons (.asg (.nm 7) (.bin .add (.cst (.int 2)) (.call 5 (.cons (.nm 1) (.cons (.cst (.int 29)) .nil)))))
 (.cons (.asg (.nm 8) (.bin .add (.cst (.int 3)) (.bin .mul (.cst (.int 2)) (.call 5 (.cons (.nm 1) (.cons (.cst (.int 14)) .nil))))))
 (.cons (.for (.nm 9) (.tup (.cons (.nm 7) (.cons (.bin .sub (.cst (.int 0)) (.nm 7)) .nil)))
 (.cons (.asg (.nm 10) (.call 7 (.cons (.fz (.nm 6)) (.cons (.nm 9) .nil))))
 (.cons (.ite (.or (.cmp .ne (.call 7 (.cons (.bin .mul (.nm 6) (.nm 9)) (.cons (.nm 9) .nil))) (.bin .add (.tup (.cons (.cst (.int 0)) .nil)) (.nm 10))) (.or (.cmp .ne (.call 14 (.cons (.fz (.nm 10)) (.cons (.nm 9) .nil))) (.nm 6)) (.one (.cmp .ne (.bin .mod (.blt .int (.bin .sub (.blt .sum (.nm 10)) (.nm 6))) (.blt .abs (.bin .sub (.nm 9) (.cst (.int 1))))) (.cst (.int 0))))))
 (.cons (.ret (.cst (.bool false)))
 .nil)
 .nil)
 .nil)))
 (.cons (.asg (.nm 10) (.call 3 (.cons (.fz (.nm 6)) (.cons (.nm 8) .nil))))
 (.cons (.ite (.or (.cmp .ne (.call 3 (.cons (.bin .sub (.cst (.int 0)) (.nm 6)) (.cons (.nm 8) .nil))) (.blt .tuple (.comp (.bin .sub (.cst (.int 0)) (.nm 19)) [19] (.nm 19) (.nm 10)))) (.or (.cmp .ne (.call 3 (.cons (.bin .mul (.nm 6) (.nm 8)) (.cons (.nm 8) .nil))) (.bin .add (.tup (.cons (.cst (.int 0)) .nil)) (.nm 10))) (.one (.cmp .ne (.bin .mod (.blt .int (.bin .sub (.blt .sum (.nm 10)) (.nm 6))) (.bin .sub (.nm 8) (.cst (.int 1)))) (.cst (.int 0))))))
 (.cons (.ret (.cst (.bool false)))
 .nil)
 .nil)
 (.cons (.ite (.cmp .ne (.call 9 (.cons (.bin .add (.nm 10) (.tup (.cons (.cst (.int 1)) .nil))) (.cons (.nm 8) .nil))) (.bin .add (.nm 6) (.call 1 (.cons (.nm 8) (.cons (.blt .len (.nm 10)) .nil)))))
 (.cons (.ret (.cst (.bool false)))
 .nil)
 .nil)
 (.cons (.ite (.or (.cmp .ne (.call 10 (.cons (.nm 6) .nil)) (.call 11 (.cons (.fz (.nm 6)) .nil))) (.one (.cmp .ne (.call 12 (.cons (.call 10 (.cons (.nm 6) .nil)) .nil)) (.nm 6))))
 (.cons (.ret (.cst (.bool false)))
 .nil)
 .nil)
 (.cons (.asg (.nm 11) (.blt .len (.call 7 (.cons (.fz (.nm 6)) (.cons (.cst (.int 2)) .nil)))))
 (.cons (.asg (.nm 12) (.call 1 (.cons (.cst (.int 2)) (.cons (.fz (.nm 11)) .nil))))
 (.cons (.asg (.nm 13) (.bin .add (.call 10 (.cons (.bin .sub (.bin .sub (.nm 12) (.cst (.int 1))) (.nm 6)) .nil)) (.bin .mul (.tup (.cons (.cst (.int 0)) .nil)) (.nm 11))))
 (.cons (.asg (.nm 14) (.bin .add (.call 10 (.cons (.nm 6) .nil)) (.bin .mul (.tup (.cons (.cst (.int 0)) .nil)) (.nm 11))))
 (.cons (.ite (.cmp .ne (.compIf (.nm 3) [3] (.nm 3) (.rng1 (.nm 11)) (.cmp .ne (.ix (.nm 13) (.nm 3)) (.ix (.nm 14) (.nm 3)))) (.lst (.cons (.bin .sub (.nm 11) (.cst (.int 1))) .nil)))
 (.cons (.ret (.cst (.bool false)))
 .nil)
 .nil)
 (.cons (.asg (.nm 15) (.call 4 (.cons (.fz (.nm 6)) .nil)))
 (.cons (.asg (.nm 16) (.call 4 (.cons (.call 5 (.cons (.nm 1) (.cons (.cst (.int 5000)) .nil))) .nil)))
 (.cons (.asg (.nm 17) (.blt2 .max (.blt .len (.nm 15)) (.blt .len (.nm 16))))
 (.cons (.asg (.nm 18) (.comp (.bin .add (.ix (.bin .add (.nm 15) (.bin .mul (.tup (.cons (.cst (.int 0)) .nil)) (.nm 17))) (.nm 3)) (.ix (.bin .add (.nm 16) (.bin .mul (.tup (.cons (.cst (.int 0)) .nil)) (.nm 17))) (.nm 3))) [3] (.nm 3) (.rng1 (.nm 17))))
 (.cons (.ite (.and (.cmp .nmem (.cst (.bool false)) (.comp (.cmp .le (.ix (.nm 18) (.nm 3)) (.bin .add (.nm 3) (.cst (.int 1)))) [3] (.nm 3) (.rng1 (.nm 17)))) (.one (.cmp .ne (.call 4 (.cons (.bin .add (.nm 6) (.call 17 (.cons (.fz (.nm 16)) .nil))) .nil)) (.blt .tuple (.nm 18)))))
 (.cons (.ret (.cst (.bool false)))
 .nil)
 .nil)
 .nil)))))))))))))))))))
 (.cons (.asg (.nm 3) (.bin .add (.cst (.int 1)) (.call 5 (.cons (.nm 1) (.cons (.cst (.int 3)) .nil)))))
 (.cons (.asg (.nm 4) (.bin .add (.cst (.int 2)) (.call 5 (.cons (.nm 1) (.cons (.cst (.int 5)) .nil)))))
 (.cons (.asg (.nm 5) (.call 1 (.cons (.nm 4) (.cons (.fz (.nm 3)) .nil))))
 (.cons (.ret (.and (.cmp .eq (.blt .len (.compIf (.nm 6) [6] (.nm 6) (.rng1 (.bin .add (.nm 5) (.cst (.int 40)))) (.cmp .le (.blt .len (.call 7 (.cons (.fz (.nm 6)) (.cons (.nm 4) .nil)))) (.nm 3)))) (.nm 5)) (.one (.cmp .eq (.call 7 (.cons (.cst (.int 0)) (.cons (.nm 4) .nil))) (.tup .nil)))))
 .nil))))))
def P : List Df := [⟨"_law_pool", 2, 2, b__law_pool⟩,
  ⟨"_law_power", 2, 4, b__law_power⟩,
  ⟨"_half", 1, 1, b__half⟩,
  ⟨"balanced", 2, 5, b_balanced⟩,
  ⟨"steps_of", 1, 3, b_steps_of⟩,
  ⟨"_law_draw", 2, 4, b__law_draw⟩,
  ⟨"_size", 1, 1, b__size⟩,
  ⟨"figures", 2, 4, b_figures⟩,
  ⟨"_whole", 2, 4, b__whole⟩,
  ⟨"from_balanced", 2, 4, b_from_balanced⟩,
  ⟨"gray", 1, 1, b_gray⟩,
  ⟨"_law_exclusive", 1, 4, b__law_exclusive⟩,
  ⟨"from_gray", 1, 4, b_from_gray⟩,
  ⟨"_law_some", 1, 2, b__law_some⟩,
  ⟨"number_of", 2, 4, b_number_of⟩,
  ⟨"_law_sign", 2, 2, b__law_sign⟩,
  ⟨"_law_huge", 1, 1, b__law_huge⟩,
  ⟨"from_steps", 1, 4, b_from_steps⟩,
  ⟨"law", 1, 20, b_law⟩]
def nm : List Str := ["_law_pool", "_law_power", "_half", "balanced", "steps_of", "_law_draw", "_size", "figures", "_whole", "from_balanced", "gray", "_law_exclusive", "from_gray", "_law_some", "number_of", "_law_sign", "_law_huge", "from_steps", "law"]
def gl : List (Str × Int) := []
def Ns : List (List Str) := [["script", "budget"],
  ["base", "e", "result", "turn"],
  ["base"],
  ["n", "base", "half", "found", "figure"],
  ["n", "found", "size"],
  ["pool", "size", "cell", "value"],
  ["base"],
  ["n", "base", "size", "found"],
  ["told", "base", "result", "figure"],
  ["told", "base", "half", "figure"],
  ["n"],
  ["n", "own", "wide", "k"],
  ["told", "result", "last", "figure"],
  ["pool", "way"],
  ["told", "base", "size", "figure"],
  ["pool", "n"],
  ["pool"],
  ["told", "result", "at", "step"],
  ["script", "pool", "again", "k", "small", "power", "n", "base", "odd", "own", "told", "size", "whole", "top", "one", "steps", "other", "wide", "both", "figure"]]
def fn : List He.DefD := [dd 17 "_law_pool" "_law_pool", dd 20 "_law_power" "_law_power", dd 9 "_half" "_half", dd 10 "balanced" "balanced", dd 12 "steps_of" "steps_of", dd 18 "_law_draw" "_law_draw", dd 5 "_size" "_size", dd 6 "figures" "figures", dd 7 "_whole" "_whole", dd 11 "from_balanced" "from_balanced", dd 14 "gray" "gray", dd 24 "_law_exclusive" "_law_exclusive", dd 15 "from_gray" "from_gray", dd 21 "_law_some" "_law_some", dd 8 "number_of" "number_of", dd 23 "_law_sign" "_law_sign", dd 22 "_law_huge" "_law_huge", dd 13 "from_steps" "from_steps", dd 25 "law" "law"]
def G : Pg := ⟨P, nm, gl, 1000000⟩
def fa : List He.Fa := [.glo "_law_pool", .glo "_law_power", .glo "_half", .glo "balanced", .glo "steps_of", .glo "_law_draw", .glo "_size", .glo "figures", .glo "_whole", .glo "from_balanced", .glo "gray", .glo "_law_exclusive", .glo "from_gray", .glo "_law_some", .glo "number_of", .glo "_law_sign", .glo "_law_huge", .glo "from_steps", .glo "law", .free "len", .free "abs", .free "int", .free "max", .free "min", .free "sum", .free "any", .free "all", .free "tuple", .free "list", .free "sorted", .free "range", .free "enumerate", .free "zip", .free "reversed"]
def loose0 : List Str := ["WholeError", "BadNumber", "BadRow", "_size", "figures", "_whole", "number_of", "_half", "balanced", "from_balanced", "steps_of", "from_steps", "gray", "from_gray", "_law_pool", "_law_draw", "_law_same", "_law_power", "_law_some", "_law_huge", "_law_sign", "_law_exclusive"]
def loose : List Str := loose0
abbrev R : PySem.W.OpenRow := PySem.W.OpenLaw.row PySem.Challenge.rw_wholeproof_k83_whole_figures_of_changed
abbrev hk : PySem.W.Hook := He.hookD 4 fa fn
def ob (s : PySem.W.SharedT) : He.AlD := He.obsDG 4 fa fn (HandSHeadRun.getT s)
theorem ob_eq (s : PySem.W.SharedT) : ob s = hk.obs s.abs := He.obsDG_eq (HandSHeadRun.getT_eq s)
theorem fa_eq : fa = facts G := by rfl
theorem run_eq (w : World) : HandSHeadRun.RunEq R (PySem.W.view R.prog [25]) hk ob 4000 loose w := by
  intro os
  kernel_rfl
theorem chk : chkAll G G.P G.nm fn Ns = true := by decide +kernel
end Lawk83
end

section
set_option maxHeartbeats 4000000
namespace Lawk83
open PySem De

/-! ### figures by a rule -/
inductive Dg (f g : Nat → Int → Int) : Nat → Int → List Int → Prop
  | nil {i : Nat} : Dg f g i 0 []
  | cons {i : Nat} {n : Int} {ds : List Int} : n ≠ 0 → Dg f g (i + 1) (g i n) ds → Dg f g i n (f i n :: ds)
section
variable {f g : Nat → Int → Int}
theorem ex_dg (ok : Int → Prop) (h1 : ∀ i n, ok n → n ≠ 0 → ok (g i n) ∧ 2 * (g i n).natAbs ≤ n.natAbs + 1) (h2 : ∀ i, ok 1 → g i 1 = 0) (h3 : ∀ i, ok (-1) → g i (-1) = 0 ∨ g i (-1) = 1) :
    ∀ (N i : Nat) (n : Int), ok n → n.natAbs ≤ 2 ^ N → ∃ ds, Dg f g i n ds ∧ ds.length ≤ N + 2
  | 0, i, n, hn, hb => by
    have one : ∀ i, ok 1 → ∃ ds, Dg f g i 1 ds ∧ ds.length ≤ 1 := fun i h => ⟨[f i 1], .cons (by decide) (by rw [h2 i h]; exact .nil), Nat.le_refl _⟩
    by_cases z : n = 0
    · subst z
      exact ⟨[], .nil, Nat.zero_le _⟩
    · rcases (show n = 1 ∨ n = -1 by omega) with rfl | rfl
      · obtain ⟨ds, a, b⟩ := one i hn
        exact ⟨ds, a, by omega⟩
      · rcases h3 i hn with q | q
        · exact ⟨[f i (-1)], .cons z (by rw [q]; exact .nil), by simp⟩
        · have hk := (h1 i (-1) hn z).1
          rw [q] at hk
          obtain ⟨ds, a, b⟩ := one (i + 1) hk
          exact ⟨f i (-1) :: ds, .cons z (by rw [q]; exact a), by simp only [List.length_cons]; omega⟩
  | N + 1, i, n, hn, hb => by
    by_cases z : n = 0
    · subst z
      exact ⟨[], .nil, Nat.zero_le _⟩
    · obtain ⟨k1, k2⟩ := h1 i n hn z
      have hp : 2 ^ (N + 1) = 2 * 2 ^ N := by rw [Nat.pow_succ, Nat.mul_comm]
      obtain ⟨ds, a, b⟩ := ex_dg ok h1 h2 h3 N (i + 1) (g i n) k1 (by omega)
      exact ⟨f i n :: ds, .cons z a, by simp only [List.length_cons]; omega⟩
theorem Dg.uniq {i : Nat} {n : Int} {ds es : List Int} (h : Dg f g i n ds) (k : Dg f g i n es) : ds = es := by
  induction h generalizing es with
  | nil => cases k with
    | nil => rfl
    | cons z _ => exact absurd rfl z
  | cons z h ih => cases k with
    | nil => exact absurd rfl z
    | cons _ k => rw [ih k]
end
/-- the number of a row of figures -/
def val (b : Int) : List Int → Int
  | [] => 0
  | d :: ds => d + b * val b ds
theorem val_dg {f g : Nat → Int → Int} {b : Int} (h : ∀ i n, n = f i n + b * g i n) {i : Nat} {n : Int} {ds : List Int} (k : Dg f g i n ds) : val b ds = n := by
  induction k with
  | nil => rfl
  | cons z _ ih =>
    rename_i i n ds _
    show f i n + b * val b ds = n
    rw [ih]
    exact (h i n).symm
theorem val_append {b : Int} : ∀ (ds es : List Int), val b (ds ++ es) = val b ds + b ^ ds.length * val b es
  | [], es => by
    show val b es = 0 + b ^ 0 * val b es
    rw [Int.pow_zero, Int.one_mul, Int.zero_add]
  | d :: ds, es => by
    show d + b * val b (ds ++ es) = d + b * val b ds + b ^ (ds.length + 1) * val b es
    rw [val_append ds es, Int.mul_add, Int.pow_succ, Int.add_assoc, ← Int.mul_assoc, Int.mul_comm b (b ^ ds.length)]
theorem val_sum {b : Int} : ∀ (ds : List Int), ∃ q, val b ds - ds.sum = (b - 1) * q
  | [] => ⟨0, by simp [val]⟩
  | d :: ds => by
    obtain ⟨q, h⟩ := val_sum (b := b) ds
    refine ⟨val b ds + q, ?_⟩
    show d + b * val b ds - (d :: ds).sum = _
    rw [List.sum_cons, Int.mul_add, ← h, Int.sub_mul, Int.one_mul]
    omega
/-! ### figures(n, base) -/
def fF (s : Int) : Nat → Int → Int := fun _ n => n.fmod s
def gF (s b : Int) : Nat → Int → Int := fun _ n => (n - n.fmod s).fdiv b
section
variable {s b : Int}
theorem sub_fmod (s n : Int) : n - n.fmod s = s * n.fdiv s := by
  have := Int.mul_fdiv_add_fmod n s
  omega
theorem gF_pos (hs : 2 ≤ s) (n : Int) : gF s s 0 n = n.fdiv s := by
  show (n - n.fmod s).fdiv s = _
  rw [sub_fmod, Int.mul_fdiv_cancel_left _ (by omega)]
theorem gF_neg (hs : 2 ≤ s) (n : Int) : gF s (-s) 0 n = -(n.fdiv s) := by
  show (n - n.fmod s).fdiv (-s) = _
  rw [sub_fmod, show s * n.fdiv s = (-s) * (-(n.fdiv s)) by rw [Int.neg_mul_neg], Int.mul_fdiv_cancel_left _ (by omega)]
theorem fdiv_bound (hs : 2 ≤ s) (n : Int) : ∃ r, n = s * n.fdiv s + r ∧ 0 ≤ r ∧ r < s ∧ n.fmod s = r := by
  refine ⟨n.fmod s, (Int.mul_fdiv_add_fmod n s).symm, ?_, ?_, rfl⟩
  · rw [Int.fmod_eq_emod_of_nonneg _ (by omega)]
    exact Int.emod_nonneg _ (by omega)
  · rw [Int.fmod_eq_emod_of_nonneg _ (by omega)]
    exact Int.emod_lt_of_pos _ (by omega)
theorem two_q {q r n : Int} (hs : 2 ≤ s) (h : n = s * q + r) (h1 : 0 ≤ r) (h2 : r < s) : 2 * q.natAbs ≤ n.natAbs + 1 ∧ (0 ≤ n → 0 ≤ q) ∧ (n = 1 → q = 0) ∧ (n = -1 → q = -1) := by
  have hpos : 0 < q → 2 * q ≤ s * q := fun hq => Int.mul_le_mul_of_nonneg_right hs (by omega)
  by_cases c : 0 < q
  · have := hpos c
    refine ⟨by omega, by omega, fun e => ?_, fun e => ?_⟩
    · omega
    · omega
  · by_cases c2 : q = 0
    · subst c2
      rw [Int.mul_zero, Int.zero_add] at h
      subst h
      refine ⟨by omega, fun _ => Int.le_refl _, fun _ => rfl, fun e => by omega⟩
    · have hq : q + 1 ≤ 0 := by omega
      -- s*q = s*(q+1) - s
      have e1 : s * q = s * (q + 1) - s := by rw [Int.mul_add, Int.mul_one]; omega
      have hneg : s * (q + 1) ≤ 2 * (q + 1) := by
        have := Int.mul_le_mul_of_nonneg_right (c := -(q + 1)) hs (by omega)
        rw [Int.mul_neg, Int.mul_neg] at this
        omega
      refine ⟨by omega, by omega, by omega, fun e => ?_⟩
      by_cases c3 : q + 1 = 0
      · omega
      · omega
theorem ex_fig (hs : 2 ≤ s) (hb : b = s ∨ b = -s) (N : Nat) (n : Int) (hn : b = s → 0 ≤ n) (hN : n.natAbs ≤ 2 ^ N) : ∃ ds, Dg (fF s) (gF s b) 0 n ds ∧ ds.length ≤ N + 2 := by
  refine ex_dg (fun n => b = s → 0 ≤ n) (fun i n ok hz => ?_) (fun i ok => ?_) (fun i ok => ?_) N 0 n hn hN
  · obtain ⟨r, e, r1, r2, _⟩ := fdiv_bound hs n
    obtain ⟨t1, t2, _, _⟩ := two_q hs e r1 r2
    rcases hb with rfl | rfl
    · have := gF_pos hs n
      exact ⟨fun _ => by rw [show gF b b i n = n.fdiv b from this]; exact t2 (ok rfl), by rw [show gF b b i n = n.fdiv b from this]; exact t1⟩
    · have := gF_neg hs n
      exact ⟨fun z => by omega, by rw [show gF s (-s) i n = -(n.fdiv s) from this, Int.natAbs_neg]; exact t1⟩
  · obtain ⟨r, e, r1, r2, _⟩ := fdiv_bound hs 1
    obtain ⟨_, _, t3, _⟩ := two_q hs e r1 r2
    rcases hb with rfl | rfl
    · rw [show gF b b i 1 = (1 : Int).fdiv b from gF_pos hs 1]
      exact t3 rfl
    · rw [show gF s (-s) i 1 = -((1 : Int).fdiv s) from gF_neg hs 1, t3 rfl]
      rfl
  · obtain ⟨r, e, r1, r2, _⟩ := fdiv_bound hs (-1)
    obtain ⟨_, _, _, t4⟩ := two_q hs e r1 r2
    rcases hb with rfl | rfl
    · exact absurd (ok rfl) (by decide)
    · rw [show gF s (-s) i (-1) = -((-1 : Int).fdiv s) from gF_neg hs (-1), t4 rfl]
      exact .inr rfl
theorem fig_eq (hs : 2 ≤ s) (hb : b = s ∨ b = -s) (i : Nat) (n : Int) : n = fF s i n + b * gF s b i n := by
  obtain ⟨r, e, r1, r2, e2⟩ := fdiv_bound hs n
  rcases hb with rfl | rfl
  · rw [show gF b b i n = n.fdiv b from gF_pos hs n]
    show n = n.fmod b + _
    omega
  · rw [show gF s (-s) i n = -(n.fdiv s) from gF_neg hs n]
    show n = n.fmod s + _
    rw [Int.neg_mul_neg]
    omega
theorem fig_val (hs : 2 ≤ s) (hb : b = s ∨ b = -s) {i : Nat} {n : Int} {ds : List Int} (k : Dg (fF s) (gF s b) i n ds) : val b ds = n := val_dg (fig_eq hs hb) k
theorem fig_range (hs : 2 ≤ s) {i : Nat} {n : Int} {ds : List Int} (k : Dg (fF s) (gF s b) i n ds) : ∀ d ∈ ds, 0 ≤ d ∧ d < s := by
  induction k with
  | nil => exact fun d h => by cases h
  | cons z _ ih =>
    rename_i i n ds _
    intro d h
    rcases List.mem_cons.mp h with e | h
    · obtain ⟨r, _, r1, r2, e2⟩ := fdiv_bound hs n
      subst e
      show 0 ≤ n.fmod s ∧ n.fmod s < s
      omega
    · exact ih d h
/-- times the base: a figure 0 ahead -/
theorem fig_times (hs : 2 ≤ s) (hb : b = s ∨ b = -s) {n : Int} {ds : List Int} (hn : n ≠ 0) (k : Dg (fF s) (gF s b) 1 n ds) : Dg (fF s) (gF s b) 0 (n * b) (0 :: ds) := by
  have hm : (n * b).fmod s = 0 := by
    rcases hb with rfl | rfl
    · exact Int.mul_fmod_left n b
    · rw [show n * -s = (-n) * s by rw [Int.mul_neg, Int.neg_mul]]
      exact Int.mul_fmod_left (-n) s
  have hb0 : b ≠ 0 := by omega
  have hz : n * b ≠ 0 := Int.mul_ne_zero hn hb0
  have h1 : fF s 0 (n * b) = 0 := hm
  have h2 : gF s b 0 (n * b) = n := by
    show (n * b - (n * b).fmod s).fdiv b = n
    rw [hm, Int.sub_zero, Int.mul_fdiv_cancel _ hb0]
  have := Dg.cons (f := fF s) (g := gF s b) (i := 0) hz (by rw [h2]; exact k)
  rw [h1] at this
  exact this
theorem Dg.shift {f g : Int → Int} {i j : Nat} {n : Int} {ds : List Int} (k : Dg (fun _ => f) (fun _ => g) i n ds) : Dg (fun _ => f) (fun _ => g) j n ds := by
  induction k generalizing j with
  | nil => exact .nil
  | cons z _ ih => exact .cons z ih
end
/-! ### balanced(n, base) -/
def fB (b h : Int) : Nat → Int → Int := fun _ n => (n + h).fmod b - h
def gB (b h : Int) : Nat → Int → Int := fun _ n => (n - ((n + h).fmod b - h)).fdiv b
section
variable {b h : Int}
theorem bal_eq (hh : 1 ≤ h) (hb : b = 2 * h + 1) (n : Int) : ∃ d q, fB b h 0 n = d ∧ gB b h 0 n = q ∧ n = d + b * q ∧ -h ≤ d ∧ d ≤ h := by
  obtain ⟨r, e, r1, r2, e2⟩ := fdiv_bound (s := b) (by omega) (n + h)
  refine ⟨r - h, (n + h).fdiv b, ?_, ?_, by omega, by omega, by omega⟩
  · show (n + h).fmod b - h = _
    rw [e2]
  · show (n - ((n + h).fmod b - h)).fdiv b = _
    rw [e2, show n - (r - h) = b * (n + h).fdiv b by omega, Int.mul_fdiv_cancel_left _ (by omega)]
theorem bal_uniq (hh : 1 ≤ h) (hb : b = 2 * h + 1) {n d q : Int} (e : n = d + b * q) (h1 : -h ≤ d) (h2 : d ≤ h) : fB b h 0 n = d ∧ gB b h 0 n = q := by
  obtain ⟨d', q', e1, e2, e3, k1, k2⟩ := bal_eq hh hb n
  have hq : q = q' := by
    have e4 : b * (q - q') = d' - d := by rw [Int.mul_sub]; omega
    rcases Int.lt_trichotomy (q - q') 0 with c | c | c
    · have := Int.mul_le_mul_of_nonneg_left (c := b) (show q - q' ≤ -1 by omega) (by omega)
      rw [e4] at this
      omega
    · omega
    · have := Int.mul_le_mul_of_nonneg_left (c := b) (show 1 ≤ q - q' by omega) (by omega)
      rw [e4] at this
      omega
  subst hq
  exact ⟨by omega, e2⟩
theorem ex_bal (hh : 1 ≤ h) (hb : b = 2 * h + 1) (N : Nat) (n : Int) (hN : n.natAbs ≤ 2 ^ N) : ∃ ds, Dg (fB b h) (gB b h) 0 n ds ∧ ds.length ≤ N + 2 := by
  refine ex_dg (fun _ => True) (fun i n _ hz => ⟨trivial, ?_⟩) (fun i _ => ?_) (fun i _ => ?_) N 0 n trivial hN
  · obtain ⟨d, q, e1, e2, e3, k1, k2⟩ := bal_eq hh hb n
    rw [show gB b h i n = q from e2]
    have prod : ∀ x : Int, 1 ≤ x → h + x - 1 ≤ h * x := fun x hx => by
      have h0 := Int.mul_nonneg (show (0 : Int) ≤ h - 1 by omega) (show (0 : Int) ≤ x - 1 by omega)
      rw [Int.sub_mul, Int.mul_sub, Int.one_mul, Int.mul_one] at h0
      omega
    have hbq : b * q = 2 * (h * q) + q := by
      rw [hb, Int.add_mul, Int.one_mul, Int.mul_assoc]
    by_cases c : 0 < q
    · have h5 := prod q (by omega)
      omega
    · by_cases c2 : q = 0
      · omega
      · have h5 := prod (-q) (by omega)
        rw [Int.mul_neg] at h5
        omega
  · exact (bal_uniq hh hb (n := 1) (d := 1) (q := 0) (by omega) (by omega) (by omega)).2
  · exact .inl (bal_uniq hh hb (n := -1) (d := -1) (q := 0) (by omega) (by omega) (by omega)).2
theorem bal_val (hh : 1 ≤ h) (hb : b = 2 * h + 1) {i : Nat} {n : Int} {ds : List Int} (k : Dg (fB b h) (gB b h) i n ds) : val b ds = n := val_dg (fun i n => by
  obtain ⟨d, q, e1, e2, e3, _⟩ := bal_eq hh hb n
  rw [show fB b h i n = d from e1, show gB b h i n = q from e2]
  exact e3) k
theorem bal_range (hh : 1 ≤ h) (hb : b = 2 * h + 1) {i : Nat} {n : Int} {ds : List Int} (k : Dg (fB b h) (gB b h) i n ds) : ∀ d ∈ ds, -h ≤ d ∧ d ≤ h := by
  induction k with
  | nil => exact fun d h => by cases h
  | cons z _ ih =>
    rename_i i n ds _
    intro d hd
    rcases List.mem_cons.mp hd with e | hd
    · obtain ⟨d', q, e1, _, _, k1, k2⟩ := bal_eq hh hb n
      subst e
      rw [show fB b h i n = d' from e1]
      exact ⟨k1, k2⟩
    · exact ih d hd
theorem bal_neg (hh : 1 ≤ h) (hb : b = 2 * h + 1) {i : Nat} {n : Int} {ds : List Int} (k : Dg (fB b h) (gB b h) i n ds) : Dg (fB b h) (gB b h) i (0 - n) (ds.map fun d => 0 - d) := by
  induction k with
  | nil => exact .nil
  | cons z _ ih =>
    rename_i i n ds _
    obtain ⟨d, q, e1, e2, e3, k1, k2⟩ := bal_eq hh hb n
    have e2' : gB b h i n = q := e2
    have e1' : fB b h i n = d := e1
    obtain ⟨u1, u2⟩ := bal_uniq hh hb (n := 0 - n) (d := 0 - d) (q := 0 - q) (by rw [Int.mul_sub]; omega) (by omega) (by omega)
    rw [List.map_cons, e1']
    rw [e2'] at ih
    have := Dg.cons (f := fB b h) (g := gB b h) (i := i) (n := 0 - n) (by omega) (by rw [show gB b h i (0 - n) = 0 - q from u2]; exact ih)
    rw [show fB b h i (0 - n) = 0 - d from u1] at this
    exact this
theorem bal_times (hh : 1 ≤ h) (hb : b = 2 * h + 1) {n : Int} {ds : List Int} (hn : n ≠ 0) (k : Dg (fB b h) (gB b h) 1 n ds) : Dg (fB b h) (gB b h) 0 (n * b) (0 :: ds) := by
  obtain ⟨u1, u2⟩ := bal_uniq hh hb (n := n * b) (d := 0) (q := n) (by rw [Int.zero_add, Int.mul_comm]) (by omega) (by omega)
  have := Dg.cons (f := fB b h) (g := gB b h) (i := 0) (n := n * b) (Int.mul_ne_zero hn (by omega)) (by rw [u2]; exact k)
  rw [u1] at this
  exact this
end
end Lawk83
end

section
set_option maxHeartbeats 4000000
namespace Lawk83
open PySem De

def PoolOk (xs : List Dt) : Prop := ∃ (cells : List Int) (i c s t b : Int), xs = [.list (cells.map .int), .int i, .int c, .int s, .int t, .int b] ∧ 0 ≤ i ∧ 0 ≤ s ∧ s < 2147483647
theorem log2_lt {a : Int} {n : Nat} (h : a.natAbs < 2 ^ n) (hn : 0 < n) : a.natAbs.log2 < n := by
  by_cases z : a.natAbs = 0
  · rw [z]
    exact hn
  · exact (Nat.log2_lt z).mpr h
theorem mul_ok {a b : Int} (ha : a.natAbs < 2 ^ 400000) (hb : b.natAbs < 2 ^ 400000) : mulOk a b = true := by
  unfold mulOk
  have h1 := log2_lt ha (by decide)
  have h2 := log2_lt hb (by decide)
  exact decide_eq_true (by omega)
theorem small_mul {a b : Int} (h1 : 0 ≤ a) (h2 : a < 4294967296) (h3 : 0 ≤ b) (h4 : b < 4294967296) : mulOk a b = true := by
  unfold mulOk
  have ha : a.natAbs < 2 ^ 32 := by omega
  have hb : b.natAbs < 2 ^ 32 := by omega
  have h1 := log2_lt ha (by decide)
  have h2 := log2_lt hb (by decide)
  exact decide_eq_true (by omega)
theorem fmod_range {a b : Int} (h : 0 < b) : 0 ≤ a.fmod b ∧ a.fmod b < b := by
  rw [Int.fmod_eq_emod_of_nonneg _ (Int.le_of_lt h)]
  exact ⟨Int.emod_nonneg _ (by omega), Int.emod_lt_of_pos _ h⟩
abbrev cf (k : Nat) : CF := run G.M G.P k
def unf : Nat := 0
theorem atI_nat {α : Type} {xs : List α} {i : Int} (h : 0 ≤ i) (h2 : i < xs.length) : L2.ixN xs.length i = some i.toNat := by
  unfold L2.ixN
  rw [if_pos h, if_pos h2]
theorem zpow18 : bop .pow (.int 10) (.int 18) = some (.d (.int 1000000000000000000)) := by rfl
theorem zm31 (a : Int) : bop .mod (.int a) (.int 2147483647) = some (.d (.int (a.fmod 2147483647))) := z_mod (by decide)
theorem cell_at {cells : List Int} {i : Int} (h : 0 ≤ i) (h2 : i < (cells.map PyData.int).length) : ∃ cell, ixD (cells.map PyData.int) i = some (.int cell) := by
  rw [ixNat h h2]
  have : i.toNat < (cells.map PyData.int).length := by omega
  rw [List.getElem?_eq_getElem this, List.getElem_map]
  exact ⟨_, rfl⟩
theorem draw_ok (k : Nat) (b0 : Bool) {xs : List Dt} (h : PoolOk xs) {size : Int} (hs : 0 < size) (hl : size.natAbs.log2 < 9000) :
    ∃ v xs' tl, 0 ≤ v ∧ v < size ∧ PoolOk xs' ∧ run G.M G.P (k + 1) 5 [.ow b0 xs, .fz (.int size)] = some (.d (.int v), .ow b0 xs' :: .fz (.int size) :: tl) := by
  obtain ⟨cells, i, c, s, t, b, rfl, hi, h0, h1⟩ := h
  show ∃ v xs' tl, 0 ≤ v ∧ v < size ∧ PoolOk xs' ∧ runD (run G.M G.P k) G.M ⟨"_law_draw", 2, 4, b__law_draw⟩ [.ow b0 [.list (cells.map .int), .int i, .int c, .int s, .int t, .int b], .fz (.int size)] = some (.d (.int v), .ow b0 xs' :: .fz (.int size) :: tl)
  have hs' : size ≠ 0 := by omega
  have zms : ∀ a, bop .mod (.int a) (.int size) = some (.d (.int (a.fmod size))) := fun a => z_mod hs'
  have zds : ∀ a, bop .fdiv (.int a) (.int size) = some (.d (.int (a.fdiv size))) := fun a => z_fdiv (by unfold divOk; rw [decide_eq_true hs', decide_eq_true hl]; rfl)
  have mm : ∀ a b : Int, 0 ≤ a → a < 2147483647 → 0 ≤ b → b < 100000 → bop .mul (.int a) (.int b) = some (.d (.int (a * b))) := fun a b x1 x2 x3 x4 => z_mul (small_mul x1 (by omega) x3 (by omega))
  have key : ∀ c s t i : Int, 0 ≤ i → 0 ≤ s → s < 2147483647 → ∀ e2 e3 : Sv, e2 ≠ .ow true [] → (∀ xs, e3 ≠ .ow true xs) → ∃ v xs' tl, 0 ≤ v ∧ v < size ∧ PoolOk xs' ∧
      evB (run G.M G.P k) G.M ((match b__law_draw with | .cons _ r => r | _ => .nil)) [.ow b0 [.list (cells.map .int), .int i, .int c, .int s, .int t, .int b], .fz (.int size), e2, e3] = some (.rt (.d (.int v)) (.ow b0 xs' :: .fz (.int size) :: tl)) := by
    intro c s t i hi h0 h1 e2 e3 _ he3
    simp only [b__law_draw, evB, evS, ev, evs, mkV, mkI]
    by_cases hc : 0 < c
    · refine ⟨c.fmod size, [.list (cells.map .int), .int i, .int (c.fdiv size), .int s, .int 0, .int b], [e2, .fz (.int (c.fmod size))], (fmod_range hs).1, (fmod_range hs).2, ⟨cells, i, _, s, _, b, rfl, hi, h0, h1⟩, ?_⟩
      have hput : (match e3 with | .ow true _ => none | x => some (List.set ([.ow b0 [.list (cells.map .int), .int i, .int c, .int s, .int t, .int b], .fz (.int size), e2, e3] : En) 3 (.fz (.int (c.fmod size))))) = some [.ow b0 [.list (cells.map .int), .int i, .int c, .int s, .int t, .int b], .fz (.int size), e2, .fz (.int (c.fmod size))] := by
        cases e3 with
        | ow b xs => cases b with
          | true => exact absurd rfl (he3 xs)
          | false => rfl
        | _ => rfl
      cases e3 with
      | ow b3 xs3 => cases b3 with
        | true => exact absurd rfl (he3 xs3)
        | false => simp only [List.getElem?_cons_zero, List.getElem?_cons_succ, List.set_cons_zero, List.set_cons_succ, List.replicate_succ, List.replicate_zero, List.cons_append, List.nil_append, vCst, vNm, vBin, vNeg, vBits, vCmp, vCmp2, vAnd, vOr, vNot, vIte, vTup, vLst, vIx, vSlF, vSlT, vSl, vRev, vBlt, vBlt2, vFz, tOf, tAnd, tOr, tNot, iOf, iRng1, iRng2, iRng3, iEnum, iZip, iRevd, aNil, aCons, dNil, dCons, sAsg, sAsgT, sPar, sSet, sAug, sAugS, sApp, sExt, sEx, sIte, sRet, sRetN, sBrk, sCont, sPass, sNo, sSeq, store, put, frz, tgt, tgts, isOw, z_add, z_sub, z_xor, z_eq, z_ne, z_lt, z_le, z_gt, z_ge, z_dd, z_do, z_dl, z_tb, z_lenL, z_lenT, z_int, z_intB, z_abs, z_max, z_min, z_tupL, z_tupT, z_lstL, z_lstT, z_scr, ix0, ix1, ix2, ix3, ix4, ixn1, ixn2, ixn3, ixn4, decide_true, decide_false, if_true, if_false, Bool.false_eq_true, Bool.and_true, Bool.true_and, Bool.not_true, Bool.not_false, hc, zms, zds]
      | _ => simp only [List.getElem?_cons_zero, List.getElem?_cons_succ, List.set_cons_zero, List.set_cons_succ, List.replicate_succ, List.replicate_zero, List.cons_append, List.nil_append, vCst, vNm, vBin, vNeg, vBits, vCmp, vCmp2, vAnd, vOr, vNot, vIte, vTup, vLst, vIx, vSlF, vSlT, vSl, vRev, vBlt, vBlt2, vFz, tOf, tAnd, tOr, tNot, iOf, iRng1, iRng2, iRng3, iEnum, iZip, iRevd, aNil, aCons, dNil, dCons, sAsg, sAsgT, sPar, sSet, sAug, sAugS, sApp, sExt, sEx, sIte, sRet, sRetN, sBrk, sCont, sPass, sNo, sSeq, store, put, frz, tgt, tgts, isOw, z_add, z_sub, z_xor, z_eq, z_ne, z_lt, z_le, z_gt, z_ge, z_dd, z_do, z_dl, z_tb, z_lenL, z_lenT, z_int, z_intB, z_abs, z_max, z_min, z_tupL, z_tupT, z_lstL, z_lstT, z_scr, ix0, ix1, ix2, ix3, ix4, ixn1, ixn2, ixn3, ixn4, decide_true, decide_false, if_true, if_false, Bool.false_eq_true, Bool.and_true, Bool.true_and, Bool.not_true, Bool.not_false, hc, zms, zds]
    · have r1 := fmod_range (a := s * 48271 + 12345) (b := 2147483647) (by decide)
      refine ⟨(((s * 48271 + 12345).fmod 2147483647 * 69621 + 7919).fmod 2147483647).fmod size, [.list (cells.map .int), .int i, .int c, .int ((s * 48271 + 12345).fmod 2147483647), .int (t - 1), .int b], [e2, e3], (fmod_range hs).1, (fmod_range hs).2, ⟨cells, i, _, _, _, b, rfl, hi, r1.1, r1.2⟩, ?_⟩
      have m1 := mm s 48271 h0 h1 (by decide) (by decide)
      have m2 := mm ((s * 48271 + 12345).fmod 2147483647) 69621 r1.1 r1.2 (by decide) (by decide)
      simp only [List.getElem?_cons_zero, List.getElem?_cons_succ, List.set_cons_zero, List.set_cons_succ, List.replicate_succ, List.replicate_zero, List.cons_append, List.nil_append, vCst, vNm, vBin, vNeg, vBits, vCmp, vCmp2, vAnd, vOr, vNot, vIte, vTup, vLst, vIx, vSlF, vSlT, vSl, vRev, vBlt, vBlt2, vFz, tOf, tAnd, tOr, tNot, iOf, iRng1, iRng2, iRng3, iEnum, iZip, iRevd, aNil, aCons, dNil, dCons, sAsg, sAsgT, sPar, sSet, sAug, sAugS, sApp, sExt, sEx, sIte, sRet, sRetN, sBrk, sCont, sPass, sNo, sSeq, store, put, frz, tgt, tgts, isOw, z_add, z_sub, z_xor, z_eq, z_ne, z_lt, z_le, z_gt, z_ge, z_dd, z_do, z_dl, z_tb, z_lenL, z_lenT, z_int, z_intB, z_abs, z_max, z_min, z_tupL, z_tupT, z_lstL, z_lstT, z_scr, ix0, ix1, ix2, ix3, ix4, ixn1, ixn2, ixn3, ixn4, decide_true, decide_false, if_true, if_false, Bool.false_eq_true, Bool.and_true, Bool.true_and, Bool.not_true, Bool.not_false, hc, zms, zm31, m1, m2]
  have fin : ∀ {e : En} {v : Int} {xs' : List Dt} {tl : En}, evB (run G.M G.P k) G.M b__law_draw e = some (.rt (.d (.int v)) (.ow b0 xs' :: .fz (.int size) :: tl)) → e = [.ow b0 [.list (cells.map .int), .int i, .int c, .int s, .int t, .int b], .fz (.int size), .un, .un] →
      runD (run G.M G.P k) G.M ⟨"_law_draw", 2, 4, b__law_draw⟩ [.ow b0 [.list (cells.map .int), .int i, .int c, .int s, .int t, .int b], .fz (.int size)] = some (.d (.int v), .ow b0 xs' :: .fz (.int size) :: tl) := fun {e v xs' tl} h1 h2 => by
    subst h2
    exact runD_d _ rfl rfl h1
  by_cases hc : c ≤ 0 ∧ t ≤ 0 ∧ i < (cells.map PyData.int).length
  · obtain ⟨hc, ht, hl⟩ := hc
    obtain ⟨cell, hcell⟩ := cell_at hi hl
    have r1 := fmod_range (a := s * 31 + cell) (b := 2147483647) (by decide)
    have m1 := mm s 31 h0 h1 (by decide) (by decide)
    by_cases hg : 1000000000000000000 ≤ cell
    · obtain ⟨v, xs', tl, h2, h3, h4, h5⟩ := key cell ((s * 31 + cell).fmod 2147483647) 7 (i + 1) (by omega) r1.1 r1.2 (.fz (.int cell)) .un (fun z => nomatch z) (fun _ z => nomatch z)
      refine ⟨v, xs', tl, h2, h3, h4, fin (e := [.ow b0 [.list (cells.map .int), .int i, .int c, .int s, .int t, .int b], .fz (.int size), .un, .un]) ?_ rfl⟩
      rw [← h5]
      simp only [b__law_draw, evB, evS, ev, evs, mkV, mkI]
      simp only [List.getElem?_cons_zero, List.getElem?_cons_succ, List.set_cons_zero, List.set_cons_succ, List.replicate_succ, List.replicate_zero, List.cons_append, List.nil_append, vCst, vNm, vBin, vNeg, vBits, vCmp, vCmp2, vAnd, vOr, vNot, vIte, vTup, vLst, vIx, vSlF, vSlT, vSl, vRev, vBlt, vBlt2, vFz, tOf, tAnd, tOr, tNot, iOf, iRng1, iRng2, iRng3, iEnum, iZip, iRevd, aNil, aCons, dNil, dCons, sAsg, sAsgT, sPar, sSet, sAug, sAugS, sApp, sExt, sEx, sIte, sRet, sRetN, sBrk, sCont, sPass, sNo, sSeq, store, put, frz, tgt, tgts, isOw, z_add, z_sub, z_xor, z_eq, z_ne, z_lt, z_le, z_gt, z_ge, z_dd, z_do, z_dl, z_tb, z_lenL, z_lenT, z_int, z_intB, z_abs, z_max, z_min, z_tupL, z_tupT, z_lstL, z_lstT, z_scr, ix0, ix1, ix2, ix3, ix4, ixn1, ixn2, ixn3, ixn4, decide_true, decide_false, if_true, if_false, Bool.false_eq_true, Bool.and_true, Bool.true_and, Bool.not_true, Bool.not_false, hc, ht, hl, hcell, m1, zm31, zpow18, hg]
    · obtain ⟨v, xs', tl, h2, h3, h4, h5⟩ := key c ((s * 31 + cell).fmod 2147483647) 7 (i + 1) (by omega) r1.1 r1.2 (.fz (.int cell)) .un (fun z => nomatch z) (fun _ z => nomatch z)
      refine ⟨v, xs', tl, h2, h3, h4, fin (e := [.ow b0 [.list (cells.map .int), .int i, .int c, .int s, .int t, .int b], .fz (.int size), .un, .un]) ?_ rfl⟩
      rw [← h5]
      simp only [b__law_draw, evB, evS, ev, evs, mkV, mkI]
      simp only [List.getElem?_cons_zero, List.getElem?_cons_succ, List.set_cons_zero, List.set_cons_succ, List.replicate_succ, List.replicate_zero, List.cons_append, List.nil_append, vCst, vNm, vBin, vNeg, vBits, vCmp, vCmp2, vAnd, vOr, vNot, vIte, vTup, vLst, vIx, vSlF, vSlT, vSl, vRev, vBlt, vBlt2, vFz, tOf, tAnd, tOr, tNot, iOf, iRng1, iRng2, iRng3, iEnum, iZip, iRevd, aNil, aCons, dNil, dCons, sAsg, sAsgT, sPar, sSet, sAug, sAugS, sApp, sExt, sEx, sIte, sRet, sRetN, sBrk, sCont, sPass, sNo, sSeq, store, put, frz, tgt, tgts, isOw, z_add, z_sub, z_xor, z_eq, z_ne, z_lt, z_le, z_gt, z_ge, z_dd, z_do, z_dl, z_tb, z_lenL, z_lenT, z_int, z_intB, z_abs, z_max, z_min, z_tupL, z_tupT, z_lstL, z_lstT, z_scr, ix0, ix1, ix2, ix3, ix4, ixn1, ixn2, ixn3, ixn4, decide_true, decide_false, if_true, if_false, Bool.false_eq_true, Bool.and_true, Bool.true_and, Bool.not_true, Bool.not_false, hc, ht, hl, hcell, m1, zm31, zpow18, hg]
  · obtain ⟨v, xs', tl, h2, h3, h4, h5⟩ := key c s t i hi h0 h1 .un .un (fun z => nomatch z) (fun _ z => nomatch z)
    refine ⟨v, xs', tl, h2, h3, h4, fin (e := [.ow b0 [.list (cells.map .int), .int i, .int c, .int s, .int t, .int b], .fz (.int size), .un, .un]) ?_ rfl⟩
    rw [← h5]
    simp only [b__law_draw, evB, evS, ev, evs, mkV, mkI]
    by_cases q1 : c ≤ 0
    · by_cases q2 : t ≤ 0
      · have q3 : ¬ i < (cells.map PyData.int).length := fun z => hc ⟨q1, q2, z⟩
        simp only [List.getElem?_cons_zero, List.getElem?_cons_succ, List.set_cons_zero, List.set_cons_succ, List.replicate_succ, List.replicate_zero, List.cons_append, List.nil_append, vCst, vNm, vBin, vNeg, vBits, vCmp, vCmp2, vAnd, vOr, vNot, vIte, vTup, vLst, vIx, vSlF, vSlT, vSl, vRev, vBlt, vBlt2, vFz, tOf, tAnd, tOr, tNot, iOf, iRng1, iRng2, iRng3, iEnum, iZip, iRevd, aNil, aCons, dNil, dCons, sAsg, sAsgT, sPar, sSet, sAug, sAugS, sApp, sExt, sEx, sIte, sRet, sRetN, sBrk, sCont, sPass, sNo, sSeq, store, put, frz, tgt, tgts, isOw, z_add, z_sub, z_xor, z_eq, z_ne, z_lt, z_le, z_gt, z_ge, z_dd, z_do, z_dl, z_tb, z_lenL, z_lenT, z_int, z_intB, z_abs, z_max, z_min, z_tupL, z_tupT, z_lstL, z_lstT, z_scr, ix0, ix1, ix2, ix3, ix4, ixn1, ixn2, ixn3, ixn4, decide_true, decide_false, if_true, if_false, Bool.false_eq_true, Bool.and_true, Bool.true_and, Bool.not_true, Bool.not_false, q1, q2, q3]
      · simp only [List.getElem?_cons_zero, List.getElem?_cons_succ, List.set_cons_zero, List.set_cons_succ, List.replicate_succ, List.replicate_zero, List.cons_append, List.nil_append, vCst, vNm, vBin, vNeg, vBits, vCmp, vCmp2, vAnd, vOr, vNot, vIte, vTup, vLst, vIx, vSlF, vSlT, vSl, vRev, vBlt, vBlt2, vFz, tOf, tAnd, tOr, tNot, iOf, iRng1, iRng2, iRng3, iEnum, iZip, iRevd, aNil, aCons, dNil, dCons, sAsg, sAsgT, sPar, sSet, sAug, sAugS, sApp, sExt, sEx, sIte, sRet, sRetN, sBrk, sCont, sPass, sNo, sSeq, store, put, frz, tgt, tgts, isOw, z_add, z_sub, z_xor, z_eq, z_ne, z_lt, z_le, z_gt, z_ge, z_dd, z_do, z_dl, z_tb, z_lenL, z_lenT, z_int, z_intB, z_abs, z_max, z_min, z_tupL, z_tupT, z_lstL, z_lstT, z_scr, ix0, ix1, ix2, ix3, ix4, ixn1, ixn2, ixn3, ixn4, decide_true, decide_false, if_true, if_false, Bool.false_eq_true, Bool.and_true, Bool.true_and, Bool.not_true, Bool.not_false, q1, q2]
    · simp only [List.getElem?_cons_zero, List.getElem?_cons_succ, List.set_cons_zero, List.set_cons_succ, List.replicate_succ, List.replicate_zero, List.cons_append, List.nil_append, vCst, vNm, vBin, vNeg, vBits, vCmp, vCmp2, vAnd, vOr, vNot, vIte, vTup, vLst, vIx, vSlF, vSlT, vSl, vRev, vBlt, vBlt2, vFz, tOf, tAnd, tOr, tNot, iOf, iRng1, iRng2, iRng3, iEnum, iZip, iRevd, aNil, aCons, dNil, dCons, sAsg, sAsgT, sPar, sSet, sAug, sAugS, sApp, sExt, sEx, sIte, sRet, sRetN, sBrk, sCont, sPass, sNo, sSeq, store, put, frz, tgt, tgts, isOw, z_add, z_sub, z_xor, z_eq, z_ne, z_lt, z_le, z_gt, z_ge, z_dd, z_do, z_dl, z_tb, z_lenL, z_lenT, z_int, z_intB, z_abs, z_max, z_min, z_tupL, z_tupT, z_lstL, z_lstT, z_scr, ix0, ix1, ix2, ix3, ix4, ixn1, ixn2, ixn3, ixn4, decide_true, decide_false, if_true, if_false, Bool.false_eq_true, Bool.and_true, Bool.true_and, Bool.not_true, Bool.not_false, q1]
end Lawk83
end

section
set_option maxHeartbeats 4000000
namespace Lawk83
open PySem De

/-- a row of ints as data -/
abbrev il (ds : List Int) : List Dt := ds.map PyData.int
theorem whl_dg {L : Nat} {f g : Nat → Int → Int} {c : FT} {b : FS} {R : Int → List Int → En → Prop} (hc : ∀ n acc e, R n acc e → c e = some (decide (n ≠ 0), e))
    (hb : ∀ n acc e, R n acc e → n ≠ 0 → acc.length < L → ∃ e', b e = some (.nx e') ∧ R (g acc.length n) (acc ++ [f acc.length n]) e') :
    ∀ (ds : List Int) (n : Int) (acc : List Int) (e : En) (m : Nat), Dg f g acc.length n ds → ds.length < m → acc.length + ds.length < L → R n acc e → ∃ e', whL c b m e = some (.nx e') ∧ R 0 (acc ++ ds) e'
  | [], n, acc, e, m, h, hm, hl, r => by
    cases h
    cases m with
    | zero => exact absurd hm (Nat.not_lt_zero _)
    | succ m =>
      refine ⟨e, ?_, by rw [List.append_nil]; exact r⟩
      rw [whL, hc 0 acc e r]
      rfl
  | d :: ds, n, acc, e, m, h, hm, hl, r => by
    cases m with
    | zero => exact absurd hm (Nat.not_lt_zero _)
    | succ m =>
      cases h with
      | cons hn h =>
        simp only [List.length_cons] at hm hl
        obtain ⟨e', h1, h2⟩ := hb n acc e r hn (by omega)
        have h3 : Dg f g (acc ++ [f acc.length n]).length (g acc.length n) ds := by
          rw [List.length_append]
          exact h
        obtain ⟨e'', h4, h5⟩ := whl_dg hc hb ds _ _ e' m h3 (by omega) (by rw [List.length_append, List.length_singleton]; omega) h2
        refine ⟨e'', ?_, by rw [List.append_assoc] at h5; exact h5⟩
        rw [whL, hc n acc e r, decide_eq_true hn]
        simp only [h1]
        exact h4
theorem zlen {xs : List Dt} (h : xs.length < 1000000) (i : Bool) : (decide (xs.length < lim) && true) = true := by
  rw [Bool.and_true]
  exact decide_eq_true h
theorem size_ok (k : Nat) {b s : Int} (hs : 2 ≤ s) (hb : b = s ∨ b = -s) : run G.M G.P (k + 1) 6 [.fz (.int b)] = some (.d (.int s), [.fz (.int b)]) := by
  show runD (run G.M G.P k) G.M ⟨"_size", 1, 1, b__size⟩ [.fz (.int b)] = _
  refine runD_d [.fz (.int b)] rfl rfl ?_
  show evB _ _ b__size _ = _
  simp only [b__size, evB, evS, ev, evs, mkV, mkI]
  rcases hb with rfl | rfl
  · have h1 : -2 < b := by omega
    have h2 : ¬ b < 2 := by omega
    have h3 : ¬ b < 0 := by omega
    simp only [List.getElem?_cons_zero, List.getElem?_cons_succ, List.set_cons_zero, List.set_cons_succ, List.replicate_succ, List.replicate_zero, List.cons_append, List.nil_append, x_vCst, x_vNm, x_vBin, x_vNeg, x_vBits, x_vCmp, x_vCmp2, x_vAnd, x_vOr, x_vNot, x_vIte, x_vTup, x_vLst, x_vIx, x_vSlF, x_vSlT, x_vSl, x_vRev, x_vCall, x_vBlt, x_vBlt2, x_vPop, x_vPopAt, x_fYes, x_vFz, x_vNo, x_tOf, x_tAnd, x_tOr, x_tNot, x_iOf, x_iNo, x_iRng1, x_iRng2, x_iRng3, x_iEnum, x_iZip, x_iRevd, x_aNil, x_aCons, x_dNil, x_dCons, x_sAsg, x_sAsgT, x_sPar, x_sSet, x_sAug, x_sAugS, x_sApp, x_sExt, x_sEx, x_sIte, x_sRet, x_sRetN, x_sBrk, x_sCont, x_sPass, x_sNo, x_sSeq, argsOf, argOf, locs, backs, nd0, nd1, store, put, frz, tgt, tgts, isOw, z_add, z_sub, z_xor, z_eq, z_ne, z_lt, z_le, z_gt, z_ge, z_dd, z_do, z_dl, z_tb, z_lenL, z_lenT, z_int, z_intB, z_abs, z_max, z_min, z_tupL, z_tupT, z_lstL, z_lstT, z_scr, ix0, ix1, ix2, ix3, ix4, ixn1, ixn2, ixn3, ixn4, decide_true, decide_false, if_true, if_false, Bool.false_eq_true, Bool.and_true, Bool.true_and, Bool.not_true, Bool.not_false, h1, h2, h3]
  · have h1 : ¬ -2 < -s := by omega
    have h3 : -s < 0 := by omega
    simp only [List.getElem?_cons_zero, List.getElem?_cons_succ, List.set_cons_zero, List.set_cons_succ, List.replicate_succ, List.replicate_zero, List.cons_append, List.nil_append, x_vCst, x_vNm, x_vBin, x_vNeg, x_vBits, x_vCmp, x_vCmp2, x_vAnd, x_vOr, x_vNot, x_vIte, x_vTup, x_vLst, x_vIx, x_vSlF, x_vSlT, x_vSl, x_vRev, x_vCall, x_vBlt, x_vBlt2, x_vPop, x_vPopAt, x_fYes, x_vFz, x_vNo, x_tOf, x_tAnd, x_tOr, x_tNot, x_iOf, x_iNo, x_iRng1, x_iRng2, x_iRng3, x_iEnum, x_iZip, x_iRevd, x_aNil, x_aCons, x_dNil, x_dCons, x_sAsg, x_sAsgT, x_sPar, x_sSet, x_sAug, x_sAugS, x_sApp, x_sExt, x_sEx, x_sIte, x_sRet, x_sRetN, x_sBrk, x_sCont, x_sPass, x_sNo, x_sSeq, argsOf, argOf, locs, backs, nd0, nd1, store, put, frz, tgt, tgts, isOw, z_add, z_sub, z_xor, z_eq, z_ne, z_lt, z_le, z_gt, z_ge, z_dd, z_do, z_dl, z_tb, z_lenL, z_lenT, z_int, z_intB, z_abs, z_max, z_min, z_tupL, z_tupT, z_lstL, z_lstT, z_scr, ix0, ix1, ix2, ix3, ix4, ixn1, ixn2, ixn3, ixn4, decide_true, decide_false, if_true, if_false, Bool.false_eq_true, Bool.and_true, Bool.true_and, Bool.not_true, Bool.not_false, h1, h3, Int.neg_neg]
def figR (b s : Int) (n : Int) (acc : List Int) (e : En) : Prop := e = [.fz (.int n), .fz (.int b), .fz (.int s), .ow false (il acc)]
theorem fig_ok (k : Nat) {b s n : Int} {ds : List Int} (hs : 2 ≤ s) (hs2 : s < 1000) (hb : b = s ∨ b = -s) (hn : b = s → 0 ≤ n) (h : Dg (fF s) (gF s b) 0 n ds) (hl : ds.length < 900000) :
    run G.M G.P (k + 2) 7 [.fz (.int n), .fz (.int b)] = some (.d (.tuple (il ds)), [.fz (.int 0), .fz (.int b), .fz (.int s), .ow false (il ds)]) := by
  show runD (run G.M G.P (k + 1)) G.M ⟨"figures", 2, 4, b_figures⟩ [.fz (.int n), .fz (.int b)] = _
  refine runD_d [.fz (.int n), .fz (.int b), .un, .un] rfl rfl ?_
  show evB _ _ b_figures _ = _
  have hsz := size_ok k hs hb
  have hs0 : s ≠ 0 := by omega
  have hb0 : b ≠ 0 := by omega
  have zm : ∀ a, bop .mod (.int a) (.int s) = some (.d (.int (a.fmod s))) := fun a => z_mod hs0
  have zd : ∀ a, bop .fdiv (.int a) (.int b) = some (.d (.int (a.fdiv b))) := fun a => z_fdiv (by
    unfold divOk
    rw [decide_eq_true hb0, decide_eq_true (show b.natAbs.log2 < 9000 from log2_lt (show b.natAbs < 2 ^ 9000 from Nat.lt_of_lt_of_le (show b.natAbs < 2 ^ 10 by omega) (Nat.pow_le_pow_right (by decide) (by decide))) (by decide))]
    rfl)
  simp only [b_figures, evB, evS, ev, evs, mkV, mkI]
  have hw := whl_dg (L := 900000) (f := fF s) (g := gF s b) (R := figR b s) (c := tOf (vCmp Cop.ne (vNm 0) (vCst (PyData.int 0))))
    (b := sSeq (sApp 3 (vBin Bop.mod (vNm 0) (vNm 2))) (sSeq (sAsg 0 (vBin Bop.fdiv (vBin Bop.sub (vNm 0) (vBin Bop.mod (vNm 0) (vNm 2))) (vNm 1))) sPass))
    (fun n acc e r => by
      unfold figR at r
      subst r
      simp only [List.getElem?_cons_zero, List.getElem?_cons_succ, List.set_cons_zero, List.set_cons_succ, List.replicate_succ, List.replicate_zero, List.cons_append, List.nil_append, x_vCst, x_vNm, x_vBin, x_vNeg, x_vBits, x_vCmp, x_vCmp2, x_vAnd, x_vOr, x_vNot, x_vIte, x_vTup, x_vLst, x_vIx, x_vSlF, x_vSlT, x_vSl, x_vRev, x_vCall, x_vBlt, x_vBlt2, x_vPop, x_vPopAt, x_fYes, x_vFz, x_vNo, x_tOf, x_tAnd, x_tOr, x_tNot, x_iOf, x_iNo, x_iRng1, x_iRng2, x_iRng3, x_iEnum, x_iZip, x_iRevd, x_aNil, x_aCons, x_dNil, x_dCons, x_sAsg, x_sAsgT, x_sPar, x_sSet, x_sAug, x_sAugS, x_sApp, x_sExt, x_sEx, x_sIte, x_sRet, x_sRetN, x_sBrk, x_sCont, x_sPass, x_sNo, x_sSeq, argsOf, argOf, locs, backs, nd0, nd1, store, put, frz, tgt, tgts, isOw, z_add, z_sub, z_xor, z_eq, z_ne, z_lt, z_le, z_gt, z_ge, z_dd, z_do, z_dl, z_tb, z_lenL, z_lenT, z_int, z_intB, z_abs, z_max, z_min, z_tupL, z_tupT, z_lstL, z_lstT, z_scr, ix0, ix1, ix2, ix3, ix4, ixn1, ixn2, ixn3, ixn4, decide_true, decide_false, if_true, if_false, Bool.false_eq_true, Bool.and_true, Bool.true_and, Bool.not_true, Bool.not_false]
      by_cases z : n = 0
      · subst z
        rfl
      · simp only [z, decide_false, Bool.not_false, ne_eq, not_false_eq_true, decide_true])
    (fun n acc e r hz hac => by
      unfold figR at r
      subst r
      refine ⟨_, ?_, rfl⟩
      have hlen : (il acc).length < lim := by rw [List.length_map]; unfold lim; omega
      simp only [List.getElem?_cons_zero, List.getElem?_cons_succ, List.set_cons_zero, List.set_cons_succ, List.replicate_succ, List.replicate_zero, List.cons_append, List.nil_append, x_vCst, x_vNm, x_vBin, x_vNeg, x_vBits, x_vCmp, x_vCmp2, x_vAnd, x_vOr, x_vNot, x_vIte, x_vTup, x_vLst, x_vIx, x_vSlF, x_vSlT, x_vSl, x_vRev, x_vCall, x_vBlt, x_vBlt2, x_vPop, x_vPopAt, x_fYes, x_vFz, x_vNo, x_tOf, x_tAnd, x_tOr, x_tNot, x_iOf, x_iNo, x_iRng1, x_iRng2, x_iRng3, x_iEnum, x_iZip, x_iRevd, x_aNil, x_aCons, x_dNil, x_dCons, x_sAsg, x_sAsgT, x_sPar, x_sSet, x_sAug, x_sAugS, x_sApp, x_sExt, x_sEx, x_sIte, x_sRet, x_sRetN, x_sBrk, x_sCont, x_sPass, x_sNo, x_sSeq, argsOf, argOf, locs, backs, nd0, nd1, store, put, frz, tgt, tgts, isOw, z_add, z_sub, z_xor, z_eq, z_ne, z_lt, z_le, z_gt, z_ge, z_dd, z_do, z_dl, z_tb, z_lenL, z_lenT, z_int, z_intB, z_abs, z_max, z_min, z_tupL, z_tupT, z_lstL, z_lstT, z_scr, ix0, ix1, ix2, ix3, ix4, ixn1, ixn2, ixn3, ixn4, decide_true, decide_false, if_true, if_false, Bool.false_eq_true, Bool.and_true, Bool.true_and, Bool.not_true, Bool.not_false, zm, zd, hlen, il, List.map_append, List.map_cons, List.map_nil]
      rfl)
    ds n [] _ G.M h (by show _ < 1000000; omega) (by rw [List.length_nil]; omega) rfl
  obtain ⟨e', hw1, hw2⟩ := hw
  unfold figR at hw2
  subst hw2
  have hpos : (0 < b ∧ n < 0) → False := fun ⟨x, y⟩ => by
    rcases hb with z | z
    · have := hn z; omega
    · omega
  have hsm : small ([] : List Dt) = true := rfl
  by_cases c1 : 0 < b
  · have c2 : ¬ n < 0 := fun z => hpos ⟨c1, z⟩
    simp only [il, List.map_nil] at hw1
    simp only [List.getElem?_cons_zero, List.getElem?_cons_succ, List.set_cons_zero, List.set_cons_succ, List.replicate_succ, List.replicate_zero, List.cons_append, List.nil_append, x_vCst, x_vNm, x_vBin, x_vNeg, x_vBits, x_vCmp, x_vCmp2, x_vAnd, x_vOr, x_vNot, x_vIte, x_vTup, x_vLst, x_vIx, x_vSlF, x_vSlT, x_vSl, x_vRev, x_vCall, x_vBlt, x_vBlt2, x_vPop, x_vPopAt, x_fYes, x_vFz, x_vNo, x_tOf, x_tAnd, x_tOr, x_tNot, x_iOf, x_iNo, x_iRng1, x_iRng2, x_iRng3, x_iEnum, x_iZip, x_iRevd, x_aNil, x_aCons, x_dNil, x_dCons, x_sAsg, x_sAsgT, x_sPar, x_sSet, x_sAug, x_sAugS, x_sApp, x_sExt, x_sEx, x_sIte, x_sRet, x_sRetN, x_sBrk, x_sCont, x_sPass, x_sNo, x_sSeq, argsOf, argOf, locs, backs, nd0, nd1, store, put, frz, tgt, tgts, isOw, z_add, z_sub, z_xor, z_eq, z_ne, z_lt, z_le, z_gt, z_ge, z_dd, z_do, z_dl, z_tb, z_lenL, z_lenT, z_int, z_intB, z_abs, z_max, z_min, z_tupL, z_tupT, z_lstL, z_lstT, z_scr, ix0, ix1, ix2, ix3, ix4, ixn1, ixn2, ixn3, ixn4, decide_true, decide_false, if_true, if_false, Bool.false_eq_true, Bool.and_true, Bool.true_and, Bool.not_true, Bool.not_false, hsz, c1, c2, hw1, hsm]
  · simp only [il, List.map_nil] at hw1
    simp only [List.getElem?_cons_zero, List.getElem?_cons_succ, List.set_cons_zero, List.set_cons_succ, List.replicate_succ, List.replicate_zero, List.cons_append, List.nil_append, x_vCst, x_vNm, x_vBin, x_vNeg, x_vBits, x_vCmp, x_vCmp2, x_vAnd, x_vOr, x_vNot, x_vIte, x_vTup, x_vLst, x_vIx, x_vSlF, x_vSlT, x_vSl, x_vRev, x_vCall, x_vBlt, x_vBlt2, x_vPop, x_vPopAt, x_fYes, x_vFz, x_vNo, x_tOf, x_tAnd, x_tOr, x_tNot, x_iOf, x_iNo, x_iRng1, x_iRng2, x_iRng3, x_iEnum, x_iZip, x_iRevd, x_aNil, x_aCons, x_dNil, x_dCons, x_sAsg, x_sAsgT, x_sPar, x_sSet, x_sAug, x_sAugS, x_sApp, x_sExt, x_sEx, x_sIte, x_sRet, x_sRetN, x_sBrk, x_sCont, x_sPass, x_sNo, x_sSeq, argsOf, argOf, locs, backs, nd0, nd1, store, put, frz, tgt, tgts, isOw, z_add, z_sub, z_xor, z_eq, z_ne, z_lt, z_le, z_gt, z_ge, z_dd, z_do, z_dl, z_tb, z_lenL, z_lenT, z_int, z_intB, z_abs, z_max, z_min, z_tupL, z_tupT, z_lstL, z_lstT, z_scr, ix0, ix1, ix2, ix3, ix4, ixn1, ixn2, ixn3, ixn4, decide_true, decide_false, if_true, if_false, Bool.false_eq_true, Bool.and_true, Bool.true_and, Bool.not_true, Bool.not_false, hsz, c1, hw1, hsm]
end Lawk83
end

section
set_option maxHeartbeats 4000000
set_option exponentiation.threshold 500000
namespace Lawk83
open PySem De

theorem div_ok {b : Int} (h : b ≠ 0) (h2 : b.natAbs < 1024) : divOk b = true := by
  unfold divOk
  have h3 : b.natAbs < 2 ^ 10 := h2
  have h4 := log2_lt h3 (by decide)
  rw [decide_eq_true h, decide_eq_true (show b.natAbs.log2 < 9000 by omega)]
  rfl
theorem compL_map {f : Dt → En → Option (List Dt × En)} {e0 : En} {φ : Dt → List Dt} : ∀ (ds : List Dt), (∀ d ∈ ds, f d e0 = some (φ d, e0)) → compL f ds e0 = some (ds.flatMap φ, e0)
  | [], _ => rfl
  | d :: ds, h => by
    rw [compL, h d List.mem_cons_self]
    show (match compL f ds e0 with
      | some (zs, e2) => some (φ d ++ zs, e2)
      | none => none) = _
    rw [compL_map ds fun x hx => h x (List.mem_cons_of_mem _ hx), List.flatMap_cons]
theorem any_false {xs : List Dt} : blt .any [.list (xs.flatMap fun _ => [PyData.bool false])] = some (.d (.bool false)) := by
  have h : ∀ xs : List Dt, ∃ bs, boolsOf (xs.flatMap fun _ => [PyData.bool false]) = some bs ∧ bs.any id = false := fun xs => by
    induction xs with
    | nil => exact ⟨[], rfl, rfl⟩
    | cons x xs ih =>
      obtain ⟨bs, h1, h2⟩ := ih
      refine ⟨false :: bs, ?_, ?_⟩
      · rw [List.flatMap_cons]
        show (match boolsOf (xs.flatMap fun _ => [PyData.bool false]) with
          | some l => some (false :: l)
          | none => none) = _
        rw [h1]
      · rw [List.any_cons, h2]
        rfl
  obtain ⟨bs, h1, h2⟩ := h xs
  show (match boolsOf (xs.flatMap fun _ => [PyData.bool false]) with
    | some bs => some (Rv.d (.bool (bs.any id)))
    | none => none) = _
  rw [h1]
  show some (Rv.d (.bool (bs.any id))) = _
  rw [h2]
theorem flen {c : Dt} : ∀ xs : List Dt, (xs.flatMap fun _ => [c]).length = xs.length
  | [] => rfl
  | x :: xs => by
    simp only [List.flatMap_cons, List.length_append, List.length_cons, List.length_nil, flen xs]
    omega
theorem small_il {xs : List Dt} (h : xs.length ≤ 1000000) : small xs = true := decide_eq_true h
theorem val_bound {b : Int} (hb : b.natAbs < 1024) : ∀ (ds : List Int), (∀ d ∈ ds, d.natAbs < 1024) → (val b ds).natAbs < 1024 ^ (ds.length + 1)
  | [], _ => by
    show (0 : Int).natAbs < _
    simp
  | d :: ds, h => by
    have ih := val_bound hb ds fun x hx => h x (List.mem_cons_of_mem _ hx)
    have h1 := h d List.mem_cons_self
    have h2 := Int.natAbs_add_le d (b * val b ds)
    rw [Int.natAbs_mul] at h2
    have h3 : b.natAbs * (val b ds).natAbs ≤ 1023 * (val b ds).natAbs := Nat.mul_le_mul_right _ (by omega)
    show (d + b * val b ds).natAbs < 1024 ^ (ds.length + 1 + 1)
    have h4 : 1024 ^ (ds.length + 1 + 1) = 1024 * 1024 ^ (ds.length + 1) := by rw [Nat.pow_succ, Nat.mul_comm]
    have h5 : 1024 ≤ 1024 ^ (ds.length + 1) := by
      rw [Nat.pow_succ]
      exact Nat.le_mul_of_pos_left _ (Nat.pow_pos (by decide))
    omega
theorem val_mul {b : Int} (hb : b.natAbs < 1024) {ds : List Int} (h : ∀ d ∈ ds, d.natAbs < 1024) (hl : ds.length ≤ 20000) : mulOk (val b ds) b = true := by
  have h1 := val_bound hb ds h
  have h2 : (1024 : Nat) ^ (ds.length + 1) ≤ 2 ^ 300000 := by
    rw [show (1024 : Nat) = 2 ^ 10 from rfl, ← Nat.pow_mul]
    exact Nat.pow_le_pow_right (by decide) (by omega)
  unfold mulOk
  have h3 := log2_lt (Nat.lt_of_lt_of_le h1 h2) (by decide)
  have h4 := log2_lt (show b.natAbs < 2 ^ 10 from hb) (by decide)
  exact decide_eq_true (by omega)
/-! ### the number of figures -/
def hor (b : Int) : List Int → Int → Int
  | [], r => r
  | u :: us, r => hor b us (r * b + u)
def Hz (b : Int) : List Int → Int → Prop
  | [], _ => True
  | u :: us, r => mulOk r b = true ∧ Hz b us (r * b + u)
theorem hor_app {b : Int} : ∀ (us : List Int) (d r : Int), hor b (us ++ [d]) r = hor b us r * b + d
  | [], _, _ => rfl
  | u :: us, d, r => hor_app us d (r * b + u)
theorem Hz_app {b : Int} : ∀ (us : List Int) (d r : Int), Hz b us r → mulOk (hor b us r) b = true → Hz b (us ++ [d]) r
  | [], _, _, _, h => ⟨h, trivial⟩
  | u :: us, d, r, h, h2 => ⟨h.1, Hz_app us d (r * b + u) h.2 h2⟩
theorem hor_rev {b : Int} (hb : b.natAbs < 1024) : ∀ (ds : List Int), (∀ d ∈ ds, d.natAbs < 1024) → ds.length ≤ 20000 → hor b ds.reverse 0 = val b ds ∧ Hz b ds.reverse 0
  | [], _, _ => ⟨rfl, trivial⟩
  | d :: ds, h, hl => by
    obtain ⟨h1, h2⟩ := hor_rev hb ds (fun x hx => h x (List.mem_cons_of_mem _ hx)) (by simp only [List.length_cons] at hl; omega)
    rw [List.reverse_cons]
    refine ⟨?_, Hz_app _ _ _ h2 (by rw [h1]; exact val_mul hb (fun x hx => h x (List.mem_cons_of_mem _ hx)) (by simp only [List.length_cons] at hl; omega))⟩
    rw [hor_app, h1]
    show _ = d + b * val b ds
    rw [Int.mul_comm, Int.add_comm]
theorem whole_loop {b : Int} (told : Dt) : ∀ (us : List Int) (r : Int) (s : Sv), (∀ xs, s ≠ Sv.ow true xs) → Hz b us r →
    ∃ s', forL (forB (.nm 3) (sSeq (sAsg 2 (vBin Bop.add (vBin Bop.mul (vNm 2) (vNm 1)) (vNm 3))) sPass)) (il us) [.fz told, .fz (.int b), .fz (.int r), s] = some (.nx [.fz told, .fz (.int b), .fz (.int (hor b us r)), s'])
  | [], r, s, _, _ => ⟨s, rfl⟩
  | u :: us, r, s, hs, h => by
    obtain ⟨s', h2⟩ := whole_loop told us (r * b + u) (.fz (.int u)) (fun _ z => (nomatch z)) h.2
    refine ⟨s', ?_⟩
    have hm : bop .mul (.int r) (.int b) = some (.d (.int (r * b))) := z_mul h.1
    rw [← show hor b us (r * b + u) = hor b (u :: us) r from rfl, ← h2]
    show forL _ (PyData.int u :: il us) _ = _
    cases s with
    | ow p xs => cases p with
      | true => exact absurd rfl (hs xs)
      | false => rw [forL]; simp only [List.getElem?_cons_zero, List.getElem?_cons_succ, List.set_cons_zero, List.set_cons_succ, List.replicate_succ, List.replicate_zero, List.cons_append, List.nil_append, x_vCst, x_vNm, x_vBin, x_vNeg, x_vBits, x_vCmp, x_vCmp2, x_vAnd, x_vOr, x_vNot, x_vIte, x_vTup, x_vLst, x_vIx, x_vSlF, x_vSlT, x_vSl, x_vRev, x_vCall, x_vBlt, x_vBlt2, x_vPop, x_vPopAt, x_fYes, x_vFz, x_vNo, x_tOf, x_tAnd, x_tOr, x_tNot, x_iOf, x_iNo, x_iRng1, x_iRng2, x_iRng3, x_iEnum, x_iZip, x_iRevd, x_aNil, x_aCons, x_dNil, x_dCons, x_sAsg, x_sAsgT, x_sPar, x_sSet, x_sAug, x_sAugS, x_sApp, x_sExt, x_sEx, x_sIte, x_sRet, x_sRetN, x_sBrk, x_sCont, x_sPass, x_sNo, x_sSeq, argsOf, argOf, locs, backs, nd0, nd1, store, put, frz, tgt, tgts, isOw, z_add, z_sub, z_xor, z_eq, z_ne, z_lt, z_le, z_gt, z_ge, z_dd, z_do, z_dl, z_tb, z_lenL, z_lenT, z_int, z_intB, z_abs, z_max, z_min, z_tupL, z_tupT, z_lstL, z_lstT, z_scr, ix0, ix1, ix2, ix3, ix4, ixn1, ixn2, ixn3, ixn4, decide_true, decide_false, if_true, if_false, Bool.false_eq_true, Bool.and_true, Bool.true_and, Bool.not_true, Bool.not_false, x_turnC, wipeE, back, x_sForB, x_forB, hm]
    | _ => rw [forL]; simp only [List.getElem?_cons_zero, List.getElem?_cons_succ, List.set_cons_zero, List.set_cons_succ, List.replicate_succ, List.replicate_zero, List.cons_append, List.nil_append, x_vCst, x_vNm, x_vBin, x_vNeg, x_vBits, x_vCmp, x_vCmp2, x_vAnd, x_vOr, x_vNot, x_vIte, x_vTup, x_vLst, x_vIx, x_vSlF, x_vSlT, x_vSl, x_vRev, x_vCall, x_vBlt, x_vBlt2, x_vPop, x_vPopAt, x_fYes, x_vFz, x_vNo, x_tOf, x_tAnd, x_tOr, x_tNot, x_iOf, x_iNo, x_iRng1, x_iRng2, x_iRng3, x_iEnum, x_iZip, x_iRevd, x_aNil, x_aCons, x_dNil, x_dCons, x_sAsg, x_sAsgT, x_sPar, x_sSet, x_sAug, x_sAugS, x_sApp, x_sExt, x_sEx, x_sIte, x_sRet, x_sRetN, x_sBrk, x_sCont, x_sPass, x_sNo, x_sSeq, argsOf, argOf, locs, backs, nd0, nd1, store, put, frz, tgt, tgts, isOw, z_add, z_sub, z_xor, z_eq, z_ne, z_lt, z_le, z_gt, z_ge, z_dd, z_do, z_dl, z_tb, z_lenL, z_lenT, z_int, z_intB, z_abs, z_max, z_min, z_tupL, z_tupT, z_lstL, z_lstT, z_scr, ix0, ix1, ix2, ix3, ix4, ixn1, ixn2, ixn3, ixn4, decide_true, decide_false, if_true, if_false, Bool.false_eq_true, Bool.and_true, Bool.true_and, Bool.not_true, Bool.not_false, x_turnC, wipeE, back, x_sForB, x_forB, hm]
theorem whole_ok (k : Nat) {b : Int} (hb : b.natAbs < 1024) {ds : List Int} (h : ∀ d ∈ ds, d.natAbs < 1024) (hl : ds.length ≤ 20000) :
    ∃ ec, run G.M G.P (k + 1) 8 [.fz (.tuple (il ds)), .fz (.int b)] = some (.d (.int (val b ds)), .fz (.tuple (il ds)) :: .fz (.int b) :: ec) := by
  obtain ⟨g1, g2⟩ := hor_rev hb ds h hl
  obtain ⟨s, h2⟩ := whole_loop (.tuple (il ds)) ds.reverse 0 .un (fun _ z => (nomatch z)) g2
  rw [g1, il, List.map_reverse] at h2
  refine ⟨[.fz (.int (val b ds)), s], ?_⟩
  show runD (run G.M G.P k) G.M ⟨"_whole", 2, 4, b__whole⟩ _ = _
  refine runD_d [.fz (.tuple (il ds)), .fz (.int b), .un, .un] rfl rfl ?_
  show evB _ _ b__whole _ = _
  simp only [b__whole, evB, evS, ev, evs, mkV, mkI]
  simp only [List.getElem?_cons_zero, List.getElem?_cons_succ, List.set_cons_zero, List.set_cons_succ, List.replicate_succ, List.replicate_zero, List.cons_append, List.nil_append, x_vCst, x_vNm, x_vBin, x_vNeg, x_vBits, x_vCmp, x_vCmp2, x_vAnd, x_vOr, x_vNot, x_vIte, x_vTup, x_vLst, x_vIx, x_vSlF, x_vSlT, x_vSl, x_vRev, x_vCall, x_vBlt, x_vBlt2, x_vPop, x_vPopAt, x_fYes, x_vFz, x_vNo, x_tOf, x_tAnd, x_tOr, x_tNot, x_iOf, x_iNo, x_iRng1, x_iRng2, x_iRng3, x_iEnum, x_iZip, x_iRevd, x_aNil, x_aCons, x_dNil, x_dCons, x_sAsg, x_sAsgT, x_sPar, x_sSet, x_sAug, x_sAugS, x_sApp, x_sExt, x_sEx, x_sIte, x_sRet, x_sRetN, x_sBrk, x_sCont, x_sPass, x_sNo, x_sSeq, argsOf, argOf, locs, backs, nd0, nd1, store, put, frz, tgt, tgts, isOw, z_add, z_sub, z_xor, z_eq, z_ne, z_lt, z_le, z_gt, z_ge, z_dd, z_do, z_dl, z_tb, z_lenL, z_lenT, z_int, z_intB, z_abs, z_max, z_min, z_tupL, z_tupT, z_lstL, z_lstT, z_scr, ix0, ix1, ix2, ix3, ix4, ixn1, ixn2, ixn3, ixn4, decide_true, decide_false, if_true, if_false, Bool.false_eq_true, Bool.and_true, Bool.true_and, Bool.not_true, Bool.not_false, x_turnC, wipeE, back, x_sForB, x_forB, h2]
theorem number_ok (k : Nat) {b s : Int} (hs : 2 ≤ s) (hs2 : s < 1000) (hb : b = s ∨ b = -s) {ds : List Int} (h : ∀ d ∈ ds, 0 ≤ d ∧ d < s) (hl : ds.length ≤ 20000) :
    ∃ ec, run G.M G.P (k + 2) 14 [.fz (.tuple (il ds)), .fz (.int b)] = some (.d (.int (val b ds)), .fz (.tuple (il ds)) :: .fz (.int b) :: ec) := by
  have hsz := size_ok k hs hb
  obtain ⟨ec, hw⟩ := whole_ok k (b := b) (by omega) (ds := ds) (fun d hd => by have := h d hd; omega) hl
  refine ⟨[.fz (.int s), .un], ?_⟩
  show runD (run G.M G.P (k + 1)) G.M ⟨"number_of", 2, 4, b_number_of⟩ _ = _
  refine runD_d [.fz (.tuple (il ds)), .fz (.int b), .un, .un] rfl rfl ?_
  show evB _ _ b_number_of _ = _
  simp only [b_number_of, evB, evS, ev, evs, mkV, mkI]
  have hc := compL_map (f := turnC (vNot (vCmp2 Cop.le Cop.lt (vCst (.int 0)) (vNm 3) (vNm 2))) [3] (.nm 3) fYes) (e0 := [.fz (.tuple (il ds)), .fz (.int b), .fz (.int s), .un]) (φ := fun _ => [.bool false]) (il ds) (fun d hd => by
    obtain ⟨x, hx, rfl⟩ := List.mem_map.mp hd
    obtain ⟨h1, h2⟩ := h x hx
    simp only [List.getElem?_cons_zero, List.getElem?_cons_succ, List.set_cons_zero, List.set_cons_succ, List.replicate_succ, List.replicate_zero, List.cons_append, List.nil_append, x_vCst, x_vNm, x_vBin, x_vNeg, x_vBits, x_vCmp, x_vCmp2, x_vAnd, x_vOr, x_vNot, x_vIte, x_vTup, x_vLst, x_vIx, x_vSlF, x_vSlT, x_vSl, x_vRev, x_vCall, x_vBlt, x_vBlt2, x_vPop, x_vPopAt, x_fYes, x_vFz, x_vNo, x_tOf, x_tAnd, x_tOr, x_tNot, x_iOf, x_iNo, x_iRng1, x_iRng2, x_iRng3, x_iEnum, x_iZip, x_iRevd, x_aNil, x_aCons, x_dNil, x_dCons, x_sAsg, x_sAsgT, x_sPar, x_sSet, x_sAug, x_sAugS, x_sApp, x_sExt, x_sEx, x_sIte, x_sRet, x_sRetN, x_sBrk, x_sCont, x_sPass, x_sNo, x_sSeq, argsOf, argOf, locs, backs, nd0, nd1, store, put, frz, tgt, tgts, isOw, z_add, z_sub, z_xor, z_eq, z_ne, z_lt, z_le, z_gt, z_ge, z_dd, z_do, z_dl, z_tb, z_lenL, z_lenT, z_int, z_intB, z_abs, z_max, z_min, z_tupL, z_tupT, z_lstL, z_lstT, z_scr, ix0, ix1, ix2, ix3, ix4, ixn1, ixn2, ixn3, ixn4, decide_true, decide_false, if_true, if_false, Bool.false_eq_true, Bool.and_true, Bool.true_and, Bool.not_true, Bool.not_false, x_turnC, wipeE, back, x_sForB, x_forB, h1, h2])
  have hsm : small ((il ds).flatMap fun _ => [PyData.bool false]) = true := small_il (by
    rw [flen, List.length_map]
    omega)
  have ho : ownOk [.fz (.tuple (il ds)), .fz (.int b), .fz (.int s), .un] [3] = true := rfl
  simp only [List.getElem?_cons_zero, List.getElem?_cons_succ, List.set_cons_zero, List.set_cons_succ, List.replicate_succ, List.replicate_zero, List.cons_append, List.nil_append, x_vCst, x_vNm, x_vBin, x_vNeg, x_vBits, x_vCmp, x_vCmp2, x_vAnd, x_vOr, x_vNot, x_vIte, x_vTup, x_vLst, x_vIx, x_vSlF, x_vSlT, x_vSl, x_vRev, x_vCall, x_vBlt, x_vBlt2, x_vPop, x_vPopAt, x_fYes, x_vFz, x_vNo, x_tOf, x_tAnd, x_tOr, x_tNot, x_iOf, x_iNo, x_iRng1, x_iRng2, x_iRng3, x_iEnum, x_iZip, x_iRevd, x_aNil, x_aCons, x_dNil, x_dCons, x_sAsg, x_sAsgT, x_sPar, x_sSet, x_sAug, x_sAugS, x_sApp, x_sExt, x_sEx, x_sIte, x_sRet, x_sRetN, x_sBrk, x_sCont, x_sPass, x_sNo, x_sSeq, argsOf, argOf, locs, backs, nd0, nd1, store, put, frz, tgt, tgts, isOw, z_add, z_sub, z_xor, z_eq, z_ne, z_lt, z_le, z_gt, z_ge, z_dd, z_do, z_dl, z_tb, z_lenL, z_lenT, z_int, z_intB, z_abs, z_max, z_min, z_tupL, z_tupT, z_lstL, z_lstT, z_scr, ix0, ix1, ix2, ix3, ix4, ixn1, ixn2, ixn3, ixn4, decide_true, decide_false, if_true, if_false, Bool.false_eq_true, Bool.and_true, Bool.true_and, Bool.not_true, Bool.not_false, x_turnC, wipeE, back, x_sForB, x_forB, x_vComp, hsz, hc, hsm, ho, any_false, hw]
  rfl
end Lawk83
end

section
set_option maxHeartbeats 4000000
set_option exponentiation.threshold 500000
namespace Lawk83
open PySem De

theorem half_ok (k : Nat) {b h : Int} (hh : 1 ≤ h) (hb : b = 2 * h + 1) : run G.M G.P (k + 1) 2 [.fz (.int b)] = some (.d (.int h), [.fz (.int b)]) := by
  show runD (run G.M G.P k) G.M ⟨"_half", 1, 1, b__half⟩ [.fz (.int b)] = _
  refine runD_d [.fz (.int b)] rfl rfl ?_
  show evB _ _ b__half _ = _
  simp only [b__half, evB, evS, ev, evs, mkV, mkI]
  have h1 : ¬ b < 3 := by omega
  have zm : bop .mod (.int b) (.int 2) = some (.d (.int (b.fmod 2))) := z_mod (by decide)
  have e1 : b.fmod 2 = 1 := by rw [Int.fmod_eq_emod_of_nonneg _ (by decide)]; omega
  have zd : bop .fdiv (.int (b - 1)) (.int 2) = some (.d (.int ((b - 1).fdiv 2))) := z_fdiv (div_ok (by decide) (by decide))
  have e2 : (b - 1).fdiv 2 = h := by rw [Int.fdiv_eq_ediv_of_nonneg _ (by decide)]; omega
  have e3 : ¬ (1 : Int) = 0 := by decide
  simp only [List.getElem?_cons_zero, List.getElem?_cons_succ, List.set_cons_zero, List.set_cons_succ, List.replicate_succ, List.replicate_zero, List.cons_append, List.nil_append, x_vCst, x_vNm, x_vBin, x_vNeg, x_vBits, x_vCmp, x_vCmp2, x_vAnd, x_vOr, x_vNot, x_vIte, x_vTup, x_vLst, x_vIx, x_vSlF, x_vSlT, x_vSl, x_vRev, x_vCall, x_vBlt, x_vBlt2, x_vPop, x_vPopAt, x_fYes, x_vFz, x_vNo, x_tOf, x_tAnd, x_tOr, x_tNot, x_iOf, x_iNo, x_iRng1, x_iRng2, x_iRng3, x_iEnum, x_iZip, x_iRevd, x_aNil, x_aCons, x_dNil, x_dCons, x_sAsg, x_sAsgT, x_sPar, x_sSet, x_sAug, x_sAugS, x_sApp, x_sExt, x_sEx, x_sIte, x_sRet, x_sRetN, x_sBrk, x_sCont, x_sPass, x_sNo, x_sSeq, argsOf, argOf, locs, backs, nd0, nd1, store, put, frz, tgt, tgts, isOw, z_add, z_sub, z_xor, z_eq, z_ne, z_lt, z_le, z_gt, z_ge, z_dd, z_do, z_dl, z_tb, z_lenL, z_lenT, z_int, z_intB, z_abs, z_max, z_min, z_tupL, z_tupT, z_lstL, z_lstT, z_scr, ix0, ix1, ix2, ix3, ix4, ixn1, ixn2, ixn3, ixn4, decide_true, decide_false, if_true, if_false, Bool.false_eq_true, Bool.and_true, Bool.true_and, Bool.not_true, Bool.not_false, x_turnC, wipeE, back, x_sForB, x_forB, h1, zm, e1, zd, e2, e3]
def balR (b h : Int) (n : Int) (acc : List Int) (e : En) : Prop := ∃ s, (∀ xs, s ≠ Sv.ow true xs) ∧ e = [.fz (.int n), .fz (.int b), .fz (.int h), .ow false (il acc), s]
theorem bal_ok (k : Nat) {b h n : Int} {ds : List Int} (hh : 1 ≤ h) (hh2 : h < 100) (hb : b = 2 * h + 1) (hd : Dg (fB b h) (gB b h) 0 n ds) (hl : ds.length < 900000) :
    ∃ ec, run G.M G.P (k + 2) 3 [.fz (.int n), .fz (.int b)] = some (.d (.tuple (il ds)), .fz (.int 0) :: .fz (.int b) :: ec) := by
  have hsz := half_ok k hh hb
  have hb0 : b ≠ 0 := by omega
  have zm : ∀ a, bop .mod (.int a) (.int b) = some (.d (.int (a.fmod b))) := fun a => z_mod hb0
  have zd : ∀ a, bop .fdiv (.int a) (.int b) = some (.d (.int (a.fdiv b))) := fun a => z_fdiv (div_ok hb0 (by omega))
  have hw := whl_dg (L := 900000) (f := fB b h) (g := gB b h) (R := balR b h) (c := tOf (vCmp Cop.ne (vNm 0) (vCst (PyData.int 0))))
    (b := sSeq (sAsg 4 (vBin Bop.sub (vBin Bop.mod (vBin Bop.add (vNm 0) (vNm 2)) (vNm 1)) (vNm 2))) (sSeq (sApp 3 (vNm 4)) (sSeq (sAsg 0 (vBin Bop.fdiv (vBin Bop.sub (vNm 0) (vNm 4)) (vNm 1))) sPass)))
    (fun n acc e r => by
      obtain ⟨s, hs, rfl⟩ := r
      simp only [List.getElem?_cons_zero, List.getElem?_cons_succ, List.set_cons_zero, List.set_cons_succ, List.replicate_succ, List.replicate_zero, List.cons_append, List.nil_append, x_vCst, x_vNm, x_vBin, x_vNeg, x_vBits, x_vCmp, x_vCmp2, x_vAnd, x_vOr, x_vNot, x_vIte, x_vTup, x_vLst, x_vIx, x_vSlF, x_vSlT, x_vSl, x_vRev, x_vCall, x_vBlt, x_vBlt2, x_vPop, x_vPopAt, x_fYes, x_vFz, x_vNo, x_tOf, x_tAnd, x_tOr, x_tNot, x_iOf, x_iNo, x_iRng1, x_iRng2, x_iRng3, x_iEnum, x_iZip, x_iRevd, x_aNil, x_aCons, x_dNil, x_dCons, x_sAsg, x_sAsgT, x_sPar, x_sSet, x_sAug, x_sAugS, x_sApp, x_sExt, x_sEx, x_sIte, x_sRet, x_sRetN, x_sBrk, x_sCont, x_sPass, x_sNo, x_sSeq, argsOf, argOf, locs, backs, nd0, nd1, store, put, frz, tgt, tgts, isOw, z_add, z_sub, z_xor, z_eq, z_ne, z_lt, z_le, z_gt, z_ge, z_dd, z_do, z_dl, z_tb, z_lenL, z_lenT, z_int, z_intB, z_abs, z_max, z_min, z_tupL, z_tupT, z_lstL, z_lstT, z_scr, ix0, ix1, ix2, ix3, ix4, ixn1, ixn2, ixn3, ixn4, decide_true, decide_false, if_true, if_false, Bool.false_eq_true, Bool.and_true, Bool.true_and, Bool.not_true, Bool.not_false, x_turnC, wipeE, back, x_sForB, x_forB]
      by_cases z : n = 0
      · subst z
        rfl
      · simp only [z, decide_false, Bool.not_false, ne_eq, not_false_eq_true, decide_true])
    (fun n acc e r hz hac => by
      obtain ⟨s, hs, rfl⟩ := r
      have hlen : (il acc).length < lim := by rw [List.length_map]; unfold lim; omega
      refine ⟨_, ?_, .fz (.int ((n + h).fmod b - h)), fun _ z => (nomatch z), rfl⟩
      cases s with
      | ow p xs => cases p with
        | true => exact absurd rfl (hs xs)
        | false =>
          simp only [List.getElem?_cons_zero, List.getElem?_cons_succ, List.set_cons_zero, List.set_cons_succ, List.replicate_succ, List.replicate_zero, List.cons_append, List.nil_append, x_vCst, x_vNm, x_vBin, x_vNeg, x_vBits, x_vCmp, x_vCmp2, x_vAnd, x_vOr, x_vNot, x_vIte, x_vTup, x_vLst, x_vIx, x_vSlF, x_vSlT, x_vSl, x_vRev, x_vCall, x_vBlt, x_vBlt2, x_vPop, x_vPopAt, x_fYes, x_vFz, x_vNo, x_tOf, x_tAnd, x_tOr, x_tNot, x_iOf, x_iNo, x_iRng1, x_iRng2, x_iRng3, x_iEnum, x_iZip, x_iRevd, x_aNil, x_aCons, x_dNil, x_dCons, x_sAsg, x_sAsgT, x_sPar, x_sSet, x_sAug, x_sAugS, x_sApp, x_sExt, x_sEx, x_sIte, x_sRet, x_sRetN, x_sBrk, x_sCont, x_sPass, x_sNo, x_sSeq, argsOf, argOf, locs, backs, nd0, nd1, store, put, frz, tgt, tgts, isOw, z_add, z_sub, z_xor, z_eq, z_ne, z_lt, z_le, z_gt, z_ge, z_dd, z_do, z_dl, z_tb, z_lenL, z_lenT, z_int, z_intB, z_abs, z_max, z_min, z_tupL, z_tupT, z_lstL, z_lstT, z_scr, ix0, ix1, ix2, ix3, ix4, ixn1, ixn2, ixn3, ixn4, decide_true, decide_false, if_true, if_false, Bool.false_eq_true, Bool.and_true, Bool.true_and, Bool.not_true, Bool.not_false, x_turnC, wipeE, back, x_sForB, x_forB, zm, zd, hlen, il, List.map_append, List.map_cons, List.map_nil]
          rfl
      | _ =>
        simp only [List.getElem?_cons_zero, List.getElem?_cons_succ, List.set_cons_zero, List.set_cons_succ, List.replicate_succ, List.replicate_zero, List.cons_append, List.nil_append, x_vCst, x_vNm, x_vBin, x_vNeg, x_vBits, x_vCmp, x_vCmp2, x_vAnd, x_vOr, x_vNot, x_vIte, x_vTup, x_vLst, x_vIx, x_vSlF, x_vSlT, x_vSl, x_vRev, x_vCall, x_vBlt, x_vBlt2, x_vPop, x_vPopAt, x_fYes, x_vFz, x_vNo, x_tOf, x_tAnd, x_tOr, x_tNot, x_iOf, x_iNo, x_iRng1, x_iRng2, x_iRng3, x_iEnum, x_iZip, x_iRevd, x_aNil, x_aCons, x_dNil, x_dCons, x_sAsg, x_sAsgT, x_sPar, x_sSet, x_sAug, x_sAugS, x_sApp, x_sExt, x_sEx, x_sIte, x_sRet, x_sRetN, x_sBrk, x_sCont, x_sPass, x_sNo, x_sSeq, argsOf, argOf, locs, backs, nd0, nd1, store, put, frz, tgt, tgts, isOw, z_add, z_sub, z_xor, z_eq, z_ne, z_lt, z_le, z_gt, z_ge, z_dd, z_do, z_dl, z_tb, z_lenL, z_lenT, z_int, z_intB, z_abs, z_max, z_min, z_tupL, z_tupT, z_lstL, z_lstT, z_scr, ix0, ix1, ix2, ix3, ix4, ixn1, ixn2, ixn3, ixn4, decide_true, decide_false, if_true, if_false, Bool.false_eq_true, Bool.and_true, Bool.true_and, Bool.not_true, Bool.not_false, x_turnC, wipeE, back, x_sForB, x_forB, zm, zd, hlen, il, List.map_append, List.map_cons, List.map_nil]
        rfl)
    ds n [] [.fz (.int n), .fz (.int b), .fz (.int h), .ow false [], .un] G.M hd (by show _ < 1000000; omega) (by rw [List.length_nil]; omega) ⟨.un, fun _ z => (nomatch z), rfl⟩
  obtain ⟨e', hw1, s, hs, rfl⟩ := hw
  refine ⟨[.fz (.int h), .ow false (il ds), s], ?_⟩
  show runD (run G.M G.P (k + 1)) G.M ⟨"balanced", 2, 5, b_balanced⟩ _ = _
  refine runD_d [.fz (.int n), .fz (.int b), .un, .un, .un] rfl rfl ?_
  show evB _ _ b_balanced _ = _
  simp only [b_balanced, evB, evS, ev, evs, mkV, mkI]
  have hsm : small ([] : List Dt) = true := rfl
  simp only [List.getElem?_cons_zero, List.getElem?_cons_succ, List.set_cons_zero, List.set_cons_succ, List.replicate_succ, List.replicate_zero, List.cons_append, List.nil_append, x_vCst, x_vNm, x_vBin, x_vNeg, x_vBits, x_vCmp, x_vCmp2, x_vAnd, x_vOr, x_vNot, x_vIte, x_vTup, x_vLst, x_vIx, x_vSlF, x_vSlT, x_vSl, x_vRev, x_vCall, x_vBlt, x_vBlt2, x_vPop, x_vPopAt, x_fYes, x_vFz, x_vNo, x_tOf, x_tAnd, x_tOr, x_tNot, x_iOf, x_iNo, x_iRng1, x_iRng2, x_iRng3, x_iEnum, x_iZip, x_iRevd, x_aNil, x_aCons, x_dNil, x_dCons, x_sAsg, x_sAsgT, x_sPar, x_sSet, x_sAug, x_sAugS, x_sApp, x_sExt, x_sEx, x_sIte, x_sRet, x_sRetN, x_sBrk, x_sCont, x_sPass, x_sNo, x_sSeq, argsOf, argOf, locs, backs, nd0, nd1, store, put, frz, tgt, tgts, isOw, z_add, z_sub, z_xor, z_eq, z_ne, z_lt, z_le, z_gt, z_ge, z_dd, z_do, z_dl, z_tb, z_lenL, z_lenT, z_int, z_intB, z_abs, z_max, z_min, z_tupL, z_tupT, z_lstL, z_lstT, z_scr, ix0, ix1, ix2, ix3, ix4, ixn1, ixn2, ixn3, ixn4, decide_true, decide_false, if_true, if_false, Bool.false_eq_true, Bool.and_true, Bool.true_and, Bool.not_true, Bool.not_false, x_turnC, wipeE, back, x_sForB, x_forB, hsz, hw1, hsm]
theorem unbal_ok (k : Nat) {b h : Int} (hh : 1 ≤ h) (hh2 : h < 100) (hb : b = 2 * h + 1) {ds : List Int} (hr : ∀ d ∈ ds, -h ≤ d ∧ d ≤ h) (hl : ds.length ≤ 20000) :
    ∃ ec, run G.M G.P (k + 2) 9 [.fz (.tuple (il ds)), .fz (.int b)] = some (.d (.int (val b ds)), .fz (.tuple (il ds)) :: .fz (.int b) :: ec) := by
  have hsz := half_ok k hh hb
  obtain ⟨ec, hw⟩ := whole_ok k (b := b) (by omega) (ds := ds) (fun d hd => by have := hr d hd; omega) hl
  refine ⟨[.fz (.int h), .un], ?_⟩
  show runD (run G.M G.P (k + 1)) G.M ⟨"from_balanced", 2, 4, b_from_balanced⟩ _ = _
  refine runD_d [.fz (.tuple (il ds)), .fz (.int b), .un, .un] rfl rfl ?_
  show evB _ _ b_from_balanced _ = _
  simp only [b_from_balanced, evB, evS, ev, evs, mkV, mkI]
  have hc := compL_map (f := turnC (vCmp Cop.gt (vBlt Blt.abs (vNm 3)) (vNm 2)) [3] (.nm 3) fYes) (e0 := [.fz (.tuple (il ds)), .fz (.int b), .fz (.int h), .un]) (φ := fun _ => [.bool false]) (il ds) (fun d hd => by
    obtain ⟨x, hx, rfl⟩ := List.mem_map.mp hd
    obtain ⟨h1, h2⟩ := hr x hx
    have h3 : ¬ h < (if x < 0 then -x else x) := by split <;> omega
    simp only [List.getElem?_cons_zero, List.getElem?_cons_succ, List.set_cons_zero, List.set_cons_succ, List.replicate_succ, List.replicate_zero, List.cons_append, List.nil_append, x_vCst, x_vNm, x_vBin, x_vNeg, x_vBits, x_vCmp, x_vCmp2, x_vAnd, x_vOr, x_vNot, x_vIte, x_vTup, x_vLst, x_vIx, x_vSlF, x_vSlT, x_vSl, x_vRev, x_vCall, x_vBlt, x_vBlt2, x_vPop, x_vPopAt, x_fYes, x_vFz, x_vNo, x_tOf, x_tAnd, x_tOr, x_tNot, x_iOf, x_iNo, x_iRng1, x_iRng2, x_iRng3, x_iEnum, x_iZip, x_iRevd, x_aNil, x_aCons, x_dNil, x_dCons, x_sAsg, x_sAsgT, x_sPar, x_sSet, x_sAug, x_sAugS, x_sApp, x_sExt, x_sEx, x_sIte, x_sRet, x_sRetN, x_sBrk, x_sCont, x_sPass, x_sNo, x_sSeq, argsOf, argOf, locs, backs, nd0, nd1, store, put, frz, tgt, tgts, isOw, z_add, z_sub, z_xor, z_eq, z_ne, z_lt, z_le, z_gt, z_ge, z_dd, z_do, z_dl, z_tb, z_lenL, z_lenT, z_int, z_intB, z_abs, z_max, z_min, z_tupL, z_tupT, z_lstL, z_lstT, z_scr, ix0, ix1, ix2, ix3, ix4, ixn1, ixn2, ixn3, ixn4, decide_true, decide_false, if_true, if_false, Bool.false_eq_true, Bool.and_true, Bool.true_and, Bool.not_true, Bool.not_false, x_turnC, wipeE, back, x_sForB, x_forB, h3])
  have hsm : small ((il ds).flatMap fun _ => [PyData.bool false]) = true := small_il (by
    rw [flen, List.length_map]
    omega)
  have ho : ownOk [.fz (.tuple (il ds)), .fz (.int b), .fz (.int h), .un] [3] = true := rfl
  simp only [List.getElem?_cons_zero, List.getElem?_cons_succ, List.set_cons_zero, List.set_cons_succ, List.replicate_succ, List.replicate_zero, List.cons_append, List.nil_append, x_vCst, x_vNm, x_vBin, x_vNeg, x_vBits, x_vCmp, x_vCmp2, x_vAnd, x_vOr, x_vNot, x_vIte, x_vTup, x_vLst, x_vIx, x_vSlF, x_vSlT, x_vSl, x_vRev, x_vCall, x_vBlt, x_vBlt2, x_vPop, x_vPopAt, x_fYes, x_vFz, x_vNo, x_tOf, x_tAnd, x_tOr, x_tNot, x_iOf, x_iNo, x_iRng1, x_iRng2, x_iRng3, x_iEnum, x_iZip, x_iRevd, x_aNil, x_aCons, x_dNil, x_dCons, x_sAsg, x_sAsgT, x_sPar, x_sSet, x_sAug, x_sAugS, x_sApp, x_sExt, x_sEx, x_sIte, x_sRet, x_sRetN, x_sBrk, x_sCont, x_sPass, x_sNo, x_sSeq, argsOf, argOf, locs, backs, nd0, nd1, store, put, frz, tgt, tgts, isOw, z_add, z_sub, z_xor, z_eq, z_ne, z_lt, z_le, z_gt, z_ge, z_dd, z_do, z_dl, z_tb, z_lenL, z_lenT, z_int, z_intB, z_abs, z_max, z_min, z_tupL, z_tupT, z_lstL, z_lstT, z_scr, ix0, ix1, ix2, ix3, ix4, ixn1, ixn2, ixn3, ixn4, decide_true, decide_false, if_true, if_false, Bool.false_eq_true, Bool.and_true, Bool.true_and, Bool.not_true, Bool.not_false, x_turnC, wipeE, back, x_sForB, x_forB, x_vComp, hsz, hc, hsm, ho, any_false, hw]
  rfl
/-! ### a power by turns -/
theorem rng_len (n : Nat) : (rngL 0 1 0 n).length = n := rngL_len 0 1 n 0
theorem pow_bits {b : Int} (hb : b.natAbs < 1024) (m : Nat) (hm : m ≤ 20000) : mulOk (b ^ m) b = true := by
  unfold mulOk
  have h1 : (b ^ m).natAbs ≤ 1024 ^ m := by
    rw [Int.natAbs_pow]
    exact Nat.pow_le_pow_left (by omega) _
  have h2 : (1024 : Nat) ^ m < 2 ^ 300000 := by
    rw [show (1024 : Nat) = 2 ^ 10 from rfl, ← Nat.pow_mul]
    exact Nat.pow_lt_pow_right (by decide) (by omega)
  have h3 := log2_lt (Nat.lt_of_le_of_lt h1 h2) (by decide)
  have h4 := log2_lt (show b.natAbs < 2 ^ 10 from hb) (by decide)
  exact decide_eq_true (by omega)
theorem pow_loop {b : Int} (hb : b.natAbs < 1024) (x : Dt) : ∀ (ds : List Dt) (m : Nat) (s : Sv), (∀ xs, s ≠ Sv.ow true xs) → m + ds.length ≤ 20000 →
    ∃ s', forL (forB (.nm 3) (sSeq (sAsg 2 (vBin Bop.mul (vNm 2) (vNm 0))) sPass)) ds [.fz (.int b), .fz x, .fz (.int (b ^ m)), s] = some (.nx [.fz (.int b), .fz x, .fz (.int (b ^ (m + ds.length))), s'])
  | [], m, s, _, _ => ⟨s, rfl⟩
  | d :: ds, m, s, hs, h => by
    simp only [List.length_cons] at h
    obtain ⟨s', h2⟩ := pow_loop hb x ds (m + 1) (.fz d) (fun _ z => (nomatch z)) (by omega)
    refine ⟨s', ?_⟩
    have hm : bop .mul (.int (b ^ m)) (.int b) = some (.d (.int (b ^ (m + 1)))) := by
      rw [Int.pow_succ]
      exact z_mul (pow_bits hb m (by omega))
    rw [List.length_cons, show m + (ds.length + 1) = m + 1 + ds.length by omega, ← h2]
    cases s with
    | ow p xs => cases p with
      | true => exact absurd rfl (hs xs)
      | false => rw [forL]; simp only [List.getElem?_cons_zero, List.getElem?_cons_succ, List.set_cons_zero, List.set_cons_succ, List.replicate_succ, List.replicate_zero, List.cons_append, List.nil_append, x_vCst, x_vNm, x_vBin, x_vNeg, x_vBits, x_vCmp, x_vCmp2, x_vAnd, x_vOr, x_vNot, x_vIte, x_vTup, x_vLst, x_vIx, x_vSlF, x_vSlT, x_vSl, x_vRev, x_vCall, x_vBlt, x_vBlt2, x_vPop, x_vPopAt, x_fYes, x_vFz, x_vNo, x_tOf, x_tAnd, x_tOr, x_tNot, x_iOf, x_iNo, x_iRng1, x_iRng2, x_iRng3, x_iEnum, x_iZip, x_iRevd, x_aNil, x_aCons, x_dNil, x_dCons, x_sAsg, x_sAsgT, x_sPar, x_sSet, x_sAug, x_sAugS, x_sApp, x_sExt, x_sEx, x_sIte, x_sRet, x_sRetN, x_sBrk, x_sCont, x_sPass, x_sNo, x_sSeq, argsOf, argOf, locs, backs, nd0, nd1, store, put, frz, tgt, tgts, isOw, z_add, z_sub, z_xor, z_eq, z_ne, z_lt, z_le, z_gt, z_ge, z_dd, z_do, z_dl, z_tb, z_lenL, z_lenT, z_int, z_intB, z_abs, z_max, z_min, z_tupL, z_tupT, z_lstL, z_lstT, z_scr, ix0, ix1, ix2, ix3, ix4, ixn1, ixn2, ixn3, ixn4, decide_true, decide_false, if_true, if_false, Bool.false_eq_true, Bool.and_true, Bool.true_and, Bool.not_true, Bool.not_false, x_turnC, wipeE, back, x_sForB, x_forB, hm]
    | _ => rw [forL]; simp only [List.getElem?_cons_zero, List.getElem?_cons_succ, List.set_cons_zero, List.set_cons_succ, List.replicate_succ, List.replicate_zero, List.cons_append, List.nil_append, x_vCst, x_vNm, x_vBin, x_vNeg, x_vBits, x_vCmp, x_vCmp2, x_vAnd, x_vOr, x_vNot, x_vIte, x_vTup, x_vLst, x_vIx, x_vSlF, x_vSlT, x_vSl, x_vRev, x_vCall, x_vBlt, x_vBlt2, x_vPop, x_vPopAt, x_fYes, x_vFz, x_vNo, x_tOf, x_tAnd, x_tOr, x_tNot, x_iOf, x_iNo, x_iRng1, x_iRng2, x_iRng3, x_iEnum, x_iZip, x_iRevd, x_aNil, x_aCons, x_dNil, x_dCons, x_sAsg, x_sAsgT, x_sPar, x_sSet, x_sAug, x_sAugS, x_sApp, x_sExt, x_sEx, x_sIte, x_sRet, x_sRetN, x_sBrk, x_sCont, x_sPass, x_sNo, x_sSeq, argsOf, argOf, locs, backs, nd0, nd1, store, put, frz, tgt, tgts, isOw, z_add, z_sub, z_xor, z_eq, z_ne, z_lt, z_le, z_gt, z_ge, z_dd, z_do, z_dl, z_tb, z_lenL, z_lenT, z_int, z_intB, z_abs, z_max, z_min, z_tupL, z_tupT, z_lstL, z_lstT, z_scr, ix0, ix1, ix2, ix3, ix4, ixn1, ixn2, ixn3, ixn4, decide_true, decide_false, if_true, if_false, Bool.false_eq_true, Bool.and_true, Bool.true_and, Bool.not_true, Bool.not_false, x_turnC, wipeE, back, x_sForB, x_forB, hm]
theorem power_ok (k : Nat) {b : Int} (hb : b.natAbs < 1024) {m : Nat} (hm : m ≤ 20000) : ∃ ec, run G.M G.P (k + 1) 1 [.fz (.int b), .fz (.int m)] = some (.d (.int (b ^ m)), .fz (.int b) :: .fz (.int m) :: ec) := by
  obtain ⟨s, h2⟩ := pow_loop hb (.int m) (rngL 0 1 0 m) 0 .un (fun _ z => (nomatch z)) (by rw [rng_len]; omega)
  rw [Int.pow_zero, rng_len, Nat.zero_add] at h2
  refine ⟨[.fz (.int (b ^ m)), s], ?_⟩
  show runD (run G.M G.P k) G.M ⟨"_law_power", 2, 4, b__law_power⟩ [.fz (.int b), .fz (.int m)] = _
  refine runD_d [.fz (.int b), .fz (.int m), .un, .un] rfl rfl ?_
  show evB _ _ b__law_power _ = _
  simp only [b__law_power, evB, evS, ev, evs, mkV, mkI]
  have hr : rngOk (m : Int) = true := by
    unfold rngOk
    rw [decide_eq_true_eq]
    omega
  have he : (m : Int).toNat = m := Int.toNat_natCast m
  have hit : iRng1 (vNm 1) [.fz (.int b), .fz (.int m), .fz (.int 1), .un] = some (rngL 0 1 0 m, [.fz (.int b), .fz (.int m), .fz (.int 1), .un]) := by
    show (if rngOk (m : Int) then some (rngL 0 1 0 (m : Int).toNat, _) else none) = _
    rw [if_pos hr, he]
  generalize rngL 0 1 0 m = rr at h2 hit
  simp only [List.getElem?_cons_zero, List.getElem?_cons_succ, List.set_cons_zero, List.set_cons_succ, List.replicate_succ, List.replicate_zero, List.cons_append, List.nil_append, x_vCst, x_vNm, x_vBin, x_vNeg, x_vBits, x_vCmp, x_vCmp2, x_vAnd, x_vOr, x_vNot, x_vIte, x_vTup, x_vLst, x_vIx, x_vSlF, x_vSlT, x_vSl, x_vRev, x_vCall, x_vBlt, x_vBlt2, x_vPop, x_vPopAt, x_fYes, x_vFz, x_vNo, x_tOf, x_tAnd, x_tOr, x_tNot, x_iOf, x_iNo, x_iRng2, x_iRng3, x_iEnum, x_iZip, x_iRevd, x_aNil, x_aCons, x_dNil, x_dCons, x_sAsg, x_sAsgT, x_sPar, x_sSet, x_sAug, x_sAugS, x_sApp, x_sExt, x_sEx, x_sIte, x_sRet, x_sRetN, x_sBrk, x_sCont, x_sPass, x_sNo, x_sSeq, argsOf, argOf, locs, backs, nd0, nd1, store, put, frz, tgt, tgts, isOw, z_add, z_sub, z_xor, z_eq, z_ne, z_lt, z_le, z_gt, z_ge, z_dd, z_do, z_dl, z_tb, z_lenL, z_lenT, z_int, z_intB, z_abs, z_max, z_min, z_tupL, z_tupT, z_lstL, z_lstT, z_scr, ix0, ix1, ix2, ix3, ix4, ixn1, ixn2, ixn3, ixn4, decide_true, decide_false, if_true, if_false, Bool.false_eq_true, Bool.and_true, Bool.true_and, Bool.not_true, Bool.not_false, x_turnC, wipeE, back, x_sForB, x_forB, hit, h2]
/-! ### steps -/
def fS : Nat → Int → Int := fun i n => n.fmod ((i : Int) + 2)
def gS : Nat → Int → Int := fun i n => n.fdiv ((i : Int) + 2)
theorem ex_steps (N i : Nat) (n : Int) (hn : 0 ≤ n) (hN : n.natAbs ≤ 2 ^ N) : ∃ ds, Dg fS gS i n ds ∧ ds.length ≤ N + 2 := by
  refine ex_dg (fun n => 0 ≤ n) (fun i n ok hz => ?_) (fun i ok => ?_) (fun i ok => absurd ok (by decide)) N i n hn hN
  · obtain ⟨r, e, r1, r2, _⟩ := fdiv_bound (s := (i : Int) + 2) (by omega) n
    obtain ⟨t1, t2, _, _⟩ := two_q (by omega) e r1 r2
    exact ⟨t2 ok, t1⟩
  · obtain ⟨r, e, r1, r2, _⟩ := fdiv_bound (s := (i : Int) + 2) (by omega) 1
    exact (two_q (by omega) e r1 r2).2.2.1 rfl
theorem steps_range {i : Nat} {n : Int} {ds : List Int} (k : Dg fS gS i n ds) : ∀ (j : Nat) (d : Int), ds[j]? = some d → 0 ≤ d ∧ d ≤ (i : Int) + j + 1 := by
  induction k with
  | nil => exact fun j d h => by simp at h
  | cons z _ ih =>
    rename_i i n ds _
    intro j d h
    obtain ⟨r, _, r1, r2, e2⟩ := fdiv_bound (s := (i : Int) + 2) (by omega) n
    cases j with
    | zero =>
      simp at h
      subst h
      have e3 : fS i n = r := e2
      rw [e3]
      omega
    | succ j =>
      have := ih j d (by simpa using h)
      omega
def stR (n : Int) (acc : List Int) (e : En) : Prop := 0 ≤ n ∧ ∃ s, (∀ xs, s ≠ Sv.ow true xs) ∧ e = [.fz (.int n), .ow false (il acc), s]
theorem steps_ok (k : Nat) {n : Int} {ds : List Int} (hn : 0 ≤ n) (hd : Dg fS gS 0 n ds) (hl : ds.length < 900) :
    ∃ ec, run G.M G.P (k + 1) 4 [.fz (.int n)] = some (.d (.tuple (il ds)), .fz (.int 0) :: ec) := by
  have hw := whl_dg (L := 900) (f := fS) (g := gS) (R := stR) (c := tOf (vCmp Cop.gt (vNm 0) (vCst (PyData.int 0))))
    (b := sSeq (sAsg 2 (vBin Bop.add (vBlt Blt.len (vNm 1)) (vCst (PyData.int 2)))) (sSeq (sApp 1 (vBin Bop.mod (vNm 0) (vNm 2))) (sSeq (sAsg 0 (vBin Bop.fdiv (vNm 0) (vNm 2))) sPass)))
    (fun n acc e r => by
      obtain ⟨hn, s, hs, rfl⟩ := r
      have e1 : decide (n ≠ 0) = decide (0 < n) := by
        by_cases z : n = 0
        · subst z; rfl
        · rw [decide_eq_true z, decide_eq_true (by omega)]
      simp only [List.getElem?_cons_zero, List.getElem?_cons_succ, List.set_cons_zero, List.set_cons_succ, List.replicate_succ, List.replicate_zero, List.cons_append, List.nil_append, x_vCst, x_vNm, x_vBin, x_vNeg, x_vBits, x_vCmp, x_vCmp2, x_vAnd, x_vOr, x_vNot, x_vIte, x_vTup, x_vLst, x_vIx, x_vSlF, x_vSlT, x_vSl, x_vRev, x_vCall, x_vBlt, x_vBlt2, x_vPop, x_vPopAt, x_fYes, x_vFz, x_vNo, x_tOf, x_tAnd, x_tOr, x_tNot, x_iOf, x_iNo, x_iRng1, x_iRng2, x_iRng3, x_iEnum, x_iZip, x_iRevd, x_aNil, x_aCons, x_dNil, x_dCons, x_sAsg, x_sAsgT, x_sPar, x_sSet, x_sAug, x_sAugS, x_sApp, x_sExt, x_sEx, x_sIte, x_sRet, x_sRetN, x_sBrk, x_sCont, x_sPass, x_sNo, x_sSeq, argsOf, argOf, locs, backs, nd0, nd1, store, put, frz, tgt, tgts, isOw, z_add, z_sub, z_xor, z_eq, z_ne, z_lt, z_le, z_gt, z_ge, z_dd, z_do, z_dl, z_tb, z_lenL, z_lenT, z_int, z_intB, z_abs, z_max, z_min, z_tupL, z_tupT, z_lstL, z_lstT, z_scr, ix0, ix1, ix2, ix3, ix4, ixn1, ixn2, ixn3, ixn4, decide_true, decide_false, if_true, if_false, Bool.false_eq_true, Bool.and_true, Bool.true_and, Bool.not_true, Bool.not_false, x_turnC, wipeE, back, x_sForB, x_forB, e1])
    (fun n acc e r hz hac => by
      obtain ⟨hn, s, hs, rfl⟩ := r
      have h2 : ((acc.length : Int) + 2) ≠ 0 := by omega
      have zm : bop .mod (.int n) (.int ((acc.length : Int) + 2)) = some (.d (.int (n.fmod ((acc.length : Int) + 2)))) := z_mod h2
      have zd : bop .fdiv (.int n) (.int ((acc.length : Int) + 2)) = some (.d (.int (n.fdiv ((acc.length : Int) + 2)))) := z_fdiv (div_ok h2 (by omega))
      have hlen : acc.length < lim := by unfold lim; omega
      obtain ⟨r, e, r1, r2, _⟩ := fdiv_bound (s := (acc.length : Int) + 2) (by omega) n
      refine ⟨_, ?_, (two_q (by omega) e r1 r2).2.1 hn, .fz (.int ((acc.length : Int) + 2)), fun _ z => (nomatch z), rfl⟩
      cases s with
      | ow p xs => cases p with
        | true => exact absurd rfl (hs xs)
        | false =>
          simp only [List.getElem?_cons_zero, List.getElem?_cons_succ, List.set_cons_zero, List.set_cons_succ, List.replicate_succ, List.replicate_zero, List.cons_append, List.nil_append, x_vCst, x_vNm, x_vBin, x_vNeg, x_vBits, x_vCmp, x_vCmp2, x_vAnd, x_vOr, x_vNot, x_vIte, x_vTup, x_vLst, x_vIx, x_vSlF, x_vSlT, x_vSl, x_vRev, x_vCall, x_vBlt, x_vBlt2, x_vPop, x_vPopAt, x_fYes, x_vFz, x_vNo, x_tOf, x_tAnd, x_tOr, x_tNot, x_iOf, x_iNo, x_iRng1, x_iRng2, x_iRng3, x_iEnum, x_iZip, x_iRevd, x_aNil, x_aCons, x_dNil, x_dCons, x_sAsg, x_sAsgT, x_sPar, x_sSet, x_sAug, x_sAugS, x_sApp, x_sExt, x_sEx, x_sIte, x_sRet, x_sRetN, x_sBrk, x_sCont, x_sPass, x_sNo, x_sSeq, argsOf, argOf, locs, backs, nd0, nd1, store, put, frz, tgt, tgts, isOw, z_add, z_sub, z_xor, z_eq, z_ne, z_lt, z_le, z_gt, z_ge, z_dd, z_do, z_dl, z_tb, z_lenL, z_lenT, z_int, z_intB, z_abs, z_max, z_min, z_tupL, z_tupT, z_lstL, z_lstT, z_scr, ix0, ix1, ix2, ix3, ix4, ixn1, ixn2, ixn3, ixn4, decide_true, decide_false, if_true, if_false, Bool.false_eq_true, Bool.and_true, Bool.true_and, Bool.not_true, Bool.not_false, x_turnC, wipeE, back, x_sForB, x_forB, zm, zd, hlen, il, List.length_map, List.map_append, List.map_cons, List.map_nil]
          rfl
      | _ =>
        simp only [List.getElem?_cons_zero, List.getElem?_cons_succ, List.set_cons_zero, List.set_cons_succ, List.replicate_succ, List.replicate_zero, List.cons_append, List.nil_append, x_vCst, x_vNm, x_vBin, x_vNeg, x_vBits, x_vCmp, x_vCmp2, x_vAnd, x_vOr, x_vNot, x_vIte, x_vTup, x_vLst, x_vIx, x_vSlF, x_vSlT, x_vSl, x_vRev, x_vCall, x_vBlt, x_vBlt2, x_vPop, x_vPopAt, x_fYes, x_vFz, x_vNo, x_tOf, x_tAnd, x_tOr, x_tNot, x_iOf, x_iNo, x_iRng1, x_iRng2, x_iRng3, x_iEnum, x_iZip, x_iRevd, x_aNil, x_aCons, x_dNil, x_dCons, x_sAsg, x_sAsgT, x_sPar, x_sSet, x_sAug, x_sAugS, x_sApp, x_sExt, x_sEx, x_sIte, x_sRet, x_sRetN, x_sBrk, x_sCont, x_sPass, x_sNo, x_sSeq, argsOf, argOf, locs, backs, nd0, nd1, store, put, frz, tgt, tgts, isOw, z_add, z_sub, z_xor, z_eq, z_ne, z_lt, z_le, z_gt, z_ge, z_dd, z_do, z_dl, z_tb, z_lenL, z_lenT, z_int, z_intB, z_abs, z_max, z_min, z_tupL, z_tupT, z_lstL, z_lstT, z_scr, ix0, ix1, ix2, ix3, ix4, ixn1, ixn2, ixn3, ixn4, decide_true, decide_false, if_true, if_false, Bool.false_eq_true, Bool.and_true, Bool.true_and, Bool.not_true, Bool.not_false, x_turnC, wipeE, back, x_sForB, x_forB, zm, zd, hlen, il, List.length_map, List.map_append, List.map_cons, List.map_nil]
        rfl)
    ds n [] [.fz (.int n), .ow false [], .un] G.M hd (by show _ < 1000000; omega) (by rw [List.length_nil]; omega) ⟨hn, .un, fun _ z => (nomatch z), rfl⟩
  obtain ⟨e', hw1, _, s, hs, rfl⟩ := hw
  refine ⟨[.ow false (il ds), s], ?_⟩
  show runD (run G.M G.P k) G.M ⟨"steps_of", 1, 3, b_steps_of⟩ _ = _
  refine runD_d [.fz (.int n), .un, .un] rfl rfl ?_
  show evB _ _ b_steps_of _ = _
  simp only [b_steps_of, evB, evS, ev, evs, mkV, mkI]
  have hsm : small ([] : List Dt) = true := rfl
  have h0 : ¬ n < 0 := by omega
  simp only [List.getElem?_cons_zero, List.getElem?_cons_succ, List.set_cons_zero, List.set_cons_succ, List.replicate_succ, List.replicate_zero, List.cons_append, List.nil_append, x_vCst, x_vNm, x_vBin, x_vNeg, x_vBits, x_vCmp, x_vCmp2, x_vAnd, x_vOr, x_vNot, x_vIte, x_vTup, x_vLst, x_vIx, x_vSlF, x_vSlT, x_vSl, x_vRev, x_vCall, x_vBlt, x_vBlt2, x_vPop, x_vPopAt, x_fYes, x_vFz, x_vNo, x_tOf, x_tAnd, x_tOr, x_tNot, x_iOf, x_iNo, x_iRng1, x_iRng2, x_iRng3, x_iEnum, x_iZip, x_iRevd, x_aNil, x_aCons, x_dNil, x_dCons, x_sAsg, x_sAsgT, x_sPar, x_sSet, x_sAug, x_sAugS, x_sApp, x_sExt, x_sEx, x_sIte, x_sRet, x_sRetN, x_sBrk, x_sCont, x_sPass, x_sNo, x_sSeq, argsOf, argOf, locs, backs, nd0, nd1, store, put, frz, tgt, tgts, isOw, z_add, z_sub, z_xor, z_eq, z_ne, z_lt, z_le, z_gt, z_ge, z_dd, z_do, z_dl, z_tb, z_lenL, z_lenT, z_int, z_intB, z_abs, z_max, z_min, z_tupL, z_tupT, z_lstL, z_lstT, z_scr, ix0, ix1, ix2, ix3, ix4, ixn1, ixn2, ixn3, ixn4, decide_true, decide_false, if_true, if_false, Bool.false_eq_true, Bool.and_true, Bool.true_and, Bool.not_true, Bool.not_false, x_turnC, wipeE, back, x_sForB, x_forB, hw1, hsm, h0]
end Lawk83
end

section
set_option maxHeartbeats 4000000
set_option exponentiation.threshold 500000
namespace Lawk83
open PySem De

/-! ### exclusive or -/
theorem or_eq : ∀ (n a b : Nat), a ≤ n → a ||| b = (a ^^^ b) + (a &&& b)
  | 0, a, b, h => by
    have : a = 0 := by omega
    subst this
    simp
  | n + 1, a, b, h => by
    by_cases z : a = 0
    · subst z
      simp
    · have ih := or_eq n (a / 2) (b / 2) (by omega)
      have e1 : (a ||| b) / 2 = a / 2 ||| b / 2 := Nat.or_div_two
      have e2 : (a ^^^ b) / 2 = a / 2 ^^^ b / 2 := Nat.xor_div_two
      have e3 : (a &&& b) / 2 = a / 2 &&& b / 2 := Nat.and_div_two
      have m1 : (a ||| b) % 2 = 1 ↔ a % 2 = 1 ∨ b % 2 = 1 := Nat.or_mod_two_eq_one
      have m2 : (a ^^^ b) % 2 = 1 ↔ ¬(a % 2 = 1 ↔ b % 2 = 1) := Nat.xor_mod_two_eq_one
      have m3 : (a &&& b) % 2 = 1 ↔ a % 2 = 1 ∧ b % 2 = 1 := Nat.and_mod_two_eq_one
      rw [← e1, ← e2, ← e3] at ih
      by_cases c1 : a % 2 = 1
      · by_cases c2 : b % 2 = 1
        · have k1 := m1.mpr (.inl c1)
          have k2 : ¬ (a ^^^ b) % 2 = 1 := fun w => m2.mp w (by simp [c1, c2])
          have k3 := m3.mpr ⟨c1, c2⟩
          omega
        · have k1 := m1.mpr (.inl c1)
          have k2 := m2.mpr (by simp [c1, c2])
          have k3 : ¬ (a &&& b) % 2 = 1 := fun w => c2 (m3.mp w).2
          omega
      · by_cases c2 : b % 2 = 1
        · have k1 := m1.mpr (.inr c2)
          have k2 := m2.mpr (by simp [c1, c2])
          have k3 : ¬ (a &&& b) % 2 = 1 := fun w => c1 (m3.mp w).1
          omega
        · have k1 : ¬ (a ||| b) % 2 = 1 := fun w => (m1.mp w).elim c1 c2
          have k2 : ¬ (a ^^^ b) % 2 = 1 := fun w => m2.mp w (by simp [c1, c2])
          have k3 : ¬ (a &&& b) % 2 = 1 := fun w => c1 (m3.mp w).1
          omega
theorem xor_nat (a b : Nat) : Builtin.bitXor (a : Int) (b : Int) = ((a ^^^ b : Nat) : Int) := by
  have h := or_eq a a b (Nat.le_refl _)
  have ha : ¬ (0 : Int) ≤ Builtin.bitNot a := by unfold Builtin.bitNot; omega
  have hb : ¬ (0 : Int) ≤ Builtin.bitNot b := by unfold Builtin.bitNot; omega
  have e1 : Builtin.bitAnd (a : Int) (b : Int) = ((a &&& b : Nat) : Int) := by
    unfold Builtin.bitAnd
    rw [decide_eq_true (show (0 : Int) ≤ a by omega), decide_eq_true (show (0 : Int) ≤ b by omega)]
    simp
  have e2 : Builtin.bitOr (a : Int) (b : Int) = ((a ||| b : Nat) : Int) := by
    unfold Builtin.bitOr Builtin.bitAnd
    rw [decide_eq_false ha, decide_eq_false hb]
    simp only [Builtin.bitNot]
    have n1 : (-(-(a : Int) - 1) - 1).toNat = a := by omega
    have n2 : (-(-(b : Int) - 1) - 1).toNat = b := by omega
    rw [n1, n2]
    omega
  unfold Builtin.bitXor
  rw [e1, e2]
  omega
/-! ### gray -/
/-- n ^ n // 2 -/
def gx (n : Nat) : Nat := n ^^^ (n / 2)
theorem gx_half (n : Nat) : gx n / 2 = gx (n / 2) := Nat.xor_div_two
theorem gx_mod (n : Nat) : gx n % 2 = (n % 2 + (n / 2) % 2) % 2 := by
  have m2 : (n ^^^ (n / 2)) % 2 = 1 ↔ ¬(n % 2 = 1 ↔ (n / 2) % 2 = 1) := Nat.xor_mod_two_eq_one
  unfold gx
  by_cases c1 : n % 2 = 1
  · by_cases c2 : (n / 2) % 2 = 1
    · have k2 : ¬ (n ^^^ (n / 2)) % 2 = 1 := fun w => m2.mp w (by simp [c1, c2])
      omega
    · have k2 := m2.mpr (by simp [c1, c2])
      omega
  · by_cases c2 : (n / 2) % 2 = 1
    · have k2 := m2.mpr (by simp [c1, c2])
      omega
    · have k2 : ¬ (n ^^^ (n / 2)) % 2 = 1 := fun w => m2.mp w (by simp [c1, c2])
      omega
theorem gx_zero : ∀ (m n : Nat), n ≤ m → n ≠ 0 → gx n ≠ 0
  | 0, n, h, hz => absurd (by omega) hz
  | m + 1, n, h, hz => fun w => by
    have e1 := gx_half n
    have e2 := gx_mod n
    rw [w] at e1 e2
    by_cases c : n / 2 = 0
    · have : n = 1 := by omega
      subst this
      exact absurd w (by decide)
    · exact gx_zero m (n / 2) (by omega) c (by omega)
abbrev D2 (n : Nat) (ds : List Int) : Prop := Dg (fF 2) (gF 2 2) 0 (n : Int) ds
theorem f2 (i n : Nat) : fF 2 i (n : Int) = ((n % 2 : Nat) : Int) := by
  show ((n : Int)).fmod 2 = _
  rw [Int.fmod_eq_emod_of_nonneg _ (by decide)]
  omega
theorem g2 (i n : Nat) : gF 2 2 i (n : Int) = ((n / 2 : Nat) : Int) := by
  rw [show gF 2 2 i (n : Int) = (n : Int).fdiv 2 from gF_pos (by decide) _, Int.fdiv_eq_ediv_of_nonneg _ (by decide)]
  omega
/-- the figures of 2 by naturals -/
theorem D2.cases {n : Nat} {ds : List Int} (h : D2 n ds) : (n = 0 ∧ ds = []) ∨ (n ≠ 0 ∧ ∃ es, ds = ((n % 2 : Nat) : Int) :: es ∧ D2 (n / 2) es) := by
  have key : ∀ {i : Nat} {z : Int} {ds : List Int}, Dg (fF 2) (gF 2 2) i z ds → ∀ n : Nat, z = n → (n = 0 ∧ ds = []) ∨ (n ≠ 0 ∧ ∃ es, ds = ((n % 2 : Nat) : Int) :: es ∧ D2 (n / 2) es) := fun {i z ds} h n e => by
    cases h with
    | nil => exact .inl ⟨by omega, rfl⟩
    | cons hz h =>
      subst e
      refine .inr ⟨by omega, _, by rw [f2], ?_⟩
      rw [g2] at h
      exact Dg.shift h
  exact key h n rfl
theorem D2.cons {n : Nat} {es : List Int} (hn : n ≠ 0) (h : D2 (n / 2) es) : D2 n (((n % 2 : Nat) : Int) :: es) := by
  have := Dg.cons (f := fF 2) (g := gF 2 2) (i := 0) (n := (n : Int)) (by omega) (by rw [g2]; exact Dg.shift h)
  rw [f2] at this
  exact this
theorem D2.zero : D2 0 [] := .nil
def gr : List Int → List Int
  | [] => []
  | d :: ds => (d + ds.headD 0).fmod 2 :: gr ds
theorem D2.head {n : Nat} {ds : List Int} (h : D2 n ds) : ds.headD 0 = ((n % 2 : Nat) : Int) := by
  rcases h.cases with ⟨rfl, rfl⟩ | ⟨_, es, rfl, _⟩
  · rfl
  · rfl
theorem D2.gray : ∀ (ds : List Int) (n : Nat), D2 n ds → D2 (gx n) (gr ds)
  | [], n, h => by
    rcases h.cases with ⟨rfl, _⟩ | ⟨_, es, z, _⟩
    · exact .nil
    · cases z
  | d :: ds, n, h => by
    rcases h.cases with ⟨_, z⟩ | ⟨hn, es, z, h2⟩
    · cases z
    · cases z
      have ih := D2.gray ds (n / 2) h2
      have := D2.cons (n := gx n) (gx_zero n n (Nat.le_refl _) hn) (by rw [gx_half]; exact ih)
      have e : ((gx n % 2 : Nat) : Int) = (((n % 2 : Nat) : Int) + ds.headD 0).fmod 2 := by
        rw [h2.head, gx_mod, Int.fmod_eq_emod_of_nonneg _ (by decide)]
        omega
      rw [e] at this
      exact this
theorem D2.bits : ∀ {ds : List Int} {n : Nat}, D2 n ds → ∀ d ∈ ds, d = 0 ∨ d = 1
  | [], _, _, d, h => by cases h
  | d :: ds, n, h, x, hx => by
    rcases h.cases with ⟨_, z⟩ | ⟨hn, es, z, h2⟩
    · cases z
    · cases z
      rcases List.mem_cons.mp hx with e | hx
      · omega
      · exact D2.bits h2 x hx
theorem gr_len : ∀ ds : List Int, (gr ds).length = ds.length
  | [] => rfl
  | d :: ds => congrArg Nat.succ (gr_len ds)
theorem gr_get : ∀ (ds : List Int) (k : Nat), k < ds.length → (gr ds)[k]? = some ((ds.getD k 0 + ds.getD (k + 1) 0).fmod 2)
  | [], _, h => absurd h (Nat.not_lt_zero _)
  | d :: ds, 0, _ => by
    show some ((d + ds.headD 0).fmod 2) = some ((d + ds.getD 0 0).fmod 2)
    cases ds <;> rfl
  | d :: ds, k + 1, h => by
    show (gr ds)[k]? = _
    rw [gr_get ds k (Nat.lt_of_succ_lt_succ h)]
    rfl
/-- figures and bits -/
theorem D2.get : ∀ (k : Nat) {ds : List Int} {n : Nat}, D2 n ds → ds.getD k 0 = ((n / 2 ^ k % 2 : Nat) : Int)
  | 0, ds, n, h => by
    rw [Nat.pow_zero, Nat.div_one, ← h.head]
    cases ds <;> rfl
  | k + 1, ds, n, h => by
    rcases h.cases with ⟨rfl, rfl⟩ | ⟨_, es, rfl, h2⟩
    · simp
    · show es.getD k 0 = _
      rw [D2.get k h2, Nat.pow_succ, Nat.mul_comm, Nat.div_div_eq_div_mul]
theorem D2.len : ∀ {ds : List Int} {n : Nat}, D2 n ds → n < 2 ^ ds.length ∧ (ds ≠ [] → 2 ^ (ds.length - 1) ≤ n)
  | [], n, h => by
    rcases h.cases with ⟨rfl, _⟩ | ⟨_, es, z, _⟩
    · exact ⟨by decide, fun z => absurd rfl z⟩
    · cases z
  | d :: ds, n, h => by
    rcases h.cases with ⟨_, z⟩ | ⟨hn, es, z, h2⟩
    · cases z
    · cases z
      obtain ⟨k1, k2⟩ := D2.len h2
      refine ⟨?_, fun _ => ?_⟩
      · rw [List.length_cons, Nat.pow_succ]
        omega
      · rw [List.length_cons, Nat.add_sub_cancel]
        cases ds with
        | nil => show 1 ≤ n; omega
        | cons x xs =>
          have := k2 (List.cons_ne_nil _ _)
          simp only [List.length_cons, Nat.add_sub_cancel] at this ⊢
          rw [Nat.pow_succ]
          omega
theorem ex_D2 (N n : Nat) (h : n ≤ 2 ^ N) : ∃ ds, D2 n ds ∧ ds.length ≤ N + 2 := ex_fig (s := 2) (b := 2) (by decide) (.inl rfl) N n (fun _ => by omega) (by simpa using h)
theorem D2.val {n : Nat} {ds : List Int} (h : D2 n ds) : val 2 ds = n := fig_val (by decide) (.inl rfl) h
theorem fig2_ok (k : Nat) {n : Nat} {ds : List Int} (h : D2 n ds) (hl : ds.length < 900000) : run G.M G.P (k + 2) 7 [.fz (.int n), .fz (.int 2)] = some (.d (.tuple (il ds)), [.fz (.int 0), .fz (.int 2), .fz (.int 2), .ow false (il ds)]) :=
  fig_ok k (by decide) (by decide) (.inl rfl) (fun _ => by omega) h hl
theorem gray_ok (k : Nat) {n : Nat} {ds : List Int} (h : D2 n ds) (hl : ds.length < 900000) : run G.M G.P (k + 3) 10 [.fz (.int n)] = some (.d (.tuple (il (gr ds))), [.fz (.int n)]) := by
  have hf := fig2_ok k (D2.gray ds n h) (by rw [gr_len]; exact hl)
  show runD (run G.M G.P (k + 2)) G.M ⟨"gray", 1, 1, b_gray⟩ [.fz (.int n)] = _
  refine runD_d [.fz (.int n)] rfl rfl ?_
  show evB _ _ b_gray _ = _
  simp only [b_gray, evB, evS, ev, evs, mkV, mkI]
  have h0 : ¬ (n : Int) < 0 := by omega
  have zd : bop .fdiv (.int (n : Int)) (.int 2) = some (.d (.int ((n : Int).fdiv 2))) := z_fdiv (div_ok (by decide) (by decide))
  have e1 : (n : Int).fdiv 2 = ((n / 2 : Nat) : Int) := by
    rw [Int.fdiv_eq_ediv_of_nonneg _ (by decide)]
    omega
  have e2 : Builtin.bitXor (n : Int) ((n / 2 : Nat) : Int) = ((gx n : Nat) : Int) := xor_nat n (n / 2)
  simp only [List.getElem?_cons_zero, List.getElem?_cons_succ, List.set_cons_zero, List.set_cons_succ, List.replicate_succ, List.replicate_zero, List.cons_append, List.nil_append, x_vCst, x_vNm, x_vBin, x_vNeg, x_vBits, x_vCmp, x_vCmp2, x_vAnd, x_vOr, x_vNot, x_vIte, x_vTup, x_vLst, x_vIx, x_vSlF, x_vSlT, x_vSl, x_vRev, x_vCall, x_vBlt, x_vBlt2, x_vPop, x_vPopAt, x_fYes, x_vFz, x_vNo, x_tOf, x_tAnd, x_tOr, x_tNot, x_iOf, x_iNo, x_iRng1, x_iRng2, x_iRng3, x_iEnum, x_iZip, x_iRevd, x_aNil, x_aCons, x_dNil, x_dCons, x_sAsg, x_sAsgT, x_sPar, x_sSet, x_sAug, x_sAugS, x_sApp, x_sExt, x_sEx, x_sIte, x_sRet, x_sRetN, x_sBrk, x_sCont, x_sPass, x_sNo, x_sSeq, argsOf, argOf, locs, backs, nd0, nd1, store, put, frz, tgt, tgts, isOw, z_add, z_sub, z_xor, z_eq, z_ne, z_lt, z_le, z_gt, z_ge, z_dd, z_do, z_dl, z_tb, z_lenL, z_lenT, z_int, z_intB, z_abs, z_max, z_min, z_tupL, z_tupT, z_lstL, z_lstT, z_scr, ix0, ix1, ix2, ix3, ix4, ixn1, ixn2, ixn3, ixn4, decide_true, decide_false, if_true, if_false, Bool.false_eq_true, Bool.and_true, Bool.true_and, Bool.not_true, Bool.not_false, x_turnC, wipeE, back, x_sForB, x_forB, h0, zd, e1, e2, hf]
/-- items of a row with noughts behind it -/
theorem pad_get {ds : List Int} {m k : Nat} (h : k < ds.length + m) : (il ds ++ List.replicate m (PyData.int 0))[k]? = some (.int (ds.getD k 0)) := by
  by_cases c : k < ds.length
  · rw [List.getElem?_append_left (by rw [List.length_map]; exact c), List.getElem?_map, List.getElem?_eq_getElem c, List.getD_eq_getElem?_getD, List.getElem?_eq_getElem c]
    rfl
  · rw [List.getElem?_append_right (by rw [List.length_map]; omega), List.getElem?_replicate, if_pos (by rw [List.length_map]; omega), List.getD_eq_getElem?_getD, List.getElem?_eq_none (by omega)]
    rfl
theorem pad_ix {ds : List Int} {m k : Nat} (h : k < ds.length + m) : ixD (il ds ++ List.replicate m (PyData.int 0)) (k : Int) = some (.int (ds.getD k 0)) := by
  rw [ixNat (by omega) (by rw [List.length_append, List.length_map, List.length_replicate]; omega), Int.toNat_natCast, pad_get h]
theorem rep_zero (m : Nat) : rep m [PyData.int 0] = List.replicate m (.int 0) := by
  unfold rep
  induction m with
  | zero => rfl
  | succ m ih => rw [List.replicate_succ, List.flatten_cons, ih, List.replicate_succ]; rfl
theorem compL_rng {f : Dt → En → Option (List Dt × En)} {e0 : En} {ψ : Nat → Dt} : ∀ (n i : Nat), (∀ j, i ≤ j → j < i + n → f (.int (j : Int)) e0 = some ([ψ j], e0)) → compL f (rngL 0 1 i n) e0 = some ((List.range' i n).map ψ, e0)
  | 0, _, _ => rfl
  | n + 1, i, h => by
    have e : rngL 0 1 i (n + 1) = .int (i : Int) :: rngL 0 1 (i + 1) n := by
      show PyData.int (0 + (i : Int) * 1) :: _ = _
      rw [Int.mul_one, Int.zero_add]
    rw [e, compL, h i (Nat.le_refl _) (by omega)]
    show (match compL f (rngL 0 1 (i + 1) n) e0 with
      | some (zs, e2) => some ([ψ i] ++ zs, e2)
      | none => none) = _
    rw [compL_rng n (i + 1) fun j h1 h2 => h j (by omega) (by omega), List.range'_succ, List.map_cons]
    rfl
theorem rng_ok {n : Nat} (h : n < 1000000) : rngOk (n : Int) = true := by
  unfold rngOk
  rw [decide_eq_true_eq]
  omega
theorem excl_ok (k : Nat) {n : Nat} {ds : List Int} (h : D2 n ds) (hl : ds.length < 900000) : ∃ ec, run G.M G.P (k + 3) 11 [.fz (.int n)] = some (.d (.tuple (il (gr ds))), .fz (.int n) :: ec) := by
  have hf := fig2_ok k h hl
  refine ⟨[.fz (.tuple (il ds)), .fz (.tuple (il ds ++ [.int 0])), .un], ?_⟩
  show runD (run G.M G.P (k + 2)) G.M ⟨"_law_exclusive", 1, 4, b__law_exclusive⟩ [.fz (.int n)] = _
  refine runD_d [.fz (.int n), .un, .un, .un] rfl rfl ?_
  show evB _ _ b__law_exclusive _ = _
  simp only [b__law_exclusive, evB, evS, ev, evs, mkV, mkI]
  have hcat : bop .add (.tuple (il ds)) (.tuple [.int 0]) = some (.d (.tuple (il ds ++ [.int 0]))) := z_catT (by rw [List.length_map]; simp; omega)
  have hs1 : small [PyData.int 0] = true := rfl
  have zm : ∀ a, bop .mod (.int a) (.int 2) = some (.d (.int (a.fmod 2))) := fun a => z_mod (by decide)
  have hcl := compL_rng (f := turnC (vBin Bop.mod (vBlt Blt.int (vBin Bop.add (vIx (vNm 2) (vNm 3)) (vIx (vNm 2) (vBin Bop.add (vNm 3) (vCst (PyData.int 1)))))) (vCst (PyData.int 2))) [3] (.nm 3) fYes)
    (e0 := [.fz (.int n), .fz (.tuple (il ds)), .fz (.tuple (il ds ++ [.int 0])), .un]) (ψ := fun j => .int ((ds.getD j 0 + ds.getD (j + 1) 0).fmod 2)) ds.length 0 (fun j h1 h2 => by
      have i1 : ixD (il ds ++ [.int 0]) (j : Int) = some (.int (ds.getD j 0)) := pad_ix (m := 1) (by omega)
      have i2 : ixD (il ds ++ [.int 0]) ((j : Int) + 1) = some (.int (ds.getD (j + 1) 0)) := by
        have := pad_ix (ds := ds) (m := 1) (k := j + 1) (by omega)
        rw [show ((j + 1 : Nat) : Int) = (j : Int) + 1 by omega] at this
        exact this
      simp only [List.getElem?_cons_zero, List.getElem?_cons_succ, List.set_cons_zero, List.set_cons_succ, List.replicate_succ, List.replicate_zero, List.cons_append, List.nil_append, x_vCst, x_vNm, x_vBin, x_vNeg, x_vBits, x_vCmp, x_vCmp2, x_vAnd, x_vOr, x_vNot, x_vIte, x_vTup, x_vLst, x_vIx, x_vSlF, x_vSlT, x_vSl, x_vRev, x_vCall, x_vBlt, x_vBlt2, x_vPop, x_vPopAt, x_fYes, x_vFz, x_vNo, x_tOf, x_tAnd, x_tOr, x_tNot, x_iOf, x_iNo, x_iRng1, x_iRng2, x_iRng3, x_iEnum, x_iZip, x_iRevd, x_aNil, x_aCons, x_dNil, x_dCons, x_sAsg, x_sAsgT, x_sPar, x_sSet, x_sAug, x_sAugS, x_sApp, x_sExt, x_sEx, x_sIte, x_sRet, x_sRetN, x_sBrk, x_sCont, x_sPass, x_sNo, x_sSeq, argsOf, argOf, locs, backs, nd0, nd1, store, put, frz, tgt, tgts, isOw, z_add, z_sub, z_xor, z_eq, z_ne, z_lt, z_le, z_gt, z_ge, z_dd, z_do, z_dl, z_tb, z_lenL, z_lenT, z_int, z_intB, z_abs, z_max, z_min, z_tupL, z_tupT, z_lstL, z_lstT, z_scr, ix0, ix1, ix2, ix3, ix4, ixn1, ixn2, ixn3, ixn4, decide_true, decide_false, if_true, if_false, Bool.false_eq_true, Bool.and_true, Bool.true_and, Bool.not_true, Bool.not_false, x_turnC, wipeE, back, x_sForB, x_forB, i1, i2, zm])
  have hmap : (List.range' 0 ds.length).map (fun j => PyData.int ((ds.getD j 0 + ds.getD (j + 1) 0).fmod 2)) = il (gr ds) := by
    apply List.ext_getElem?
    intro j
    rw [List.getElem?_map, List.getElem?_map]
    by_cases c : j < ds.length
    · rw [gr_get ds j c, List.getElem?_range' c]
      simp
    · rw [List.getElem?_eq_none (by rw [List.length_range']; omega), List.getElem?_eq_none (by rw [gr_len]; omega)]
      rfl
  rw [hmap] at hcl
  have hr := rng_ok (n := ds.length) (by omega)
  have hit : iRng1 (vBlt Blt.len (vNm 1)) [.fz (.int n), .fz (.tuple (il ds)), .fz (.tuple (il ds ++ [.int 0])), .un] = some (rngL 0 1 0 ds.length, [.fz (.int n), .fz (.tuple (il ds)), .fz (.tuple (il ds ++ [.int 0])), .un]) := by
    rw [x_iRng1]
    simp only [List.getElem?_cons_zero, List.getElem?_cons_succ, List.set_cons_zero, List.set_cons_succ, List.replicate_succ, List.replicate_zero, List.cons_append, List.nil_append, x_vCst, x_vNm, x_vBin, x_vNeg, x_vBits, x_vCmp, x_vCmp2, x_vAnd, x_vOr, x_vNot, x_vIte, x_vTup, x_vLst, x_vIx, x_vSlF, x_vSlT, x_vSl, x_vRev, x_vCall, x_vBlt, x_vBlt2, x_vPop, x_vPopAt, x_fYes, x_vFz, x_vNo, x_tOf, x_tAnd, x_tOr, x_tNot, x_iOf, x_iNo, x_iRng2, x_iRng3, x_iEnum, x_iZip, x_iRevd, x_aNil, x_aCons, x_dNil, x_dCons, x_sAsg, x_sAsgT, x_sPar, x_sSet, x_sAug, x_sAugS, x_sApp, x_sExt, x_sEx, x_sIte, x_sRet, x_sRetN, x_sBrk, x_sCont, x_sPass, x_sNo, x_sSeq, argsOf, argOf, locs, backs, nd0, nd1, store, put, frz, tgt, tgts, isOw, z_add, z_sub, z_xor, z_eq, z_ne, z_lt, z_le, z_gt, z_ge, z_dd, z_do, z_dl, z_tb, z_lenL, z_lenT, z_int, z_intB, z_abs, z_max, z_min, z_tupL, z_tupT, z_lstL, z_lstT, z_scr, ix0, ix1, ix2, ix3, ix4, ixn1, ixn2, ixn3, ixn4, decide_true, decide_false, if_true, if_false, Bool.false_eq_true, Bool.and_true, Bool.true_and, Bool.not_true, Bool.not_false, x_turnC, wipeE, back, x_sForB, x_forB, List.length_map, hr, Int.toNat_natCast]
  have hsm : small (il (gr ds)) = true := small_il (by rw [List.length_map, gr_len]; omega)
  have ho : ownOk [.fz (.int n), .fz (.tuple (il ds)), .fz (.tuple (il ds ++ [.int 0])), .un] [3] = true := rfl
  simp only [List.getElem?_cons_zero, List.getElem?_cons_succ, List.set_cons_zero, List.set_cons_succ, List.replicate_succ, List.replicate_zero, List.cons_append, List.nil_append, x_vCst, x_vNm, x_vBin, x_vNeg, x_vBits, x_vCmp, x_vCmp2, x_vAnd, x_vOr, x_vNot, x_vIte, x_vTup, x_vLst, x_vIx, x_vSlF, x_vSlT, x_vSl, x_vRev, x_vCall, x_vBlt, x_vBlt2, x_vPop, x_vPopAt, x_fYes, x_vFz, x_vNo, x_tOf, x_tAnd, x_tOr, x_tNot, x_iOf, x_iNo, x_iRng2, x_iRng3, x_iEnum, x_iZip, x_iRevd, x_aNil, x_aCons, x_dNil, x_dCons, x_sAsg, x_sAsgT, x_sPar, x_sSet, x_sAug, x_sAugS, x_sApp, x_sExt, x_sEx, x_sIte, x_sRet, x_sRetN, x_sBrk, x_sCont, x_sPass, x_sNo, x_sSeq, argsOf, argOf, locs, backs, nd0, nd1, store, put, frz, tgt, tgts, isOw, z_add, z_sub, z_xor, z_eq, z_ne, z_lt, z_le, z_gt, z_ge, z_dd, z_do, z_dl, z_tb, z_lenL, z_lenT, z_int, z_intB, z_abs, z_max, z_min, z_tupL, z_tupT, z_lstL, z_lstT, z_scr, ix0, ix1, ix2, ix3, ix4, ixn1, ixn2, ixn3, ixn4, decide_true, decide_false, if_true, if_false, Bool.false_eq_true, Bool.and_true, Bool.true_and, Bool.not_true, Bool.not_false, x_turnC, wipeE, back, x_sForB, x_forB, x_vComp, hf, hs1, hcat, hit, hcl, hsm, ho]
  rfl
/-- from_gray's fold -/
def fg : List Int → Int → Int → Int × Int
  | [], r, l => (r, l)
  | u :: us, r, l => fg us (2 * r + Builtin.bitXor l u) (Builtin.bitXor l u)
def Gz : List Int → Int → Int → Prop
  | [], _, _ => True
  | u :: us, r, l => mulOk 2 r = true ∧ Gz us (2 * r + Builtin.bitXor l u) (Builtin.bitXor l u)
theorem fg_app : ∀ (us : List Int) (d r l : Int), fg (us ++ [d]) r l = (2 * (fg us r l).1 + Builtin.bitXor (fg us r l).2 d, Builtin.bitXor (fg us r l).2 d)
  | [], _, _, _ => rfl
  | u :: us, d, r, l => fg_app us d _ _
theorem Gz_app : ∀ (us : List Int) (d r l : Int), Gz us r l → mulOk 2 (fg us r l).1 = true → Gz (us ++ [d]) r l
  | [], _, _, _, _, h => ⟨h, trivial⟩
  | u :: us, d, r, l, h, h2 => ⟨h.1, Gz_app us d _ _ h.2 h2⟩
theorem xor_bits {l d : Int} (hl : l = 0 ∨ l = 1) (hd : d = 0 ∨ d = 1) : Builtin.bitXor l ((d + l).fmod 2) = d := by
  rcases hl with rfl | rfl <;> rcases hd with rfl | rfl <;> decide
theorem fg_rev : ∀ (ds : List Int), (∀ d ∈ ds, d = 0 ∨ d = 1) → ds.length ≤ 20000 → fg (gr ds).reverse 0 0 = (val 2 ds, ds.headD 0) ∧ Gz (gr ds).reverse 0 0
  | [], _, _ => ⟨rfl, trivial⟩
  | d :: ds, h, hl => by
    have hds : ∀ x ∈ ds, x = 0 ∨ x = 1 := fun x hx => h x (List.mem_cons_of_mem _ hx)
    obtain ⟨h1, h2⟩ := fg_rev ds hds (by simp only [List.length_cons] at hl; omega)
    have hh : ds.headD 0 = 0 ∨ ds.headD 0 = 1 := by
      cases ds with
      | nil => exact .inl rfl
      | cons x xs => exact hds x List.mem_cons_self
    have hx := xor_bits hh (h d List.mem_cons_self)
    have hm : mulOk 2 (val 2 ds) = true := by
      have := val_mul (b := 2) (by decide) (ds := ds) (fun x hx => by rcases hds x hx with e | e <;> subst e <;> decide) (by simp only [List.length_cons] at hl; omega)
      unfold mulOk at this ⊢
      rw [Nat.add_comm]
      exact this
    have e : (gr (d :: ds)).reverse = (gr ds).reverse ++ [(d + ds.headD 0).fmod 2] := List.reverse_cons
    rw [e]
    refine ⟨?_, Gz_app _ _ _ _ h2 (by rw [h1]; exact hm)⟩
    rw [fg_app, h1]
    show (2 * val 2 ds + Builtin.bitXor (ds.headD 0) _, Builtin.bitXor (ds.headD 0) _) = _
    rw [hx]
    show (2 * val 2 ds + d, d) = (d + 2 * val 2 ds, d)
    rw [Int.add_comm]
theorem fg_loop (told : Dt) : ∀ (us : List Int) (r l : Int) (s : Sv), (∀ xs, s ≠ Sv.ow true xs) → Gz us r l →
    ∃ s', forL (forB (.nm 3) (sSeq (sAsg 2 (vBin Bop.xor (vNm 2) (vNm 3))) (sSeq (sAsg 1 (vBin Bop.add (vBin Bop.mul (vCst (.int 2)) (vNm 1)) (vNm 2))) sPass))) (il us) [.fz told, .fz (.int r), .fz (.int l), s] = some (.nx [.fz told, .fz (.int (fg us r l).1), .fz (.int (fg us r l).2), s'])
  | [], r, l, s, _, _ => ⟨s, rfl⟩
  | u :: us, r, l, s, hs, h => by
    obtain ⟨s', h2⟩ := fg_loop told us (2 * r + Builtin.bitXor l u) (Builtin.bitXor l u) (.fz (.int u)) (fun _ z => (nomatch z)) h.2
    refine ⟨s', ?_⟩
    have hm : bop .mul (.int 2) (.int r) = some (.d (.int (2 * r))) := z_mul h.1
    rw [← show fg us (2 * r + Builtin.bitXor l u) (Builtin.bitXor l u) = fg (u :: us) r l from rfl, ← h2]
    show forL _ (PyData.int u :: il us) _ = _
    cases s with
    | ow p xs => cases p with
      | true => exact absurd rfl (hs xs)
      | false => rw [forL]; simp only [List.getElem?_cons_zero, List.getElem?_cons_succ, List.set_cons_zero, List.set_cons_succ, List.replicate_succ, List.replicate_zero, List.cons_append, List.nil_append, x_vCst, x_vNm, x_vBin, x_vNeg, x_vBits, x_vCmp, x_vCmp2, x_vAnd, x_vOr, x_vNot, x_vIte, x_vTup, x_vLst, x_vIx, x_vSlF, x_vSlT, x_vSl, x_vRev, x_vCall, x_vBlt, x_vBlt2, x_vPop, x_vPopAt, x_fYes, x_vFz, x_vNo, x_tOf, x_tAnd, x_tOr, x_tNot, x_iOf, x_iNo, x_iRng1, x_iRng2, x_iRng3, x_iEnum, x_iZip, x_iRevd, x_aNil, x_aCons, x_dNil, x_dCons, x_sAsg, x_sAsgT, x_sPar, x_sSet, x_sAug, x_sAugS, x_sApp, x_sExt, x_sEx, x_sIte, x_sRet, x_sRetN, x_sBrk, x_sCont, x_sPass, x_sNo, x_sSeq, argsOf, argOf, locs, backs, nd0, nd1, store, put, frz, tgt, tgts, isOw, z_add, z_sub, z_xor, z_eq, z_ne, z_lt, z_le, z_gt, z_ge, z_dd, z_do, z_dl, z_tb, z_lenL, z_lenT, z_int, z_intB, z_abs, z_max, z_min, z_tupL, z_tupT, z_lstL, z_lstT, z_scr, ix0, ix1, ix2, ix3, ix4, ixn1, ixn2, ixn3, ixn4, decide_true, decide_false, if_true, if_false, Bool.false_eq_true, Bool.and_true, Bool.true_and, Bool.not_true, Bool.not_false, x_turnC, wipeE, back, x_sForB, x_forB, hm]
    | _ => rw [forL]; simp only [List.getElem?_cons_zero, List.getElem?_cons_succ, List.set_cons_zero, List.set_cons_succ, List.replicate_succ, List.replicate_zero, List.cons_append, List.nil_append, x_vCst, x_vNm, x_vBin, x_vNeg, x_vBits, x_vCmp, x_vCmp2, x_vAnd, x_vOr, x_vNot, x_vIte, x_vTup, x_vLst, x_vIx, x_vSlF, x_vSlT, x_vSl, x_vRev, x_vCall, x_vBlt, x_vBlt2, x_vPop, x_vPopAt, x_fYes, x_vFz, x_vNo, x_tOf, x_tAnd, x_tOr, x_tNot, x_iOf, x_iNo, x_iRng1, x_iRng2, x_iRng3, x_iEnum, x_iZip, x_iRevd, x_aNil, x_aCons, x_dNil, x_dCons, x_sAsg, x_sAsgT, x_sPar, x_sSet, x_sAug, x_sAugS, x_sApp, x_sExt, x_sEx, x_sIte, x_sRet, x_sRetN, x_sBrk, x_sCont, x_sPass, x_sNo, x_sSeq, argsOf, argOf, locs, backs, nd0, nd1, store, put, frz, tgt, tgts, isOw, z_add, z_sub, z_xor, z_eq, z_ne, z_lt, z_le, z_gt, z_ge, z_dd, z_do, z_dl, z_tb, z_lenL, z_lenT, z_int, z_intB, z_abs, z_max, z_min, z_tupL, z_tupT, z_lstL, z_lstT, z_scr, ix0, ix1, ix2, ix3, ix4, ixn1, ixn2, ixn3, ixn4, decide_true, decide_false, if_true, if_false, Bool.false_eq_true, Bool.and_true, Bool.true_and, Bool.not_true, Bool.not_false, x_turnC, wipeE, back, x_sForB, x_forB, hm]
theorem ungray_ok (k : Nat) {n : Nat} {ds : List Int} (h : D2 n ds) (hl : ds.length ≤ 20000) : ∃ ec, run G.M G.P (k + 1) 12 [.fz (.tuple (il (gr ds)))] = some (.d (.int n), .fz (.tuple (il (gr ds))) :: ec) := by
  obtain ⟨g1, g2⟩ := fg_rev ds (D2.bits h) hl
  obtain ⟨s, h2⟩ := fg_loop (.tuple (il (gr ds))) (gr ds).reverse 0 0 .un (fun _ z => (nomatch z)) g2
  rw [g1, il, List.map_reverse] at h2
  have hv := D2.val h
  refine ⟨[.fz (.int (val 2 ds)), .fz (.int (ds.headD 0)), s], ?_⟩
  show runD (run G.M G.P k) G.M ⟨"from_gray", 1, 4, b_from_gray⟩ [.fz (.tuple (il (gr ds)))] = _
  refine runD_d [.fz (.tuple (il (gr ds))), .un, .un, .un] rfl rfl ?_
  show evB _ _ b_from_gray _ = _
  simp only [b_from_gray, evB, evS, ev, evs, mkV, mkI]
  have hbits := D2.bits (D2.gray ds n h)
  have hs2 : small [PyData.int 0, PyData.int 1] = true := rfl
  have hc := compL_map (f := turnC (vCmp Cop.nmem (vNm 3) (vTup (dCons (vCst (.int 0)) (dCons (vCst (.int 1)) dNil)))) [3] (.nm 3) fYes) (e0 := [.fz (.tuple (il (gr ds))), .un, .un, .un]) (φ := fun _ => [.bool false]) (il (gr ds)) (fun d hd => by
    obtain ⟨x, hx, rfl⟩ := List.mem_map.mp hd
    have hn : cop .nmem (.int x) (.tuple [.int 0, .int 1]) = some false := by
      rcases hbits x hx with e | e <;> subst e <;> rfl
    simp only [List.getElem?_cons_zero, List.getElem?_cons_succ, List.set_cons_zero, List.set_cons_succ, List.replicate_succ, List.replicate_zero, List.cons_append, List.nil_append, x_vCst, x_vNm, x_vBin, x_vNeg, x_vBits, x_vCmp, x_vCmp2, x_vAnd, x_vOr, x_vNot, x_vIte, x_vTup, x_vLst, x_vIx, x_vSlF, x_vSlT, x_vSl, x_vRev, x_vCall, x_vBlt, x_vBlt2, x_vPop, x_vPopAt, x_fYes, x_vFz, x_vNo, x_tOf, x_tAnd, x_tOr, x_tNot, x_iOf, x_iNo, x_iRng1, x_iRng2, x_iRng3, x_iEnum, x_iZip, x_iRevd, x_aNil, x_aCons, x_dNil, x_dCons, x_sAsg, x_sAsgT, x_sPar, x_sSet, x_sAug, x_sAugS, x_sApp, x_sExt, x_sEx, x_sIte, x_sRet, x_sRetN, x_sBrk, x_sCont, x_sPass, x_sNo, x_sSeq, argsOf, argOf, locs, backs, nd0, nd1, store, put, frz, tgt, tgts, isOw, z_add, z_sub, z_xor, z_eq, z_ne, z_lt, z_le, z_gt, z_ge, z_dd, z_do, z_dl, z_tb, z_lenL, z_lenT, z_int, z_intB, z_abs, z_max, z_min, z_tupL, z_tupT, z_lstL, z_lstT, z_scr, ix0, ix1, ix2, ix3, ix4, ixn1, ixn2, ixn3, ixn4, decide_true, decide_false, if_true, if_false, Bool.false_eq_true, Bool.and_true, Bool.true_and, Bool.not_true, Bool.not_false, x_turnC, wipeE, back, x_sForB, x_forB, hs2, hn])
  have hsm : small ((il (gr ds)).flatMap fun _ => [PyData.bool false]) = true := small_il (by
    rw [flen, List.length_map, gr_len]
    omega)
  have ho : ownOk [.fz (.tuple (il (gr ds))), .un, .un, .un] [3] = true := rfl
  rw [hv] at h2 ⊢
  simp only [List.getElem?_cons_zero, List.getElem?_cons_succ, List.set_cons_zero, List.set_cons_succ, List.replicate_succ, List.replicate_zero, List.cons_append, List.nil_append, x_vCst, x_vNm, x_vBin, x_vNeg, x_vBits, x_vCmp, x_vCmp2, x_vAnd, x_vOr, x_vNot, x_vIte, x_vTup, x_vLst, x_vIx, x_vSlF, x_vSlT, x_vSl, x_vRev, x_vCall, x_vBlt, x_vBlt2, x_vPop, x_vPopAt, x_fYes, x_vFz, x_vNo, x_tOf, x_tAnd, x_tOr, x_tNot, x_iOf, x_iNo, x_iRng1, x_iRng2, x_iRng3, x_iEnum, x_iZip, x_iRevd, x_aNil, x_aCons, x_dNil, x_dCons, x_sAsg, x_sAsgT, x_sPar, x_sSet, x_sAug, x_sAugS, x_sApp, x_sExt, x_sEx, x_sIte, x_sRet, x_sRetN, x_sBrk, x_sCont, x_sPass, x_sNo, x_sSeq, argsOf, argOf, locs, backs, nd0, nd1, store, put, frz, tgt, tgts, isOw, z_add, z_sub, z_xor, z_eq, z_ne, z_lt, z_le, z_gt, z_ge, z_dd, z_do, z_dl, z_tb, z_lenL, z_lenT, z_int, z_intB, z_abs, z_max, z_min, z_tupL, z_tupT, z_lstL, z_lstT, z_scr, ix0, ix1, ix2, ix3, ix4, ixn1, ixn2, ixn3, ixn4, decide_true, decide_false, if_true, if_false, Bool.false_eq_true, Bool.and_true, Bool.true_and, Bool.not_true, Bool.not_false, x_turnC, wipeE, back, x_sForB, x_forB, x_vComp, hc, hsm, ho, any_false, h2, List.getD_cons_zero, List.getD_cons_succ]
end Lawk83
end

section
set_option maxHeartbeats 4000000
set_option exponentiation.threshold 500000
namespace Lawk83
open PySem De

/-! ### sums of steps -/
theorem fdm_uniq {s n q r : Int} (hs : 0 < s) (e : n = s * q + r) (h1 : 0 ≤ r) (h2 : r < s) : n.fdiv s = q ∧ n.fmod s = r := by
  obtain ⟨h3, h4⟩ := (Int.ediv_emod_unique hs (a := n) (r := r) (q := q)).mpr ⟨by omega, h1, h2⟩
  rw [Int.fdiv_eq_ediv_of_nonneg _ (Int.le_of_lt hs), Int.fmod_eq_emod_of_nonneg _ (Int.le_of_lt hs)]
  exact ⟨h3, h4⟩
def addL : List Int → List Int → List Int
  | [], bs => bs
  | a :: as, [] => a :: as
  | a :: as, b :: bs => (a + b) :: addL as bs
theorem add_steps : ∀ (as bs : List Int) (i : Nat) (n m : Int), 0 ≤ n → 0 ≤ m → Dg fS gS i n as → Dg fS gS i m bs → (∀ k, as.getD k 0 + bs.getD k 0 ≤ (i : Int) + k + 1) → Dg fS gS i (n + m) (addL as bs)
  | [], bs, i, n, m, _, _, ha, hb, _ => by
    cases ha
    rw [Int.zero_add]
    cases bs <;> exact hb
  | a :: as, [], i, n, m, _, _, ha, hb, _ => by
    cases hb
    rw [Int.add_zero]
    exact ha
  | a :: as, b :: bs, i, n, m, hn, hm, ha, hb, h => by
    have h0 := h 0
    simp only [List.getD_cons_zero] at h0
    cases ha with
    | cons zn ha =>
      cases hb with
      | cons zm hb =>
        obtain ⟨r1, e1, a1, a2, a3⟩ := fdiv_bound (s := (i : Int) + 2) (by omega) n
        obtain ⟨r2, e2, b1, b2, b3⟩ := fdiv_bound (s := (i : Int) + 2) (by omega) m
        have f1 : fS i n = r1 := a3
        have f2 : fS i m = r2 := b3
        have hq1 := (two_q (by omega) e1 a1 a2).2.1 hn
        have hq2 := (two_q (by omega) e2 b1 b2).2.1 hm
        rw [f1, f2] at h0
        obtain ⟨u1, u2⟩ := fdm_uniq (s := (i : Int) + 2) (n := n + m) (q := n.fdiv ((i : Int) + 2) + m.fdiv ((i : Int) + 2)) (r := r1 + r2) (by omega) (by rw [Int.mul_add]; omega) (by omega) (by omega)
        have ih := add_steps as bs (i + 1) (gS i n) (gS i m) hq1 hq2 ha hb (fun k => by
          have := h (k + 1)
          simp only [List.getD_cons_succ] at this
          omega)
        have hz : n + m ≠ 0 := by omega
        have := Dg.cons (f := fS) (g := gS) (i := i) hz (by rw [show gS i (n + m) = gS i n + gS i m from u1]; exact ih)
        rw [show fS i (n + m) = r1 + r2 from u2] at this
        rw [f1, f2]
        exact this
theorem addL_len : ∀ as bs : List Int, (addL as bs).length = max as.length bs.length
  | [], bs => by
    show bs.length = _
    simp
  | a :: as, [] => by
    show (a :: as).length = _
    simp
  | a :: as, b :: bs => by
    show (addL as bs).length + 1 = _
    rw [addL_len as bs]
    simp only [List.length_cons]
    omega
theorem addL_get : ∀ (as bs : List Int) (k : Nat), (addL as bs).getD k 0 = as.getD k 0 + bs.getD k 0
  | [], bs, k => by
    show bs.getD k 0 = _
    simp
  | a :: as, [], k => by
    show (a :: as).getD k 0 = _
    simp
  | a :: as, b :: bs, 0 => rfl
  | a :: as, b :: bs, k + 1 => by
    show (addL as bs).getD k 0 = _
    rw [addL_get as bs k]
    rfl
/-! ### from_steps -/
theorem steps_top : ∀ (ds : List Int) (i : Nat) (n : Int), 0 ≤ n → Dg fS gS i n ds → ∀ j, j < ds.length → ∃ a b, Dg fS gS (i + j) a (ds.drop j) ∧ Dg fS gS (i + j + 1) b (ds.drop (j + 1)) ∧ 0 ≤ b ∧ b ≤ n ∧ a = b * ((i : Int) + j + 2) + ds.getD j 0
  | [], _, _, _, _, j, h => absurd h (Nat.not_lt_zero _)
  | d :: ds, i, n, hn, h, 0, hj => by
    cases h with
    | cons hz h =>
      obtain ⟨r, e, r1, r2, e2⟩ := fdiv_bound (s := (i : Int) + 2) (by omega) n
      obtain ⟨t1, t2, _, _⟩ := two_q (by omega) e r1 r2
      have := t2 hn
      refine ⟨n, gS i n, .cons hz h, h, this, ?_, ?_⟩
      · show n.fdiv ((i : Int) + 2) ≤ n
        omega
      · show n = n.fdiv ((i : Int) + 2) * ((i : Int) + ((0 : Nat) : Int) + 2) + fS i n
        rw [show fS i n = r from e2, show (i : Int) + ((0 : Nat) : Int) + 2 = (i : Int) + 2 by omega, Int.mul_comm]
        exact e
  | d :: ds, i, n, hn, h, j + 1, hj => by
    cases h with
    | cons hz h =>
      obtain ⟨r, e, r1, r2, e2⟩ := fdiv_bound (s := (i : Int) + 2) (by omega) n
      obtain ⟨t1, t2, _, _⟩ := two_q (by omega) e r1 r2
      have h0 := t2 hn
      obtain ⟨a, b, k1, k2, k3, k4, k5⟩ := steps_top ds (i + 1) (gS i n) h0 h j (by simpa using hj)
      refine ⟨a, b, ?_, ?_, k3, ?_, ?_⟩
      · rw [show i + (j + 1) = i + 1 + j by omega]
        exact k1
      · rw [show i + (j + 1) + 1 = i + 1 + j + 1 by omega]
        exact k2
      · have : gS i n ≤ n := by
          show n.fdiv ((i : Int) + 2) ≤ n
          omega
        omega
      · rw [k5]
        show b * (((i + 1 : Nat) : Int) + j + 2) + ds.getD j 0 = b * ((i : Int) + ((j + 1 : Nat) : Int) + 2) + ds.getD j 0
        congr 2
        omega
theorem unsteps_loop {n : Int} (hn : 0 ≤ n) (hn2 : n < 1000000) {ds : List Int} (hd : Dg fS gS 0 n ds) (hl : ds.length < 900) : ∀ (m : Nat), m ≤ ds.length → ∀ (r : Int), Dg fS gS m r (ds.drop m) → ∀ s : Sv, (∀ xs, s ≠ Sv.ow true xs) →
    ∃ s', (∀ xs, s' ≠ Sv.ow true xs) ∧ forL (forB (.nm 2) (sSeq (sAsg 1 (vBin Bop.add (vBin Bop.mul (vNm 1) (vBin Bop.add (vNm 2) (vCst (.int 1)))) (vIx (vNm 0) (vBin Bop.sub (vNm 2) (vCst (.int 1)))))) sPass)) (rngL ds.length (-1) (ds.length - m) m) [.fz (.tuple (il ds)), .fz (.int r), s, .un] = some (.nx [.fz (.tuple (il ds)), .fz (.int n), s', .un])
  | 0, _, r, h, s, hs => by
    have := Dg.uniq (f := fS) (g := gS) hd hd
    have e : r = n := by
      rw [List.drop_zero] at h
      -- the number is told by its steps
      have key : ∀ (ds : List Int) (i : Nat) (a b : Int), Dg fS gS i a ds → Dg fS gS i b ds → a = b := fun ds => by
        induction ds with
        | nil =>
          intro i a b h1 h2
          cases h1
          cases h2
          rfl
        | cons d ds ih =>
          intro i a b h1 h2
          generalize hE : d :: ds = es at h1 h2
          cases h1 with
          | nil => cases hE
          | cons _ h1 =>
            cases hE
            generalize hE2 : fS i a :: ds = es at h2
            cases h2 with
            | nil => cases hE2
            | cons _ h2 =>
              injection hE2 with e1 e2
              subst e2
              have e3 := ih (i + 1) (gS i a) (gS i b) h1 h2
              obtain ⟨r1, q1, _, _, w1⟩ := fdiv_bound (s := (i : Int) + 2) (by omega) a
              obtain ⟨r2, q2, _, _, w2⟩ := fdiv_bound (s := (i : Int) + 2) (by omega) b
              have e4 : a.fdiv ((i : Int) + 2) = b.fdiv ((i : Int) + 2) := e3
              have e5 : a.fmod ((i : Int) + 2) = b.fmod ((i : Int) + 2) := e1
              rw [q1, q2, e4]
              omega
      exact key ds 0 r n h hd
    subst e
    exact ⟨s, hs, rfl⟩
  | m + 1, hm, r, h, s, hs => by
    obtain ⟨a, b, k1, k2, k3, k4, k5⟩ := steps_top ds 0 n hn hd m (by omega)
    rw [Nat.zero_add] at k1 k2
    have e : r = b := by
      obtain ⟨a', b', j1, j2, _⟩ := steps_top ds 0 n hn hd m (by omega)
      rw [Nat.zero_add] at j2
      have key : ∀ (ds : List Int) (i : Nat) (a b : Int), Dg fS gS i a ds → Dg fS gS i b ds → a = b := fun ds => by
        induction ds with
        | nil =>
          intro i a b h1 h2
          cases h1
          cases h2
          rfl
        | cons d ds ih =>
          intro i a b h1 h2
          generalize hE : d :: ds = es at h1 h2
          cases h1 with
          | nil => cases hE
          | cons _ h1 =>
            cases hE
            generalize hE2 : fS i a :: ds = es at h2
            cases h2 with
            | nil => cases hE2
            | cons _ h2 =>
              injection hE2 with e1 e2
              subst e2
              have e3 := ih (i + 1) (gS i a) (gS i b) h1 h2
              obtain ⟨r1, q1, _, _, w1⟩ := fdiv_bound (s := (i : Int) + 2) (by omega) a
              obtain ⟨r2, q2, _, _, w2⟩ := fdiv_bound (s := (i : Int) + 2) (by omega) b
              have e4 : a.fdiv ((i : Int) + 2) = b.fdiv ((i : Int) + 2) := e3
              have e5 : a.fmod ((i : Int) + 2) = b.fmod ((i : Int) + 2) := e1
              rw [q1, q2, e4]
              omega
      exact key _ (m + 1) r b h k2
    subst e
    obtain ⟨s', h1, h2⟩ := unsteps_loop hn hn2 hd hl m (by omega) a k1 (.fz (.int ((m : Int) + 1))) (fun _ z => (nomatch z))
    refine ⟨s', h1, ?_⟩
    have er : rngL ds.length (-1) (ds.length - (m + 1)) (m + 1) = .int ((m : Int) + 1) :: rngL ds.length (-1) (ds.length - m) m := by
      show PyData.int ((ds.length : Int) + ((ds.length - (m + 1) : Nat) : Int) * (-1)) :: rngL ds.length (-1) (ds.length - (m + 1) + 1) m = _
      rw [show ds.length - (m + 1) + 1 = ds.length - m by omega, show (ds.length : Int) + ((ds.length - (m + 1) : Nat) : Int) * (-1) = (m : Int) + 1 by omega]
    rw [er, ← h2]
    have hmul : bop .mul (.int r) (.int ((m : Int) + 1 + 1)) = some (.d (.int (r * ((m : Int) + 1 + 1)))) := z_mul (small_mul k3 (by omega) (by omega) (by omega))
    have hix : ixD (il ds) ((m : Int) + 1 - 1) = some (.int (ds.getD m 0)) := by
      have := pad_ix (ds := ds) (m := 0) (k := m) (by omega)
      rw [List.replicate_zero, List.append_nil] at this
      rw [show (m : Int) + 1 - 1 = (m : Int) by omega]
      exact this
    have ea : r * ((m : Int) + 1 + 1) + ds.getD m 0 = a := by
      rw [k5]
      congr 2
      omega
    cases s with
    | ow p xs => cases p with
      | true => exact absurd rfl (hs xs)
      | false => rw [forL]; simp only [List.getElem?_cons_zero, List.getElem?_cons_succ, List.set_cons_zero, List.set_cons_succ, List.replicate_succ, List.replicate_zero, List.cons_append, List.nil_append, x_vCst, x_vNm, x_vBin, x_vNeg, x_vBits, x_vCmp, x_vCmp2, x_vAnd, x_vOr, x_vNot, x_vIte, x_vTup, x_vLst, x_vIx, x_vSlF, x_vSlT, x_vSl, x_vRev, x_vCall, x_vBlt, x_vBlt2, x_vPop, x_vPopAt, x_fYes, x_vFz, x_vNo, x_tOf, x_tAnd, x_tOr, x_tNot, x_iOf, x_iNo, x_iRng1, x_iRng2, x_iRng3, x_iEnum, x_iZip, x_iRevd, x_aNil, x_aCons, x_dNil, x_dCons, x_sAsg, x_sAsgT, x_sPar, x_sSet, x_sAug, x_sAugS, x_sApp, x_sExt, x_sEx, x_sIte, x_sRet, x_sRetN, x_sBrk, x_sCont, x_sPass, x_sNo, x_sSeq, argsOf, argOf, locs, backs, nd0, nd1, store, put, frz, tgt, tgts, isOw, z_add, z_sub, z_xor, z_eq, z_ne, z_lt, z_le, z_gt, z_ge, z_dd, z_do, z_dl, z_tb, z_lenL, z_lenT, z_int, z_intB, z_abs, z_max, z_min, z_tupL, z_tupT, z_lstL, z_lstT, z_scr, ix0, ix1, ix2, ix3, ix4, ixn1, ixn2, ixn3, ixn4, decide_true, decide_false, if_true, if_false, Bool.false_eq_true, Bool.and_true, Bool.true_and, Bool.not_true, Bool.not_false, x_turnC, wipeE, back, x_sForB, x_forB, List.getD_cons_zero, List.getD_cons_succ, hmul, hix, ea]
    | _ => rw [forL]; simp only [List.getElem?_cons_zero, List.getElem?_cons_succ, List.set_cons_zero, List.set_cons_succ, List.replicate_succ, List.replicate_zero, List.cons_append, List.nil_append, x_vCst, x_vNm, x_vBin, x_vNeg, x_vBits, x_vCmp, x_vCmp2, x_vAnd, x_vOr, x_vNot, x_vIte, x_vTup, x_vLst, x_vIx, x_vSlF, x_vSlT, x_vSl, x_vRev, x_vCall, x_vBlt, x_vBlt2, x_vPop, x_vPopAt, x_fYes, x_vFz, x_vNo, x_tOf, x_tAnd, x_tOr, x_tNot, x_iOf, x_iNo, x_iRng1, x_iRng2, x_iRng3, x_iEnum, x_iZip, x_iRevd, x_aNil, x_aCons, x_dNil, x_dCons, x_sAsg, x_sAsgT, x_sPar, x_sSet, x_sAug, x_sAugS, x_sApp, x_sExt, x_sEx, x_sIte, x_sRet, x_sRetN, x_sBrk, x_sCont, x_sPass, x_sNo, x_sSeq, argsOf, argOf, locs, backs, nd0, nd1, store, put, frz, tgt, tgts, isOw, z_add, z_sub, z_xor, z_eq, z_ne, z_lt, z_le, z_gt, z_ge, z_dd, z_do, z_dl, z_tb, z_lenL, z_lenT, z_int, z_intB, z_abs, z_max, z_min, z_tupL, z_tupT, z_lstL, z_lstT, z_scr, ix0, ix1, ix2, ix3, ix4, ixn1, ixn2, ixn3, ixn4, decide_true, decide_false, if_true, if_false, Bool.false_eq_true, Bool.and_true, Bool.true_and, Bool.not_true, Bool.not_false, x_turnC, wipeE, back, x_sForB, x_forB, List.getD_cons_zero, List.getD_cons_succ, hmul, hix, ea]
theorem unsteps_ok (k : Nat) {n : Int} (hn : 0 ≤ n) (hn2 : n < 1000000) {ds : List Int} (hd : Dg fS gS 0 n ds) (hl : ds.length < 900) :
    ∃ ec, run G.M G.P (k + 1) 17 [.fz (.tuple (il ds))] = some (.d (.int n), .fz (.tuple (il ds)) :: ec) := by
  obtain ⟨s, hs, h2⟩ := unsteps_loop hn hn2 hd hl ds.length (Nat.le_refl _) 0 (by rw [List.drop_length]; exact .nil) .un (fun _ z => (nomatch z))
  rw [Nat.sub_self] at h2
  refine ⟨[.fz (.int n), s, .un], ?_⟩
  show runD (run G.M G.P k) G.M ⟨"from_steps", 1, 4, b_from_steps⟩ [.fz (.tuple (il ds))] = _
  refine runD_d [.fz (.tuple (il ds)), .un, .un, .un] rfl rfl ?_
  show evB _ _ b_from_steps _ = _
  simp only [b_from_steps, evB, evS, ev, evs, mkV, mkI]
  have hc := compL_map (f := turnC (vNot (vCmp2 Cop.le Cop.le (vCst (.int 0)) (vNm 3) (vBin Bop.add (vNm 2) (vCst (.int 1))))) [2, 3] (.tp (.cons (.nm 2) (.cons (.nm 3) .nil))) fYes) (e0 := [.fz (.tuple (il ds)), .un, .un, .un]) (φ := fun _ => [.bool false]) (enumL 0 (il ds)) (fun d hd' => by
    obtain ⟨j, hj⟩ := List.getElem?_of_mem hd'
    have hlt : j < (enumL 0 (il ds)).length := (List.getElem?_eq_some_iff.mp hj).1
    rw [enumL_len, List.length_map] at hlt
    have hx := enumL_get (il ds) 0 j (.int ds[j]) (by rw [List.getElem?_map, List.getElem?_eq_getElem hlt]; rfl)
    rw [hj, Nat.zero_add] at hx
    cases hx
    obtain ⟨h1, h3⟩ := steps_range hd j ds[j] (List.getElem?_eq_getElem hlt)
    have h3' : ds[j] ≤ (j : Int) + 1 := by omega
    simp only [List.getElem?_cons_zero, List.getElem?_cons_succ, List.set_cons_zero, List.set_cons_succ, List.replicate_succ, List.replicate_zero, List.cons_append, List.nil_append, x_vCst, x_vNm, x_vBin, x_vNeg, x_vBits, x_vCmp, x_vCmp2, x_vAnd, x_vOr, x_vNot, x_vIte, x_vTup, x_vLst, x_vIx, x_vSlF, x_vSlT, x_vSl, x_vRev, x_vCall, x_vBlt, x_vBlt2, x_vPop, x_vPopAt, x_fYes, x_vFz, x_vNo, x_tOf, x_tAnd, x_tOr, x_tNot, x_iOf, x_iNo, x_iRng1, x_iRng2, x_iRng3, x_iEnum, x_iZip, x_iRevd, x_aNil, x_aCons, x_dNil, x_dCons, x_sAsg, x_sAsgT, x_sPar, x_sSet, x_sAug, x_sAugS, x_sApp, x_sExt, x_sEx, x_sIte, x_sRet, x_sRetN, x_sBrk, x_sCont, x_sPass, x_sNo, x_sSeq, argsOf, argOf, locs, backs, nd0, nd1, store, put, frz, tgt, tgts, isOw, z_add, z_sub, z_xor, z_eq, z_ne, z_lt, z_le, z_gt, z_ge, z_dd, z_do, z_dl, z_tb, z_lenL, z_lenT, z_int, z_intB, z_abs, z_max, z_min, z_tupL, z_tupT, z_lstL, z_lstT, z_scr, ix0, ix1, ix2, ix3, ix4, ixn1, ixn2, ixn3, ixn4, decide_true, decide_false, if_true, if_false, Bool.false_eq_true, Bool.and_true, Bool.true_and, Bool.not_true, Bool.not_false, x_turnC, wipeE, back, x_sForB, x_forB, List.getD_cons_zero, List.getD_cons_succ, h1, h3'])
  have hsm : small ((enumL 0 (il ds)).flatMap fun _ => [PyData.bool false]) = true := small_il (by
    rw [flen, enumL_len, List.length_map]
    omega)
  have ho : ownOk [.fz (.tuple (il ds)), .un, .un, .un] [2, 3] = true := rfl
  obtain ⟨g1, g2, g3, g4⟩ := L2.RgC.neg (i := (ds.length : Int)) (j := 0) (by omega) (by omega) (by omega) (by omega)
  have e1 : Builtin.Range.rangeSize (ds.length : Int) 0 (-1) = (ds.length : Int) := by rw [g4]; omega
  have hrg : rng3Ok (ds.length : Int) 0 (-1) = true := by
    unfold rng3Ok
    rw [g3, e1, decide_eq_true g1, decide_eq_true g2, decide_eq_true (show (0 : Int) ≤ ds.length by omega)]
    rfl
  have hit : iRng3 (vBlt Blt.len (vNm 0)) (vCst (.int 0)) (vNeg (vCst (.int 1))) [.fz (.tuple (il ds)), .fz (.int 0), .un, .un] = some (rngL ds.length (-1) 0 ds.length, [.fz (.tuple (il ds)), .fz (.int 0), .un, .un]) := by
    exact iRng3_of (e1 := [.fz (.tuple (il ds)), .fz (.int 0), .un, .un]) (e2 := [.fz (.tuple (il ds)), .fz (.int 0), .un, .un]) (m := (ds.length : Int)) (n := 0) (k := -1) (by simp only [List.getElem?_cons_zero, List.getElem?_cons_succ, List.set_cons_zero, List.set_cons_succ, List.replicate_succ, List.replicate_zero, List.cons_append, List.nil_append, x_vCst, x_vNm, x_vBin, x_vNeg, x_vBits, x_vCmp, x_vCmp2, x_vAnd, x_vOr, x_vNot, x_vIte, x_vTup, x_vLst, x_vIx, x_vSlF, x_vSlT, x_vSl, x_vRev, x_vCall, x_vBlt, x_vBlt2, x_vPop, x_vPopAt, x_fYes, x_vFz, x_vNo, x_tOf, x_tAnd, x_tOr, x_tNot, x_iOf, x_iNo, x_iRng1, x_iRng2, x_iRng3, x_iEnum, x_iZip, x_iRevd, x_aNil, x_aCons, x_dNil, x_dCons, x_sAsg, x_sAsgT, x_sPar, x_sSet, x_sAug, x_sAugS, x_sApp, x_sExt, x_sEx, x_sIte, x_sRet, x_sRetN, x_sBrk, x_sCont, x_sPass, x_sNo, x_sSeq, argsOf, argOf, locs, backs, nd0, nd1, store, put, frz, tgt, tgts, isOw, z_add, z_sub, z_xor, z_eq, z_ne, z_lt, z_le, z_gt, z_ge, z_dd, z_do, z_dl, z_tb, z_lenL, z_lenT, z_int, z_intB, z_abs, z_max, z_min, z_tupL, z_tupT, z_lstL, z_lstT, z_scr, ix0, ix1, ix2, ix3, ix4, ixn1, ixn2, ixn3, ixn4, decide_true, decide_false, if_true, if_false, Bool.false_eq_true, Bool.and_true, Bool.true_and, Bool.not_true, Bool.not_false, x_turnC, wipeE, back, x_sForB, x_forB, List.getD_cons_zero, List.getD_cons_succ, List.length_map]) rfl rfl hrg (by rw [e1, Int.toNat_natCast])
  refine sSeq_nx (e1 := [.fz (.tuple (il ds)), .un, .un, .un]) (by simp only [List.getElem?_cons_zero, List.getElem?_cons_succ, List.set_cons_zero, List.set_cons_succ, List.replicate_succ, List.replicate_zero, List.cons_append, List.nil_append, x_vCst, x_vNm, x_vBin, x_vNeg, x_vBits, x_vCmp, x_vCmp2, x_vAnd, x_vOr, x_vNot, x_vIte, x_vTup, x_vLst, x_vIx, x_vSlF, x_vSlT, x_vSl, x_vRev, x_vCall, x_vBlt, x_vBlt2, x_vPop, x_vPopAt, x_fYes, x_vFz, x_vNo, x_tOf, x_tAnd, x_tOr, x_tNot, x_iOf, x_iNo, x_iRng1, x_iRng2, x_iRng3, x_iEnum, x_iZip, x_iRevd, x_aNil, x_aCons, x_dNil, x_dCons, x_sAsg, x_sAsgT, x_sPar, x_sSet, x_sAug, x_sAugS, x_sApp, x_sExt, x_sEx, x_sIte, x_sRet, x_sRetN, x_sBrk, x_sCont, x_sPass, x_sNo, x_sSeq, argsOf, argOf, locs, backs, nd0, nd1, store, put, frz, tgt, tgts, isOw, z_add, z_sub, z_xor, z_eq, z_ne, z_lt, z_le, z_gt, z_ge, z_dd, z_do, z_dl, z_tb, z_lenL, z_lenT, z_int, z_intB, z_abs, z_max, z_min, z_tupL, z_tupT, z_lstL, z_lstT, z_scr, ix0, ix1, ix2, ix3, ix4, ixn1, ixn2, ixn3, ixn4, decide_true, decide_false, if_true, if_false, Bool.false_eq_true, Bool.and_true, Bool.true_and, Bool.not_true, Bool.not_false, x_turnC, wipeE, back, x_sForB, x_forB, List.getD_cons_zero, List.getD_cons_succ]) ?_
  refine sSeq_nx (e1 := [.fz (.tuple (il ds)), .un, .un, .un]) (sIte_f (e1 := [.fz (.tuple (il ds)), .un, .un, .un]) (by simp only [List.getElem?_cons_zero, List.getElem?_cons_succ, List.set_cons_zero, List.set_cons_succ, List.replicate_succ, List.replicate_zero, List.cons_append, List.nil_append, x_vCst, x_vNm, x_vBin, x_vNeg, x_vBits, x_vCmp, x_vCmp2, x_vAnd, x_vOr, x_vNot, x_vIte, x_vTup, x_vLst, x_vIx, x_vSlF, x_vSlT, x_vSl, x_vRev, x_vCall, x_vBlt, x_vBlt2, x_vPop, x_vPopAt, x_fYes, x_vFz, x_vNo, x_tOf, x_tAnd, x_tOr, x_tNot, x_iOf, x_iNo, x_iRng1, x_iRng2, x_iRng3, x_iEnum, x_iZip, x_iRevd, x_aNil, x_aCons, x_dNil, x_dCons, x_sAsg, x_sAsgT, x_sPar, x_sSet, x_sAug, x_sAugS, x_sApp, x_sExt, x_sEx, x_sIte, x_sRet, x_sRetN, x_sBrk, x_sCont, x_sPass, x_sNo, x_sSeq, argsOf, argOf, locs, backs, nd0, nd1, store, put, frz, tgt, tgts, isOw, z_add, z_sub, z_xor, z_eq, z_ne, z_lt, z_le, z_gt, z_ge, z_dd, z_do, z_dl, z_tb, z_lenL, z_lenT, z_int, z_intB, z_abs, z_max, z_min, z_tupL, z_tupT, z_lstL, z_lstT, z_scr, ix0, ix1, ix2, ix3, ix4, ixn1, ixn2, ixn3, ixn4, decide_true, decide_false, if_true, if_false, Bool.false_eq_true, Bool.and_true, Bool.true_and, Bool.not_true, Bool.not_false, x_turnC, wipeE, back, x_sForB, x_forB, List.getD_cons_zero, List.getD_cons_succ, x_vComp, hc, hsm, ho, any_false]) rfl) ?_
  refine sSeq_nx (e1 := [.fz (.tuple (il ds)), .fz (.int 0), .un, .un]) (by simp only [List.getElem?_cons_zero, List.getElem?_cons_succ, List.set_cons_zero, List.set_cons_succ, List.replicate_succ, List.replicate_zero, List.cons_append, List.nil_append, x_vCst, x_vNm, x_vBin, x_vNeg, x_vBits, x_vCmp, x_vCmp2, x_vAnd, x_vOr, x_vNot, x_vIte, x_vTup, x_vLst, x_vIx, x_vSlF, x_vSlT, x_vSl, x_vRev, x_vCall, x_vBlt, x_vBlt2, x_vPop, x_vPopAt, x_fYes, x_vFz, x_vNo, x_tOf, x_tAnd, x_tOr, x_tNot, x_iOf, x_iNo, x_iRng1, x_iRng2, x_iRng3, x_iEnum, x_iZip, x_iRevd, x_aNil, x_aCons, x_dNil, x_dCons, x_sAsg, x_sAsgT, x_sPar, x_sSet, x_sAug, x_sAugS, x_sApp, x_sExt, x_sEx, x_sIte, x_sRet, x_sRetN, x_sBrk, x_sCont, x_sPass, x_sNo, x_sSeq, argsOf, argOf, locs, backs, nd0, nd1, store, put, frz, tgt, tgts, isOw, z_add, z_sub, z_xor, z_eq, z_ne, z_lt, z_le, z_gt, z_ge, z_dd, z_do, z_dl, z_tb, z_lenL, z_lenT, z_int, z_intB, z_abs, z_max, z_min, z_tupL, z_tupT, z_lstL, z_lstT, z_scr, ix0, ix1, ix2, ix3, ix4, ixn1, ixn2, ixn3, ixn4, decide_true, decide_false, if_true, if_false, Bool.false_eq_true, Bool.and_true, Bool.true_and, Bool.not_true, Bool.not_false, x_turnC, wipeE, back, x_sForB, x_forB, List.getD_cons_zero, List.getD_cons_succ]) ?_
  refine sSeq_nx (e1 := [.fz (.tuple (il ds)), .fz (.int n), s, .un]) (sFor_of hit h2) ?_
  exact sSeq_rt (by simp only [List.getElem?_cons_zero, List.getElem?_cons_succ, List.set_cons_zero, List.set_cons_succ, List.replicate_succ, List.replicate_zero, List.cons_append, List.nil_append, x_vCst, x_vNm, x_vBin, x_vNeg, x_vBits, x_vCmp, x_vCmp2, x_vAnd, x_vOr, x_vNot, x_vIte, x_vTup, x_vLst, x_vIx, x_vSlF, x_vSlT, x_vSl, x_vRev, x_vCall, x_vBlt, x_vBlt2, x_vPop, x_vPopAt, x_fYes, x_vFz, x_vNo, x_tOf, x_tAnd, x_tOr, x_tNot, x_iOf, x_iNo, x_iRng1, x_iRng2, x_iRng3, x_iEnum, x_iZip, x_iRevd, x_aNil, x_aCons, x_dNil, x_dCons, x_sAsg, x_sAsgT, x_sPar, x_sSet, x_sAug, x_sAugS, x_sApp, x_sExt, x_sEx, x_sIte, x_sRet, x_sRetN, x_sBrk, x_sCont, x_sPass, x_sNo, x_sSeq, argsOf, argOf, locs, backs, nd0, nd1, store, put, frz, tgt, tgts, isOw, z_add, z_sub, z_xor, z_eq, z_ne, z_lt, z_le, z_gt, z_ge, z_dd, z_do, z_dl, z_tb, z_lenL, z_lenT, z_int, z_intB, z_abs, z_max, z_min, z_tupL, z_tupT, z_lstL, z_lstT, z_scr, ix0, ix1, ix2, ix3, ix4, ixn1, ixn2, ixn3, ixn4, decide_true, decide_false, if_true, if_false, Bool.false_eq_true, Bool.and_true, Bool.true_and, Bool.not_true, Bool.not_false, x_turnC, wipeE, back, x_sForB, x_forB, List.getD_cons_zero, List.getD_cons_succ])
end Lawk83
end

section
set_option maxHeartbeats 4000000
set_option exponentiation.threshold 500000
namespace Lawk83
open PySem De

/-! ### calls and draws within a body -/
theorem call1_of {c : List Sv → Option (Rv × En)} {a : FV} {e e1 : En} {x : Dt} {r : Rv} {y : Sv} {tl : En} (ha : a e = some (.d x, e1)) (hc : c [.fz x] = some (r, y :: tl)) : vCall c (aCons a aNil) e = some (r, e1) := by
  simp only [List.getElem?_cons_zero, List.getElem?_cons_succ, List.set_cons_zero, List.set_cons_succ, List.replicate_succ, List.replicate_zero, List.cons_append, List.nil_append, x_vCst, x_vNm, x_vBin, x_vNeg, x_vBits, x_vCmp, x_vCmp2, x_vAnd, x_vOr, x_vNot, x_vIte, x_vTup, x_vLst, x_vIx, x_vSlF, x_vSlT, x_vSl, x_vRev, x_vCall, x_vBlt, x_vBlt2, x_vPop, x_vPopAt, x_fYes, x_vFz, x_vNo, x_tOf, x_tAnd, x_tOr, x_tNot, x_iOf, x_iNo, x_iRng1, x_iRng2, x_iRng3, x_iEnum, x_iZip, x_iRevd, x_aNil, x_aCons, x_dNil, x_dCons, x_sAsg, x_sAsgT, x_sPar, x_sSet, x_sAug, x_sAugS, x_sApp, x_sExt, x_sEx, x_sIte, x_sRet, x_sRetN, x_sBrk, x_sCont, x_sPass, x_sNo, x_sSeq, argsOf, argOf, locs, backs, nd0, nd1, store, put, frz, tgt, tgts, isOw, z_add, z_sub, z_xor, z_eq, z_ne, z_lt, z_le, z_gt, z_ge, z_dd, z_do, z_dl, z_tb, z_lenL, z_lenT, z_int, z_intB, z_abs, z_max, z_min, z_tupL, z_tupT, z_lstL, z_lstT, z_scr, ix0, ix1, ix2, ix3, ix4, ixn1, ixn2, ixn3, ixn4, decide_true, decide_false, if_true, if_false, Bool.false_eq_true, Bool.and_true, Bool.true_and, Bool.not_true, Bool.not_false, x_turnC, wipeE, back, x_sForB, x_forB, List.getD_cons_zero, List.getD_cons_succ, ha, hc]
theorem call2_of {c : List Sv → Option (Rv × En)} {a b : FV} {e e1 e2 : En} {x x2 : Dt} {r : Rv} {y z : Sv} {tl : En} (ha : a e = some (.d x, e1)) (hb : b e1 = some (.d x2, e2)) (hc : c [.fz x, .fz x2] = some (r, y :: z :: tl)) : vCall c (aCons a (aCons b aNil)) e = some (r, e2) := by
  simp only [List.getElem?_cons_zero, List.getElem?_cons_succ, List.set_cons_zero, List.set_cons_succ, List.replicate_succ, List.replicate_zero, List.cons_append, List.nil_append, x_vCst, x_vNm, x_vBin, x_vNeg, x_vBits, x_vCmp, x_vCmp2, x_vAnd, x_vOr, x_vNot, x_vIte, x_vTup, x_vLst, x_vIx, x_vSlF, x_vSlT, x_vSl, x_vRev, x_vCall, x_vBlt, x_vBlt2, x_vPop, x_vPopAt, x_fYes, x_vFz, x_vNo, x_tOf, x_tAnd, x_tOr, x_tNot, x_iOf, x_iNo, x_iRng1, x_iRng2, x_iRng3, x_iEnum, x_iZip, x_iRevd, x_aNil, x_aCons, x_dNil, x_dCons, x_sAsg, x_sAsgT, x_sPar, x_sSet, x_sAug, x_sAugS, x_sApp, x_sExt, x_sEx, x_sIte, x_sRet, x_sRetN, x_sBrk, x_sCont, x_sPass, x_sNo, x_sSeq, argsOf, argOf, locs, backs, nd0, nd1, store, put, frz, tgt, tgts, isOw, z_add, z_sub, z_xor, z_eq, z_ne, z_lt, z_le, z_gt, z_ge, z_dd, z_do, z_dl, z_tb, z_lenL, z_lenT, z_int, z_intB, z_abs, z_max, z_min, z_tupL, z_tupT, z_lstL, z_lstT, z_scr, ix0, ix1, ix2, ix3, ix4, ixn1, ixn2, ixn3, ixn4, decide_true, decide_false, if_true, if_false, Bool.false_eq_true, Bool.and_true, Bool.true_and, Bool.not_true, Bool.not_false, x_turnC, wipeE, back, x_sForB, x_forB, List.getD_cons_zero, List.getD_cons_succ, ha, hb, hc]
theorem nm_fz {e : En} {i : Nat} {d : Dt} (h : e[i]? = some (.fz d)) : vNm i e = some (.d d, e) := by
  unfold vNm
  rw [h]
theorem fz_fz {e : En} {i : Nat} {d : Dt} (h : e[i]? = some (.fz d)) : vFz (vNm i) e = some (.d d, e) := by
  unfold vFz
  rw [nm_fz h]
  rfl
theorem add_of {a b : FV} {e e1 e2 : En} {x y : Int} (ha : a e = some (.d (.int x), e1)) (hb : b e1 = some (.d (.int y), e2)) : vBin .add a b e = some (.d (.int (x + y)), e2) := by
  simp only [List.getElem?_cons_zero, List.getElem?_cons_succ, List.set_cons_zero, List.set_cons_succ, List.replicate_succ, List.replicate_zero, List.cons_append, List.nil_append, x_vCst, x_vNm, x_vBin, x_vNeg, x_vBits, x_vCmp, x_vCmp2, x_vAnd, x_vOr, x_vNot, x_vIte, x_vTup, x_vLst, x_vIx, x_vSlF, x_vSlT, x_vSl, x_vRev, x_vCall, x_vBlt, x_vBlt2, x_vPop, x_vPopAt, x_fYes, x_vFz, x_vNo, x_tOf, x_tAnd, x_tOr, x_tNot, x_iOf, x_iNo, x_iRng1, x_iRng2, x_iRng3, x_iEnum, x_iZip, x_iRevd, x_aNil, x_aCons, x_dNil, x_dCons, x_sAsg, x_sAsgT, x_sPar, x_sSet, x_sAug, x_sAugS, x_sApp, x_sExt, x_sEx, x_sIte, x_sRet, x_sRetN, x_sBrk, x_sCont, x_sPass, x_sNo, x_sSeq, argsOf, argOf, locs, backs, nd0, nd1, store, put, frz, tgt, tgts, isOw, z_add, z_sub, z_xor, z_eq, z_ne, z_lt, z_le, z_gt, z_ge, z_dd, z_do, z_dl, z_tb, z_lenL, z_lenT, z_int, z_intB, z_abs, z_max, z_min, z_tupL, z_tupT, z_lstL, z_lstT, z_scr, ix0, ix1, ix2, ix3, ix4, ixn1, ixn2, ixn3, ixn4, decide_true, decide_false, if_true, if_false, Bool.false_eq_true, Bool.and_true, Bool.true_and, Bool.not_true, Bool.not_false, x_turnC, wipeE, back, x_sForB, x_forB, List.getD_cons_zero, List.getD_cons_succ, ha, hb]
theorem sub_of {a b : FV} {e e1 e2 : En} {x y : Int} (ha : a e = some (.d (.int x), e1)) (hb : b e1 = some (.d (.int y), e2)) : vBin .sub a b e = some (.d (.int (x - y)), e2) := by
  simp only [List.getElem?_cons_zero, List.getElem?_cons_succ, List.set_cons_zero, List.set_cons_succ, List.replicate_succ, List.replicate_zero, List.cons_append, List.nil_append, x_vCst, x_vNm, x_vBin, x_vNeg, x_vBits, x_vCmp, x_vCmp2, x_vAnd, x_vOr, x_vNot, x_vIte, x_vTup, x_vLst, x_vIx, x_vSlF, x_vSlT, x_vSl, x_vRev, x_vCall, x_vBlt, x_vBlt2, x_vPop, x_vPopAt, x_fYes, x_vFz, x_vNo, x_tOf, x_tAnd, x_tOr, x_tNot, x_iOf, x_iNo, x_iRng1, x_iRng2, x_iRng3, x_iEnum, x_iZip, x_iRevd, x_aNil, x_aCons, x_dNil, x_dCons, x_sAsg, x_sAsgT, x_sPar, x_sSet, x_sAug, x_sAugS, x_sApp, x_sExt, x_sEx, x_sIte, x_sRet, x_sRetN, x_sBrk, x_sCont, x_sPass, x_sNo, x_sSeq, argsOf, argOf, locs, backs, nd0, nd1, store, put, frz, tgt, tgts, isOw, z_add, z_sub, z_xor, z_eq, z_ne, z_lt, z_le, z_gt, z_ge, z_dd, z_do, z_dl, z_tb, z_lenL, z_lenT, z_int, z_intB, z_abs, z_max, z_min, z_tupL, z_tupT, z_lstL, z_lstT, z_scr, ix0, ix1, ix2, ix3, ix4, ixn1, ixn2, ixn3, ixn4, decide_true, decide_false, if_true, if_false, Bool.false_eq_true, Bool.and_true, Bool.true_and, Bool.not_true, Bool.not_false, x_turnC, wipeE, back, x_sForB, x_forB, List.getD_cons_zero, List.getD_cons_succ, ha, hb]
theorem mul_of {a b : FV} {e e1 e2 : En} {x y : Int} (ha : a e = some (.d (.int x), e1)) (hb : b e1 = some (.d (.int y), e2)) (h : mulOk x y = true) : vBin .mul a b e = some (.d (.int (x * y)), e2) := by
  have := z_mul h
  simp only [List.getElem?_cons_zero, List.getElem?_cons_succ, List.set_cons_zero, List.set_cons_succ, List.replicate_succ, List.replicate_zero, List.cons_append, List.nil_append, x_vCst, x_vNm, x_vBin, x_vNeg, x_vBits, x_vCmp, x_vCmp2, x_vAnd, x_vOr, x_vNot, x_vIte, x_vTup, x_vLst, x_vIx, x_vSlF, x_vSlT, x_vSl, x_vRev, x_vCall, x_vBlt, x_vBlt2, x_vPop, x_vPopAt, x_fYes, x_vFz, x_vNo, x_tOf, x_tAnd, x_tOr, x_tNot, x_iOf, x_iNo, x_iRng1, x_iRng2, x_iRng3, x_iEnum, x_iZip, x_iRevd, x_aNil, x_aCons, x_dNil, x_dCons, x_sAsg, x_sAsgT, x_sPar, x_sSet, x_sAug, x_sAugS, x_sApp, x_sExt, x_sEx, x_sIte, x_sRet, x_sRetN, x_sBrk, x_sCont, x_sPass, x_sNo, x_sSeq, argsOf, argOf, locs, backs, nd0, nd1, store, put, frz, tgt, tgts, isOw, z_add, z_sub, z_xor, z_eq, z_ne, z_lt, z_le, z_gt, z_ge, z_dd, z_do, z_dl, z_tb, z_lenL, z_lenT, z_int, z_intB, z_abs, z_max, z_min, z_tupL, z_tupT, z_lstL, z_lstT, z_scr, ix0, ix1, ix2, ix3, ix4, ixn1, ixn2, ixn3, ixn4, decide_true, decide_false, if_true, if_false, Bool.false_eq_true, Bool.and_true, Bool.true_and, Bool.not_true, Bool.not_false, x_turnC, wipeE, back, x_sForB, x_forB, List.getD_cons_zero, List.getD_cons_succ, ha, hb, this]
theorem draw_of (k : Nat) {e : En} {b : Bool} {xs : List Dt} {a : FV} {size : Int} (h1 : e[1]? = some (.ow b xs)) (hp : PoolOk xs) (ha : a e = some (.d (.int size), e)) (hs : 0 < size) (hl : size.natAbs < 2 ^ 100) :
    ∃ v xs', 0 ≤ v ∧ v < size ∧ PoolOk xs' ∧ vCall (run G.M G.P (k + 1) 5) (aCons (vNm 1) (aCons a aNil)) e = some (.d (.int v), e.set 1 (.ow b xs')) := by
  have hlog := log2_lt hl (by decide)
  obtain ⟨v, xs', tl, k1, k2, k3, k4⟩ := draw_ok k true hp hs (by omega)
  refine ⟨v, xs', k1, k2, k3, ?_⟩
  simp only [List.getElem?_cons_zero, List.getElem?_cons_succ, List.set_cons_zero, List.set_cons_succ, List.replicate_succ, List.replicate_zero, List.cons_append, List.nil_append, x_vCst, x_vNm, x_vBin, x_vNeg, x_vBits, x_vCmp, x_vCmp2, x_vAnd, x_vOr, x_vNot, x_vIte, x_vTup, x_vLst, x_vIx, x_vSlF, x_vSlT, x_vSl, x_vRev, x_vCall, x_vBlt, x_vBlt2, x_vPop, x_vPopAt, x_fYes, x_vFz, x_vNo, x_tOf, x_tAnd, x_tOr, x_tNot, x_iOf, x_iNo, x_iRng1, x_iRng2, x_iRng3, x_iEnum, x_iZip, x_iRevd, x_aNil, x_aCons, x_dNil, x_dCons, x_sAsg, x_sAsgT, x_sPar, x_sSet, x_sAug, x_sAugS, x_sApp, x_sExt, x_sEx, x_sIte, x_sRet, x_sRetN, x_sBrk, x_sCont, x_sPass, x_sNo, x_sSeq, argsOf, argOf, locs, backs, nd0, nd1, store, put, frz, tgt, tgts, isOw, z_add, z_sub, z_xor, z_eq, z_ne, z_lt, z_le, z_gt, z_ge, z_dd, z_do, z_dl, z_tb, z_lenL, z_lenT, z_int, z_intB, z_abs, z_max, z_min, z_tupL, z_tupT, z_lstL, z_lstT, z_scr, ix0, ix1, ix2, ix3, ix4, ixn1, ixn2, ixn3, ixn4, decide_true, decide_false, if_true, if_false, Bool.false_eq_true, Bool.and_true, Bool.true_and, Bool.not_true, Bool.not_false, x_turnC, wipeE, back, x_sForB, x_forB, List.getD_cons_zero, List.getD_cons_succ, h1, ha, k4]
/-- the same where the pool stands in the first slot -/
theorem draw0_of (k : Nat) {e : En} {b : Bool} {xs : List Dt} {a : FV} {size : Int} (h1 : e[0]? = some (.ow b xs)) (hp : PoolOk xs) (ha : a e = some (.d (.int size), e)) (hs : 0 < size) (hl : size.natAbs < 2 ^ 100) :
    ∃ v xs', 0 ≤ v ∧ v < size ∧ PoolOk xs' ∧ vCall (run G.M G.P (k + 1) 5) (aCons (vNm 0) (aCons a aNil)) e = some (.d (.int v), e.set 0 (.ow b xs')) := by
  have hlog := log2_lt hl (by decide)
  obtain ⟨v, xs', tl, k1, k2, k3, k4⟩ := draw_ok k true hp hs (by omega)
  refine ⟨v, xs', k1, k2, k3, ?_⟩
  simp only [List.getElem?_cons_zero, List.getElem?_cons_succ, List.set_cons_zero, List.set_cons_succ, List.replicate_succ, List.replicate_zero, List.cons_append, List.nil_append, x_vCst, x_vNm, x_vBin, x_vNeg, x_vBits, x_vCmp, x_vCmp2, x_vAnd, x_vOr, x_vNot, x_vIte, x_vTup, x_vLst, x_vIx, x_vSlF, x_vSlT, x_vSl, x_vRev, x_vCall, x_vBlt, x_vBlt2, x_vPop, x_vPopAt, x_fYes, x_vFz, x_vNo, x_tOf, x_tAnd, x_tOr, x_tNot, x_iOf, x_iNo, x_iRng1, x_iRng2, x_iRng3, x_iEnum, x_iZip, x_iRevd, x_aNil, x_aCons, x_dNil, x_dCons, x_sAsg, x_sAsgT, x_sPar, x_sSet, x_sAug, x_sAugS, x_sApp, x_sExt, x_sEx, x_sIte, x_sRet, x_sRetN, x_sBrk, x_sCont, x_sPass, x_sNo, x_sSeq, argsOf, argOf, locs, backs, nd0, nd1, store, put, frz, tgt, tgts, isOw, z_add, z_sub, z_xor, z_eq, z_ne, z_lt, z_le, z_gt, z_ge, z_dd, z_do, z_dl, z_tb, z_lenL, z_lenT, z_int, z_intB, z_abs, z_max, z_min, z_tupL, z_tupT, z_lstL, z_lstT, z_scr, ix0, ix1, ix2, ix3, ix4, ixn1, ixn2, ixn3, ixn4, decide_true, decide_false, if_true, if_false, Bool.false_eq_true, Bool.and_true, Bool.true_and, Bool.not_true, Bool.not_false, x_turnC, wipeE, back, x_sForB, x_forB, List.getD_cons_zero, List.getD_cons_succ, h1, ha, k4]
theorem zpow6 : bop .pow (.int 10) (.int 6) = some (.d (.int 1000000)) := by rfl
theorem zpow10 : bop .pow (.int 10) (.int 10) = some (.d (.int 10000000000)) := by rfl
theorem zpow20 : bop .pow (.int 10) (.int 20) = some (.d (.int 100000000000000000000)) := by rfl
theorem some_ok (k : Nat) (b : Bool) {xs : List Dt} (hp : PoolOk xs) : ∃ v xs' tl, 0 ≤ v ∧ v < 10000000000 ∧ PoolOk xs' ∧ run G.M G.P (k + 2) 13 [.ow b xs] = some (.d (.int v), .ow b xs' :: tl) := by
  obtain ⟨way, x1, w1, w2, w3, w4⟩ := draw0_of k (e := [.ow b xs, .un]) (b := b) (a := vCst (.int 8)) (size := 8) rfl hp rfl (by decide) (by decide)
  have fin : ∀ {v : Int} {e' : En}, evB (run G.M G.P (k + 1)) G.M b__law_some [.ow b xs, .un] = some (.rt (.d (.int v)) e') → run G.M G.P (k + 2) 13 [.ow b xs] = some (.d (.int v), e') := fun {v e'} h => by
    show runD (run G.M G.P (k + 1)) G.M ⟨"_law_some", 1, 2, b__law_some⟩ [.ow b xs] = _
    exact runD_d [.ow b xs, .un] rfl rfl h
  have s1 : sAsg 1 (vCall (run G.M G.P (k + 1) 5) (aCons (vNm 0) (aCons (vCst (.int 8)) aNil))) [.ow b xs, .un] = some (.nx [.ow b x1, .fz (.int way)]) := by
    unfold sAsg
    rw [w4]
    rfl
  by_cases c1 : way < 4
  · obtain ⟨v, x2, v1, v2, v3, v4⟩ := draw0_of k (e := [.ow b x1, .fz (.int way)]) (b := b) (a := vCst (.int 40)) (size := 40) rfl w3 rfl (by decide) (by decide)
    refine ⟨v, x2, [.fz (.int way)], v1, by omega, v3, fin ?_⟩
    simp only [b__law_some, evB, evS, ev, evs, mkV, mkI]
    refine sSeq_nx s1 (sSeq_rt (sIte_t (e1 := [.ow b x1, .fz (.int way)]) (by simp only [List.getElem?_cons_zero, List.getElem?_cons_succ, List.set_cons_zero, List.set_cons_succ, List.replicate_succ, List.replicate_zero, List.cons_append, List.nil_append, x_vCst, x_vNm, x_vBin, x_vNeg, x_vBits, x_vCmp, x_vCmp2, x_vAnd, x_vOr, x_vNot, x_vIte, x_vTup, x_vLst, x_vIx, x_vSlF, x_vSlT, x_vSl, x_vRev, x_vCall, x_vBlt, x_vBlt2, x_vPop, x_vPopAt, x_fYes, x_vFz, x_vNo, x_tOf, x_tAnd, x_tOr, x_tNot, x_iOf, x_iNo, x_iRng1, x_iRng2, x_iRng3, x_iEnum, x_iZip, x_iRevd, x_aNil, x_aCons, x_dNil, x_dCons, x_sAsg, x_sAsgT, x_sPar, x_sSet, x_sAug, x_sAugS, x_sApp, x_sExt, x_sEx, x_sIte, x_sRet, x_sRetN, x_sBrk, x_sCont, x_sPass, x_sNo, x_sSeq, argsOf, argOf, locs, backs, nd0, nd1, store, put, frz, tgt, tgts, isOw, z_add, z_sub, z_xor, z_eq, z_ne, z_lt, z_le, z_gt, z_ge, z_dd, z_do, z_dl, z_tb, z_lenL, z_lenT, z_int, z_intB, z_abs, z_max, z_min, z_tupL, z_tupT, z_lstL, z_lstT, z_scr, ix0, ix1, ix2, ix3, ix4, ixn1, ixn2, ixn3, ixn4, decide_true, decide_false, if_true, if_false, Bool.false_eq_true, Bool.and_true, Bool.true_and, Bool.not_true, Bool.not_false, x_turnC, wipeE, back, x_sForB, x_forB, List.getD_cons_zero, List.getD_cons_succ, c1]) (sSeq_rt ?_)))
    unfold sRet
    rw [v4]
    rfl
  · by_cases c2 : way < 6
    · obtain ⟨v, x2, v1, v2, v3, v4⟩ := draw0_of k (e := [.ow b x1, .fz (.int way)]) (b := b) (a := vCst (.int 3000)) (size := 3000) rfl w3 rfl (by decide) (by decide)
      refine ⟨v, x2, [.fz (.int way)], v1, by omega, v3, fin ?_⟩
      simp only [b__law_some, evB, evS, ev, evs, mkV, mkI]
      refine sSeq_nx s1 (sSeq_nx (sIte_f (e1 := [.ow b x1, .fz (.int way)]) (by simp only [List.getElem?_cons_zero, List.getElem?_cons_succ, List.set_cons_zero, List.set_cons_succ, List.replicate_succ, List.replicate_zero, List.cons_append, List.nil_append, x_vCst, x_vNm, x_vBin, x_vNeg, x_vBits, x_vCmp, x_vCmp2, x_vAnd, x_vOr, x_vNot, x_vIte, x_vTup, x_vLst, x_vIx, x_vSlF, x_vSlT, x_vSl, x_vRev, x_vCall, x_vBlt, x_vBlt2, x_vPop, x_vPopAt, x_fYes, x_vFz, x_vNo, x_tOf, x_tAnd, x_tOr, x_tNot, x_iOf, x_iNo, x_iRng1, x_iRng2, x_iRng3, x_iEnum, x_iZip, x_iRevd, x_aNil, x_aCons, x_dNil, x_dCons, x_sAsg, x_sAsgT, x_sPar, x_sSet, x_sAug, x_sAugS, x_sApp, x_sExt, x_sEx, x_sIte, x_sRet, x_sRetN, x_sBrk, x_sCont, x_sPass, x_sNo, x_sSeq, argsOf, argOf, locs, backs, nd0, nd1, store, put, frz, tgt, tgts, isOw, z_add, z_sub, z_xor, z_eq, z_ne, z_lt, z_le, z_gt, z_ge, z_dd, z_do, z_dl, z_tb, z_lenL, z_lenT, z_int, z_intB, z_abs, z_max, z_min, z_tupL, z_tupT, z_lstL, z_lstT, z_scr, ix0, ix1, ix2, ix3, ix4, ixn1, ixn2, ixn3, ixn4, decide_true, decide_false, if_true, if_false, Bool.false_eq_true, Bool.and_true, Bool.true_and, Bool.not_true, Bool.not_false, x_turnC, wipeE, back, x_sForB, x_forB, List.getD_cons_zero, List.getD_cons_succ, c1]) rfl) (sSeq_rt (sIte_t (e1 := [.ow b x1, .fz (.int way)]) (by simp only [List.getElem?_cons_zero, List.getElem?_cons_succ, List.set_cons_zero, List.set_cons_succ, List.replicate_succ, List.replicate_zero, List.cons_append, List.nil_append, x_vCst, x_vNm, x_vBin, x_vNeg, x_vBits, x_vCmp, x_vCmp2, x_vAnd, x_vOr, x_vNot, x_vIte, x_vTup, x_vLst, x_vIx, x_vSlF, x_vSlT, x_vSl, x_vRev, x_vCall, x_vBlt, x_vBlt2, x_vPop, x_vPopAt, x_fYes, x_vFz, x_vNo, x_tOf, x_tAnd, x_tOr, x_tNot, x_iOf, x_iNo, x_iRng1, x_iRng2, x_iRng3, x_iEnum, x_iZip, x_iRevd, x_aNil, x_aCons, x_dNil, x_dCons, x_sAsg, x_sAsgT, x_sPar, x_sSet, x_sAug, x_sAugS, x_sApp, x_sExt, x_sEx, x_sIte, x_sRet, x_sRetN, x_sBrk, x_sCont, x_sPass, x_sNo, x_sSeq, argsOf, argOf, locs, backs, nd0, nd1, store, put, frz, tgt, tgts, isOw, z_add, z_sub, z_xor, z_eq, z_ne, z_lt, z_le, z_gt, z_ge, z_dd, z_do, z_dl, z_tb, z_lenL, z_lenT, z_int, z_intB, z_abs, z_max, z_min, z_tupL, z_tupT, z_lstL, z_lstT, z_scr, ix0, ix1, ix2, ix3, ix4, ixn1, ixn2, ixn3, ixn4, decide_true, decide_false, if_true, if_false, Bool.false_eq_true, Bool.and_true, Bool.true_and, Bool.not_true, Bool.not_false, x_turnC, wipeE, back, x_sForB, x_forB, List.getD_cons_zero, List.getD_cons_succ, c2]) (sSeq_rt ?_))))
      unfold sRet
      rw [v4]
      rfl
    · by_cases c3 : way = 6
      · obtain ⟨v, x2, v1, v2, v3, v4⟩ := draw0_of k (e := [.ow b x1, .fz (.int way)]) (b := b) (a := vBin .pow (vCst (.int 10)) (vCst (.int 6))) (size := 1000000) rfl w3 (by simp only [List.getElem?_cons_zero, List.getElem?_cons_succ, List.set_cons_zero, List.set_cons_succ, List.replicate_succ, List.replicate_zero, List.cons_append, List.nil_append, x_vCst, x_vNm, x_vBin, x_vNeg, x_vBits, x_vCmp, x_vCmp2, x_vAnd, x_vOr, x_vNot, x_vIte, x_vTup, x_vLst, x_vIx, x_vSlF, x_vSlT, x_vSl, x_vRev, x_vCall, x_vBlt, x_vBlt2, x_vPop, x_vPopAt, x_fYes, x_vFz, x_vNo, x_tOf, x_tAnd, x_tOr, x_tNot, x_iOf, x_iNo, x_iRng1, x_iRng2, x_iRng3, x_iEnum, x_iZip, x_iRevd, x_aNil, x_aCons, x_dNil, x_dCons, x_sAsg, x_sAsgT, x_sPar, x_sSet, x_sAug, x_sAugS, x_sApp, x_sExt, x_sEx, x_sIte, x_sRet, x_sRetN, x_sBrk, x_sCont, x_sPass, x_sNo, x_sSeq, argsOf, argOf, locs, backs, nd0, nd1, store, put, frz, tgt, tgts, isOw, z_add, z_sub, z_xor, z_eq, z_ne, z_lt, z_le, z_gt, z_ge, z_dd, z_do, z_dl, z_tb, z_lenL, z_lenT, z_int, z_intB, z_abs, z_max, z_min, z_tupL, z_tupT, z_lstL, z_lstT, z_scr, ix0, ix1, ix2, ix3, ix4, ixn1, ixn2, ixn3, ixn4, decide_true, decide_false, if_true, if_false, Bool.false_eq_true, Bool.and_true, Bool.true_and, Bool.not_true, Bool.not_false, x_turnC, wipeE, back, x_sForB, x_forB, List.getD_cons_zero, List.getD_cons_succ, zpow6]) (by decide) (by decide)
        refine ⟨v, x2, [.fz (.int way)], v1, by omega, v3, fin ?_⟩
        simp only [b__law_some, evB, evS, ev, evs, mkV, mkI]
        refine sSeq_nx s1 (sSeq_nx (sIte_f (e1 := [.ow b x1, .fz (.int way)]) (by simp only [List.getElem?_cons_zero, List.getElem?_cons_succ, List.set_cons_zero, List.set_cons_succ, List.replicate_succ, List.replicate_zero, List.cons_append, List.nil_append, x_vCst, x_vNm, x_vBin, x_vNeg, x_vBits, x_vCmp, x_vCmp2, x_vAnd, x_vOr, x_vNot, x_vIte, x_vTup, x_vLst, x_vIx, x_vSlF, x_vSlT, x_vSl, x_vRev, x_vCall, x_vBlt, x_vBlt2, x_vPop, x_vPopAt, x_fYes, x_vFz, x_vNo, x_tOf, x_tAnd, x_tOr, x_tNot, x_iOf, x_iNo, x_iRng1, x_iRng2, x_iRng3, x_iEnum, x_iZip, x_iRevd, x_aNil, x_aCons, x_dNil, x_dCons, x_sAsg, x_sAsgT, x_sPar, x_sSet, x_sAug, x_sAugS, x_sApp, x_sExt, x_sEx, x_sIte, x_sRet, x_sRetN, x_sBrk, x_sCont, x_sPass, x_sNo, x_sSeq, argsOf, argOf, locs, backs, nd0, nd1, store, put, frz, tgt, tgts, isOw, z_add, z_sub, z_xor, z_eq, z_ne, z_lt, z_le, z_gt, z_ge, z_dd, z_do, z_dl, z_tb, z_lenL, z_lenT, z_int, z_intB, z_abs, z_max, z_min, z_tupL, z_tupT, z_lstL, z_lstT, z_scr, ix0, ix1, ix2, ix3, ix4, ixn1, ixn2, ixn3, ixn4, decide_true, decide_false, if_true, if_false, Bool.false_eq_true, Bool.and_true, Bool.true_and, Bool.not_true, Bool.not_false, x_turnC, wipeE, back, x_sForB, x_forB, List.getD_cons_zero, List.getD_cons_succ, c1]) rfl) (sSeq_nx (sIte_f (e1 := [.ow b x1, .fz (.int way)]) (by simp only [List.getElem?_cons_zero, List.getElem?_cons_succ, List.set_cons_zero, List.set_cons_succ, List.replicate_succ, List.replicate_zero, List.cons_append, List.nil_append, x_vCst, x_vNm, x_vBin, x_vNeg, x_vBits, x_vCmp, x_vCmp2, x_vAnd, x_vOr, x_vNot, x_vIte, x_vTup, x_vLst, x_vIx, x_vSlF, x_vSlT, x_vSl, x_vRev, x_vCall, x_vBlt, x_vBlt2, x_vPop, x_vPopAt, x_fYes, x_vFz, x_vNo, x_tOf, x_tAnd, x_tOr, x_tNot, x_iOf, x_iNo, x_iRng1, x_iRng2, x_iRng3, x_iEnum, x_iZip, x_iRevd, x_aNil, x_aCons, x_dNil, x_dCons, x_sAsg, x_sAsgT, x_sPar, x_sSet, x_sAug, x_sAugS, x_sApp, x_sExt, x_sEx, x_sIte, x_sRet, x_sRetN, x_sBrk, x_sCont, x_sPass, x_sNo, x_sSeq, argsOf, argOf, locs, backs, nd0, nd1, store, put, frz, tgt, tgts, isOw, z_add, z_sub, z_xor, z_eq, z_ne, z_lt, z_le, z_gt, z_ge, z_dd, z_do, z_dl, z_tb, z_lenL, z_lenT, z_int, z_intB, z_abs, z_max, z_min, z_tupL, z_tupT, z_lstL, z_lstT, z_scr, ix0, ix1, ix2, ix3, ix4, ixn1, ixn2, ixn3, ixn4, decide_true, decide_false, if_true, if_false, Bool.false_eq_true, Bool.and_true, Bool.true_and, Bool.not_true, Bool.not_false, x_turnC, wipeE, back, x_sForB, x_forB, List.getD_cons_zero, List.getD_cons_succ, c2]) rfl) (sSeq_rt (sIte_t (e1 := [.ow b x1, .fz (.int way)]) (by simp only [List.getElem?_cons_zero, List.getElem?_cons_succ, List.set_cons_zero, List.set_cons_succ, List.replicate_succ, List.replicate_zero, List.cons_append, List.nil_append, x_vCst, x_vNm, x_vBin, x_vNeg, x_vBits, x_vCmp, x_vCmp2, x_vAnd, x_vOr, x_vNot, x_vIte, x_vTup, x_vLst, x_vIx, x_vSlF, x_vSlT, x_vSl, x_vRev, x_vCall, x_vBlt, x_vBlt2, x_vPop, x_vPopAt, x_fYes, x_vFz, x_vNo, x_tOf, x_tAnd, x_tOr, x_tNot, x_iOf, x_iNo, x_iRng1, x_iRng2, x_iRng3, x_iEnum, x_iZip, x_iRevd, x_aNil, x_aCons, x_dNil, x_dCons, x_sAsg, x_sAsgT, x_sPar, x_sSet, x_sAug, x_sAugS, x_sApp, x_sExt, x_sEx, x_sIte, x_sRet, x_sRetN, x_sBrk, x_sCont, x_sPass, x_sNo, x_sSeq, argsOf, argOf, locs, backs, nd0, nd1, store, put, frz, tgt, tgts, isOw, z_add, z_sub, z_xor, z_eq, z_ne, z_lt, z_le, z_gt, z_ge, z_dd, z_do, z_dl, z_tb, z_lenL, z_lenT, z_int, z_intB, z_abs, z_max, z_min, z_tupL, z_tupT, z_lstL, z_lstT, z_scr, ix0, ix1, ix2, ix3, ix4, ixn1, ixn2, ixn3, ixn4, decide_true, decide_false, if_true, if_false, Bool.false_eq_true, Bool.and_true, Bool.true_and, Bool.not_true, Bool.not_false, x_turnC, wipeE, back, x_sForB, x_forB, List.getD_cons_zero, List.getD_cons_succ, c3]) (sSeq_rt ?_)))))
        unfold sRet
        rw [v4]
        rfl
      · obtain ⟨v, x2, v1, v2, v3, v4⟩ := draw0_of k (e := [.ow b x1, .fz (.int way)]) (b := b) (a := vBin .pow (vCst (.int 10)) (vCst (.int 10))) (size := 10000000000) rfl w3 (by simp only [List.getElem?_cons_zero, List.getElem?_cons_succ, List.set_cons_zero, List.set_cons_succ, List.replicate_succ, List.replicate_zero, List.cons_append, List.nil_append, x_vCst, x_vNm, x_vBin, x_vNeg, x_vBits, x_vCmp, x_vCmp2, x_vAnd, x_vOr, x_vNot, x_vIte, x_vTup, x_vLst, x_vIx, x_vSlF, x_vSlT, x_vSl, x_vRev, x_vCall, x_vBlt, x_vBlt2, x_vPop, x_vPopAt, x_fYes, x_vFz, x_vNo, x_tOf, x_tAnd, x_tOr, x_tNot, x_iOf, x_iNo, x_iRng1, x_iRng2, x_iRng3, x_iEnum, x_iZip, x_iRevd, x_aNil, x_aCons, x_dNil, x_dCons, x_sAsg, x_sAsgT, x_sPar, x_sSet, x_sAug, x_sAugS, x_sApp, x_sExt, x_sEx, x_sIte, x_sRet, x_sRetN, x_sBrk, x_sCont, x_sPass, x_sNo, x_sSeq, argsOf, argOf, locs, backs, nd0, nd1, store, put, frz, tgt, tgts, isOw, z_add, z_sub, z_xor, z_eq, z_ne, z_lt, z_le, z_gt, z_ge, z_dd, z_do, z_dl, z_tb, z_lenL, z_lenT, z_int, z_intB, z_abs, z_max, z_min, z_tupL, z_tupT, z_lstL, z_lstT, z_scr, ix0, ix1, ix2, ix3, ix4, ixn1, ixn2, ixn3, ixn4, decide_true, decide_false, if_true, if_false, Bool.false_eq_true, Bool.and_true, Bool.true_and, Bool.not_true, Bool.not_false, x_turnC, wipeE, back, x_sForB, x_forB, List.getD_cons_zero, List.getD_cons_succ, zpow10]) (by decide) (by decide)
        refine ⟨v, x2, [.fz (.int way)], v1, by omega, v3, fin ?_⟩
        simp only [b__law_some, evB, evS, ev, evs, mkV, mkI]
        refine sSeq_nx s1 (sSeq_nx (sIte_f (e1 := [.ow b x1, .fz (.int way)]) (by simp only [List.getElem?_cons_zero, List.getElem?_cons_succ, List.set_cons_zero, List.set_cons_succ, List.replicate_succ, List.replicate_zero, List.cons_append, List.nil_append, x_vCst, x_vNm, x_vBin, x_vNeg, x_vBits, x_vCmp, x_vCmp2, x_vAnd, x_vOr, x_vNot, x_vIte, x_vTup, x_vLst, x_vIx, x_vSlF, x_vSlT, x_vSl, x_vRev, x_vCall, x_vBlt, x_vBlt2, x_vPop, x_vPopAt, x_fYes, x_vFz, x_vNo, x_tOf, x_tAnd, x_tOr, x_tNot, x_iOf, x_iNo, x_iRng1, x_iRng2, x_iRng3, x_iEnum, x_iZip, x_iRevd, x_aNil, x_aCons, x_dNil, x_dCons, x_sAsg, x_sAsgT, x_sPar, x_sSet, x_sAug, x_sAugS, x_sApp, x_sExt, x_sEx, x_sIte, x_sRet, x_sRetN, x_sBrk, x_sCont, x_sPass, x_sNo, x_sSeq, argsOf, argOf, locs, backs, nd0, nd1, store, put, frz, tgt, tgts, isOw, z_add, z_sub, z_xor, z_eq, z_ne, z_lt, z_le, z_gt, z_ge, z_dd, z_do, z_dl, z_tb, z_lenL, z_lenT, z_int, z_intB, z_abs, z_max, z_min, z_tupL, z_tupT, z_lstL, z_lstT, z_scr, ix0, ix1, ix2, ix3, ix4, ixn1, ixn2, ixn3, ixn4, decide_true, decide_false, if_true, if_false, Bool.false_eq_true, Bool.and_true, Bool.true_and, Bool.not_true, Bool.not_false, x_turnC, wipeE, back, x_sForB, x_forB, List.getD_cons_zero, List.getD_cons_succ, c1]) rfl) (sSeq_nx (sIte_f (e1 := [.ow b x1, .fz (.int way)]) (by simp only [List.getElem?_cons_zero, List.getElem?_cons_succ, List.set_cons_zero, List.set_cons_succ, List.replicate_succ, List.replicate_zero, List.cons_append, List.nil_append, x_vCst, x_vNm, x_vBin, x_vNeg, x_vBits, x_vCmp, x_vCmp2, x_vAnd, x_vOr, x_vNot, x_vIte, x_vTup, x_vLst, x_vIx, x_vSlF, x_vSlT, x_vSl, x_vRev, x_vCall, x_vBlt, x_vBlt2, x_vPop, x_vPopAt, x_fYes, x_vFz, x_vNo, x_tOf, x_tAnd, x_tOr, x_tNot, x_iOf, x_iNo, x_iRng1, x_iRng2, x_iRng3, x_iEnum, x_iZip, x_iRevd, x_aNil, x_aCons, x_dNil, x_dCons, x_sAsg, x_sAsgT, x_sPar, x_sSet, x_sAug, x_sAugS, x_sApp, x_sExt, x_sEx, x_sIte, x_sRet, x_sRetN, x_sBrk, x_sCont, x_sPass, x_sNo, x_sSeq, argsOf, argOf, locs, backs, nd0, nd1, store, put, frz, tgt, tgts, isOw, z_add, z_sub, z_xor, z_eq, z_ne, z_lt, z_le, z_gt, z_ge, z_dd, z_do, z_dl, z_tb, z_lenL, z_lenT, z_int, z_intB, z_abs, z_max, z_min, z_tupL, z_tupT, z_lstL, z_lstT, z_scr, ix0, ix1, ix2, ix3, ix4, ixn1, ixn2, ixn3, ixn4, decide_true, decide_false, if_true, if_false, Bool.false_eq_true, Bool.and_true, Bool.true_and, Bool.not_true, Bool.not_false, x_turnC, wipeE, back, x_sForB, x_forB, List.getD_cons_zero, List.getD_cons_succ, c2]) rfl) (sSeq_nx (sIte_f (e1 := [.ow b x1, .fz (.int way)]) (by simp only [List.getElem?_cons_zero, List.getElem?_cons_succ, List.set_cons_zero, List.set_cons_succ, List.replicate_succ, List.replicate_zero, List.cons_append, List.nil_append, x_vCst, x_vNm, x_vBin, x_vNeg, x_vBits, x_vCmp, x_vCmp2, x_vAnd, x_vOr, x_vNot, x_vIte, x_vTup, x_vLst, x_vIx, x_vSlF, x_vSlT, x_vSl, x_vRev, x_vCall, x_vBlt, x_vBlt2, x_vPop, x_vPopAt, x_fYes, x_vFz, x_vNo, x_tOf, x_tAnd, x_tOr, x_tNot, x_iOf, x_iNo, x_iRng1, x_iRng2, x_iRng3, x_iEnum, x_iZip, x_iRevd, x_aNil, x_aCons, x_dNil, x_dCons, x_sAsg, x_sAsgT, x_sPar, x_sSet, x_sAug, x_sAugS, x_sApp, x_sExt, x_sEx, x_sIte, x_sRet, x_sRetN, x_sBrk, x_sCont, x_sPass, x_sNo, x_sSeq, argsOf, argOf, locs, backs, nd0, nd1, store, put, frz, tgt, tgts, isOw, z_add, z_sub, z_xor, z_eq, z_ne, z_lt, z_le, z_gt, z_ge, z_dd, z_do, z_dl, z_tb, z_lenL, z_lenT, z_int, z_intB, z_abs, z_max, z_min, z_tupL, z_tupT, z_lstL, z_lstT, z_scr, ix0, ix1, ix2, ix3, ix4, ixn1, ixn2, ixn3, ixn4, decide_true, decide_false, if_true, if_false, Bool.false_eq_true, Bool.and_true, Bool.true_and, Bool.not_true, Bool.not_false, x_turnC, wipeE, back, x_sForB, x_forB, List.getD_cons_zero, List.getD_cons_succ, c3]) rfl) (sSeq_rt ?_))))
        unfold sRet
        rw [v4]
        rfl
theorem sign_ok (k : Nat) (b : Bool) {xs : List Dt} (hp : PoolOk xs) {n : Int} (hn : n.natAbs < 2 ^ 400) : ∃ v xs' tl, v.natAbs = n.natAbs ∧ PoolOk xs' ∧ run G.M G.P (k + 2) 15 [.ow b xs, .fz (.int n)] = some (.d (.int v), .ow b xs' :: .fz (.int n) :: tl) := by
  obtain ⟨w, x1, w1, w2, w3, w4⟩ := draw0_of k (e := [.ow b xs, .fz (.int n)]) (b := b) (a := vCst (.int 2)) (size := 2) rfl hp rfl (by decide) (by decide)
  have hlog := log2_lt hn (by decide)
  have m1 : mulOk 2 w = true := by
    rcases (show w = 0 ∨ w = 1 by omega) with rfl | rfl <;> decide +kernel
  have m2 : mulOk n (1 - 2 * w) = true := by
    unfold mulOk
    have : (1 - 2 * w).natAbs = 1 := by omega
    rw [this]
    have h1 : (1 : Nat).log2 = 0 := by decide +kernel
    rw [h1]
    exact decide_eq_true (by omega)
  refine ⟨n * (1 - 2 * w), x1, [], ?_, w3, ?_⟩
  · rw [Int.natAbs_mul, show (1 - 2 * w).natAbs = 1 by omega, Nat.mul_one]
  · show runD (run G.M G.P (k + 1)) G.M ⟨"_law_sign", 2, 2, b__law_sign⟩ [.ow b xs, .fz (.int n)] = _
    refine runD_d [.ow b xs, .fz (.int n)] rfl rfl ?_
    show evB _ _ b__law_sign _ = _
    simp only [b__law_sign, evB, evS, ev, evs, mkV, mkI]
    have key : vBin Bop.mul (vNm 1) (vBin Bop.sub (vCst (.int 1)) (vBin Bop.mul (vCst (.int 2)) (vCall (run G.M G.P (k + 1) 5) (aCons (vNm 0) (aCons (vCst (.int 2)) aNil))))) [.ow b xs, .fz (.int n)] = some (.d (.int (n * (1 - 2 * w))), [.ow b x1, .fz (.int n)]) :=
      mul_of (nm_fz rfl) (sub_of rfl (mul_of rfl w4 m1)) m2
    refine sSeq_rt ?_
    unfold sRet
    rw [key]
theorem huge_ok (k : Nat) (b : Bool) {xs : List Dt} (hp : PoolOk xs) : ∃ v xs' tl, v.natAbs < 2 ^ 139 ∧ PoolOk xs' ∧ run G.M G.P (k + 3) 16 [.ow b xs] = some (.d (.int v), .ow b xs' :: tl) := by
  have hb : vBin .pow (vCst (.int 10)) (vCst (.int 20)) = vBin .pow (vCst (.int 10)) (vCst (.int 20)) := rfl
  have ha : ∀ e : En, vBin .pow (vCst (.int 10)) (vCst (.int 20)) e = some (.d (.int 100000000000000000000), e) := fun e => by simp only [List.getElem?_cons_zero, List.getElem?_cons_succ, List.set_cons_zero, List.set_cons_succ, List.replicate_succ, List.replicate_zero, List.cons_append, List.nil_append, x_vCst, x_vNm, x_vBin, x_vNeg, x_vBits, x_vCmp, x_vCmp2, x_vAnd, x_vOr, x_vNot, x_vIte, x_vTup, x_vLst, x_vIx, x_vSlF, x_vSlT, x_vSl, x_vRev, x_vCall, x_vBlt, x_vBlt2, x_vPop, x_vPopAt, x_fYes, x_vFz, x_vNo, x_tOf, x_tAnd, x_tOr, x_tNot, x_iOf, x_iNo, x_iRng1, x_iRng2, x_iRng3, x_iEnum, x_iZip, x_iRevd, x_aNil, x_aCons, x_dNil, x_dCons, x_sAsg, x_sAsgT, x_sPar, x_sSet, x_sAug, x_sAugS, x_sApp, x_sExt, x_sEx, x_sIte, x_sRet, x_sRetN, x_sBrk, x_sCont, x_sPass, x_sNo, x_sSeq, argsOf, argOf, locs, backs, nd0, nd1, store, put, frz, tgt, tgts, isOw, z_add, z_sub, z_xor, z_eq, z_ne, z_lt, z_le, z_gt, z_ge, z_dd, z_do, z_dl, z_tb, z_lenL, z_lenT, z_int, z_intB, z_abs, z_max, z_min, z_tupL, z_tupT, z_lstL, z_lstT, z_scr, ix0, ix1, ix2, ix3, ix4, ixn1, ixn2, ixn3, ixn4, decide_true, decide_false, if_true, if_false, Bool.false_eq_true, Bool.and_true, Bool.true_and, Bool.not_true, Bool.not_false, x_turnC, wipeE, back, x_sForB, x_forB, List.getD_cons_zero, List.getD_cons_succ, zpow20]
  obtain ⟨u, x1, u1, u2, u3, u4⟩ := draw0_of (k + 1) (e := [.ow b xs]) (b := b) (a := vBin .pow (vCst (.int 10)) (vCst (.int 20))) (size := 100000000000000000000) rfl hp (ha _) (by decide) (by decide)
  obtain ⟨v, x2, v1, v2, v3, v4⟩ := draw0_of (k + 1) (e := [.ow b x1]) (b := b) (a := vBin .pow (vCst (.int 10)) (vCst (.int 20))) (size := 100000000000000000000) rfl u3 (ha _) (by decide) (by decide)
  obtain ⟨w, x3, w1, w2, w3, w4⟩ := draw0_of (k + 1) (e := [.ow b x2]) (b := b) (a := vBin .pow (vCst (.int 10)) (vCst (.int 20))) (size := 100000000000000000000) rfl v3 (ha _) (by decide) (by decide)
  have hm : mulOk u v = true := mul_ok (Nat.lt_of_lt_of_le (show u.natAbs < 2 ^ 70 by omega) (Nat.pow_le_pow_right (by decide) (by decide))) (Nat.lt_of_lt_of_le (show v.natAbs < 2 ^ 70 by omega) (Nat.pow_le_pow_right (by decide) (by decide)))
  have hbound : (u * v + w).natAbs < 2 ^ 139 := by
    have h1 : u * v ≤ 99999999999999999999 * 99999999999999999999 := Int.mul_le_mul (by omega) (by omega) v1 (by omega)
    have h2 : 0 ≤ u * v := Int.mul_nonneg u1 v1
    omega
  obtain ⟨z, x4, tl, z1, z2, z3⟩ := sign_ok k true w3 (n := u * v + w) (Nat.lt_of_lt_of_le hbound (Nat.pow_le_pow_right (by decide) (by decide)))
  refine ⟨z, x4, [], by rw [z1]; exact hbound, z2, ?_⟩
  show runD (run G.M G.P (k + 2)) G.M ⟨"_law_huge", 1, 1, b__law_huge⟩ [.ow b xs] = _
  refine runD_d [.ow b xs] rfl rfl ?_
  show evB _ _ b__law_huge _ = _
  simp only [b__law_huge, evB, evS, ev, evs, mkV, mkI]
  have key := add_of (mul_of u4 v4 hm) w4
  refine sSeq_rt ?_
  have key2 : vCall (run G.M G.P (k + 2) 15) (aCons (vNm 0) (aCons (vBin Bop.add (vBin Bop.mul (vCall (run G.M G.P (k + 2) 5) (aCons (vNm 0) (aCons (vBin .pow (vCst (.int 10)) (vCst (.int 20))) aNil))) (vCall (run G.M G.P (k + 2) 5) (aCons (vNm 0) (aCons (vBin .pow (vCst (.int 10)) (vCst (.int 20))) aNil)))) (vCall (run G.M G.P (k + 2) 5) (aCons (vNm 0) (aCons (vBin .pow (vCst (.int 10)) (vCst (.int 20))) aNil)))) aNil)) [.ow b xs] = some (.d (.int z), [.ow b x4]) := by
    generalize vBin Bop.add (vBin Bop.mul (vCall (run G.M G.P (k + 2) 5) (aCons (vNm 0) (aCons (vBin .pow (vCst (.int 10)) (vCst (.int 20))) aNil))) (vCall (run G.M G.P (k + 2) 5) (aCons (vNm 0) (aCons (vBin .pow (vCst (.int 10)) (vCst (.int 20))) aNil)))) (vCall (run G.M G.P (k + 2) 5) (aCons (vNm 0) (aCons (vBin .pow (vCst (.int 10)) (vCst (.int 20))) aNil))) = E at key
    have key' : E [.ow b xs] = some (.d (.int (u * v + w)), [.ow b x3]) := key
    simp only [List.getElem?_cons_zero, List.getElem?_cons_succ, List.set_cons_zero, List.set_cons_succ, List.replicate_succ, List.replicate_zero, List.cons_append, List.nil_append, x_vCst, x_vNm, x_vBin, x_vNeg, x_vBits, x_vCmp, x_vCmp2, x_vAnd, x_vOr, x_vNot, x_vIte, x_vTup, x_vLst, x_vIx, x_vSlF, x_vSlT, x_vSl, x_vRev, x_vCall, x_vBlt, x_vBlt2, x_vPop, x_vPopAt, x_fYes, x_vFz, x_vNo, x_tOf, x_tAnd, x_tOr, x_tNot, x_iOf, x_iNo, x_iRng1, x_iRng2, x_iRng3, x_iEnum, x_iZip, x_iRevd, x_aNil, x_aCons, x_dNil, x_dCons, x_sAsg, x_sAsgT, x_sPar, x_sSet, x_sAug, x_sAugS, x_sApp, x_sExt, x_sEx, x_sIte, x_sRet, x_sRetN, x_sBrk, x_sCont, x_sPass, x_sNo, x_sSeq, argsOf, argOf, locs, backs, nd0, nd1, store, put, frz, tgt, tgts, isOw, z_add, z_sub, z_xor, z_eq, z_ne, z_lt, z_le, z_gt, z_ge, z_dd, z_do, z_dl, z_tb, z_lenL, z_lenT, z_int, z_intB, z_abs, z_max, z_min, z_tupL, z_tupT, z_lstL, z_lstT, z_scr, ix0, ix1, ix2, ix3, ix4, ixn1, ixn2, ixn3, ixn4, decide_true, decide_false, if_true, if_false, Bool.false_eq_true, Bool.and_true, Bool.true_and, Bool.not_true, Bool.not_false, x_turnC, wipeE, back, x_sForB, x_forB, List.getD_cons_zero, List.getD_cons_succ, key', z3]
  unfold sRet
  rw [key2]
end Lawk83
end

section
set_option maxHeartbeats 4000000
set_option exponentiation.threshold 500000
namespace Lawk83
open PySem De

/-! ### the law's slots -/
structure St (e : En) (xs : List Dt) : Prop where
  len : e.length = 20
  pool : e[1]? = some (.ow false xs)
  ok : PoolOk xs
  u3 : e[3]? = some .un
  u4 : e[4]? = some .un
  u5 : e[5]? = some .un
  u19 : e[19]? = some .un
  np : ∀ (i : Nat) (ys : List Dt), e[i]? ≠ some (.ow true ys)
theorem g_ne {e : En} {i j : Nat} {s t : Sv} (h : e[j]? = some t) (hij : i ≠ j) : (e.set i s)[j]? = some t := by
  rw [List.getElem?_set_ne hij]
  exact h
theorem g_eq {e : En} {i : Nat} {s : Sv} (h : i < e.length) : (e.set i s)[i]? = some s := List.getElem?_set_self h
theorem St.set {e : En} {xs : List Dt} (h : St e xs) {i : Nat} {s : Sv} (hi : i ≠ 1 ∧ i ≠ 3 ∧ i ≠ 4 ∧ i ≠ 5 ∧ i ≠ 19) (hs : ∀ ys, s ≠ .ow true ys) : St (e.set i s) xs where
  len := by rw [List.length_set]; exact h.len
  pool := g_ne h.pool hi.1
  ok := h.ok
  u3 := g_ne h.u3 hi.2.1
  u4 := g_ne h.u4 hi.2.2.1
  u5 := g_ne h.u5 hi.2.2.2.1
  u19 := g_ne h.u19 hi.2.2.2.2
  np := fun j ys z => by
    rcases getSet z with ⟨_, z⟩ | ⟨_, z⟩
    · exact hs ys z.symm
    · exact h.np j ys z
theorem St.draw {e : En} {xs xs' : List Dt} (h : St e xs) (hp : PoolOk xs') : St (e.set 1 (.ow false xs')) xs' where
  len := by rw [List.length_set]; exact h.len
  pool := g_eq (by rw [h.len]; decide)
  ok := hp
  u3 := g_ne h.u3 (by decide)
  u4 := g_ne h.u4 (by decide)
  u5 := g_ne h.u5 (by decide)
  u19 := g_ne h.u19 (by decide)
  np := fun j ys z => by
    rcases getSet z with ⟨_, z⟩ | ⟨_, z⟩
    · cases z
    · exact h.np j ys z
theorem put_of {e : En} (np : ∀ (i : Nat) (ys : List Dt), e[i]? ≠ some (.ow true ys)) {i : Nat} {s : Sv} (h : i < e.length) : put e i s = some (e.set i s) := by
  unfold put
  have hg := List.getElem?_eq_getElem h
  split
  · rename_i ys z
    exact absurd z (np i ys)
  · rfl
  · rename_i z
    rw [hg] at z
    cases z
theorem asg_d {e e1 : En} {i : Nat} {a : FV} {d : Dt} (ha : a e = some (.d d, e1)) (np : ∀ (i : Nat) (ys : List Dt), e1[i]? ≠ some (.ow true ys)) (h : i < e1.length) : sAsg i a e = some (.nx (e1.set i (.fz d))) := by
  unfold sAsg
  rw [ha]
  show (match put e1 i (.fz d) with
    | some e2 => some (Fl.nx e2)
    | none => none) = _
  rw [put_of np h]
theorem asg_own {e e1 : En} {i : Nat} {a : FV} {d : List Dt} (ha : a e = some (.own d, e1)) (np : ∀ (i : Nat) (ys : List Dt), e1[i]? ≠ some (.ow true ys)) (h : i < e1.length) : sAsg i a e = some (.nx (e1.set i (.ow false d))) := by
  unfold sAsg
  rw [ha]
  show (match put e1 i (.ow false d) with
    | some e2 => some (Fl.nx e2)
    | none => none) = _
  rw [put_of np h]
theorem set_same {e : En} {i : Nat} (h : e[i]? = some .un) : e.set i .un = e := by
  apply List.ext_getElem?
  intro j
  by_cases q : i = j
  · subst q
    rw [List.getElem?_set_self (List.getElem?_eq_some_iff.mp h).1, h]
  · rw [List.getElem?_set_ne q]
theorem comp1 {e : En} {i : Nat} {elt : FV} {c : FT} {it : FI} {ds ys : List Dt} (hu : e[i]? = some .un) (hit : it e = some (ds, e)) (hc : compL (turnC elt [i] (.nm i) c) ds e = some (ys, e)) (hs : small ys = true) : vComp elt [i] (.nm i) it c e = some (.own ys, e) := by
  have hw : wipeE e [i] = e := set_same hu
  have hg : e.getD i .un = .un := by rw [List.getD_eq_getElem?_getD, hu]; rfl
  have hb : back e e [i] = e := by
    show e.set i (e.getD i .un) = e
    rw [hg]
    exact set_same hu
  have ho : ownOk e [i] = true := by
    unfold ownOk
    rw [List.all_cons, hu]
    rfl
  unfold vComp
  rw [hit]
  simp only [hw, hc, hs, ho, Bool.and_true, if_true, hb]
theorem turn1 {e : En} {i : Nat} {elt : FV} {c : FT} {d y : Dt} (hu : e[i]? = some .un) (hc : c (e.set i (.fz d)) = some (true, e.set i (.fz d))) (he : elt (e.set i (.fz d)) = some (.d y, e.set i (.fz d))) : turnC elt [i] (.nm i) c d e = some ([y], e) := by
  have hp : put e i (.fz d) = some (e.set i (.fz d)) := by
    unfold put
    rw [hu]
  have hw : wipeE (e.set i (.fz d)) [i] = e := by
    show (e.set i (.fz d)).set i .un = e
    rw [List.set_set]
    exact set_same hu
  rw [x_turnC]
  simp only [tgt, hp, hc, he, frz, hw]
theorem turn0 {e : En} {i : Nat} {elt : FV} {c : FT} {d : Dt} (hu : e[i]? = some .un) (hc : c (e.set i (.fz d)) = some (false, e.set i (.fz d))) : turnC elt [i] (.nm i) c d e = some ([], e) := by
  have hp : put e i (.fz d) = some (e.set i (.fz d)) := by
    unfold put
    rw [hu]
  have hw : wipeE (e.set i (.fz d)) [i] = e := by
    show (e.set i (.fz d)).set i .un = e
    rw [List.set_set]
    exact set_same hu
  rw [x_turnC]
  simp only [tgt, hp, hc, hw]
theorem compL_rngF {f : Dt → En → Option (List Dt × En)} {e0 : En} {ψ : Nat → List Dt} : ∀ (n i : Nat), (∀ j, i ≤ j → j < i + n → f (.int (j : Int)) e0 = some (ψ j, e0)) → compL f (rngL 0 1 i n) e0 = some ((List.range' i n).flatMap ψ, e0)
  | 0, _, _ => rfl
  | n + 1, i, h => by
    have e : rngL 0 1 i (n + 1) = .int (i : Int) :: rngL 0 1 (i + 1) n := by
      show PyData.int (0 + (i : Int) * 1) :: _ = _
      rw [Int.mul_one, Int.zero_add]
    rw [e, compL, h i (Nat.le_refl _) (by omega)]
    show (match compL f (rngL 0 1 (i + 1) n) e0 with
      | some (zs, e2) => some (ψ i ++ zs, e2)
      | none => none) = _
    rw [compL_rngF n (i + 1) fun j h1 h2 => h j (by omega) (by omega), List.range'_succ, List.flatMap_cons]
theorem rng1_of {a : FV} {e e1 : En} {n : Nat} (ha : a e = some (.d (.int (n : Int)), e1)) (h : n < 1000000) : iRng1 a e = some (rngL 0 1 0 n, e1) := by
  unfold iRng1
  rw [ha]
  show (if rngOk (n : Int) then some (rngL 0 1 0 (n : Int).toNat, e1) else none) = _
  rw [if_pos (rng_ok h), Int.toNat_natCast]
/-! ### tests -/
theorem tcmp_of {op : Cop} {a b : FV} {e e1 e2 : En} {x y : Dt} {k : Bool} (ha : a e = some (.d x, e1)) (hb : b e1 = some (.d y, e2)) (h : cop op x y = some k) : tOf (vCmp op a b) e = some (k, e2) := by
  simp only [List.getElem?_cons_zero, List.getElem?_cons_succ, List.set_cons_zero, List.set_cons_succ, List.replicate_succ, List.replicate_zero, List.cons_append, List.nil_append, x_vCst, x_vNm, x_vBin, x_vNeg, x_vBits, x_vCmp, x_vCmp2, x_vAnd, x_vOr, x_vNot, x_vIte, x_vTup, x_vLst, x_vIx, x_vSlF, x_vSlT, x_vSl, x_vRev, x_vCall, x_vBlt, x_vBlt2, x_vPop, x_vPopAt, x_fYes, x_vFz, x_vNo, x_tOf, x_tAnd, x_tOr, x_tNot, x_iOf, x_iNo, x_iRng1, x_iRng2, x_iRng3, x_iEnum, x_iZip, x_iRevd, x_aNil, x_aCons, x_dNil, x_dCons, x_sAsg, x_sAsgT, x_sPar, x_sSet, x_sAug, x_sAugS, x_sApp, x_sExt, x_sEx, x_sIte, x_sRet, x_sRetN, x_sBrk, x_sCont, x_sPass, x_sNo, x_sSeq, argsOf, argOf, locs, backs, nd0, nd1, store, put, frz, tgt, tgts, isOw, z_add, z_sub, z_xor, z_eq, z_ne, z_lt, z_le, z_gt, z_ge, z_dd, z_do, z_dl, z_tb, z_lenL, z_lenT, z_int, z_intB, z_abs, z_max, z_min, z_tupL, z_tupT, z_lstL, z_lstT, z_scr, ix0, ix1, ix2, ix3, ix4, ixn1, ixn2, ixn3, ixn4, decide_true, decide_false, if_true, if_false, Bool.false_eq_true, Bool.and_true, Bool.true_and, Bool.not_true, Bool.not_false, x_turnC, wipeE, back, x_sForB, x_forB, List.getD_cons_zero, List.getD_cons_succ, ha, hb, h]
theorem vcmp_of {op : Cop} {a b : FV} {e e1 e2 : En} {x y : Dt} {k : Bool} (ha : a e = some (.d x, e1)) (hb : b e1 = some (.d y, e2)) (h : cop op x y = some k) : vCmp op a b e = some (.d (.bool k), e2) := by
  simp only [List.getElem?_cons_zero, List.getElem?_cons_succ, List.set_cons_zero, List.set_cons_succ, List.replicate_succ, List.replicate_zero, List.cons_append, List.nil_append, x_vCst, x_vNm, x_vBin, x_vNeg, x_vBits, x_vCmp, x_vCmp2, x_vAnd, x_vOr, x_vNot, x_vIte, x_vTup, x_vLst, x_vIx, x_vSlF, x_vSlT, x_vSl, x_vRev, x_vCall, x_vBlt, x_vBlt2, x_vPop, x_vPopAt, x_fYes, x_vFz, x_vNo, x_tOf, x_tAnd, x_tOr, x_tNot, x_iOf, x_iNo, x_iRng1, x_iRng2, x_iRng3, x_iEnum, x_iZip, x_iRevd, x_aNil, x_aCons, x_dNil, x_dCons, x_sAsg, x_sAsgT, x_sPar, x_sSet, x_sAug, x_sAugS, x_sApp, x_sExt, x_sEx, x_sIte, x_sRet, x_sRetN, x_sBrk, x_sCont, x_sPass, x_sNo, x_sSeq, argsOf, argOf, locs, backs, nd0, nd1, store, put, frz, tgt, tgts, isOw, z_add, z_sub, z_xor, z_eq, z_ne, z_lt, z_le, z_gt, z_ge, z_dd, z_do, z_dl, z_tb, z_lenL, z_lenT, z_int, z_intB, z_abs, z_max, z_min, z_tupL, z_tupT, z_lstL, z_lstT, z_scr, ix0, ix1, ix2, ix3, ix4, ixn1, ixn2, ixn3, ixn4, decide_true, decide_false, if_true, if_false, Bool.false_eq_true, Bool.and_true, Bool.true_and, Bool.not_true, Bool.not_false, x_turnC, wipeE, back, x_sForB, x_forB, List.getD_cons_zero, List.getD_cons_succ, ha, hb, h]
theorem tcmp_oo {op : Cop} {a b : FV} {e e1 e2 : En} {x y : List Dt} {k : Bool} (ha : a e = some (.own x, e1)) (hb : b e1 = some (.own y, e2)) (h : cop op (.list x) (.list y) = some k) : tOf (vCmp op a b) e = some (k, e2) := by
  simp only [List.getElem?_cons_zero, List.getElem?_cons_succ, List.set_cons_zero, List.set_cons_succ, List.replicate_succ, List.replicate_zero, List.cons_append, List.nil_append, x_vCst, x_vNm, x_vBin, x_vNeg, x_vBits, x_vCmp, x_vCmp2, x_vAnd, x_vOr, x_vNot, x_vIte, x_vTup, x_vLst, x_vIx, x_vSlF, x_vSlT, x_vSl, x_vRev, x_vCall, x_vBlt, x_vBlt2, x_vPop, x_vPopAt, x_fYes, x_vFz, x_vNo, x_tOf, x_tAnd, x_tOr, x_tNot, x_iOf, x_iNo, x_iRng1, x_iRng2, x_iRng3, x_iEnum, x_iZip, x_iRevd, x_aNil, x_aCons, x_dNil, x_dCons, x_sAsg, x_sAsgT, x_sPar, x_sSet, x_sAug, x_sAugS, x_sApp, x_sExt, x_sEx, x_sIte, x_sRet, x_sRetN, x_sBrk, x_sCont, x_sPass, x_sNo, x_sSeq, argsOf, argOf, locs, backs, nd0, nd1, store, put, frz, tgt, tgts, isOw, z_add, z_sub, z_xor, z_eq, z_ne, z_lt, z_le, z_gt, z_ge, z_dd, z_do, z_dl, z_tb, z_lenL, z_lenT, z_int, z_intB, z_abs, z_max, z_min, z_tupL, z_tupT, z_lstL, z_lstT, z_scr, ix0, ix1, ix2, ix3, ix4, ixn1, ixn2, ixn3, ixn4, decide_true, decide_false, if_true, if_false, Bool.false_eq_true, Bool.and_true, Bool.true_and, Bool.not_true, Bool.not_false, x_turnC, wipeE, back, x_sForB, x_forB, List.getD_cons_zero, List.getD_cons_succ, ha, hb, h]
theorem tcmp_do {op : Cop} {a b : FV} {e e1 e2 : En} {x : Dt} {y : List Dt} {k : Bool} (ha : a e = some (.d x, e1)) (hb : b e1 = some (.own y, e2)) (h : cop op x (.list y) = some k) : tOf (vCmp op a b) e = some (k, e2) := by
  simp only [List.getElem?_cons_zero, List.getElem?_cons_succ, List.set_cons_zero, List.set_cons_succ, List.replicate_succ, List.replicate_zero, List.cons_append, List.nil_append, x_vCst, x_vNm, x_vBin, x_vNeg, x_vBits, x_vCmp, x_vCmp2, x_vAnd, x_vOr, x_vNot, x_vIte, x_vTup, x_vLst, x_vIx, x_vSlF, x_vSlT, x_vSl, x_vRev, x_vCall, x_vBlt, x_vBlt2, x_vPop, x_vPopAt, x_fYes, x_vFz, x_vNo, x_tOf, x_tAnd, x_tOr, x_tNot, x_iOf, x_iNo, x_iRng1, x_iRng2, x_iRng3, x_iEnum, x_iZip, x_iRevd, x_aNil, x_aCons, x_dNil, x_dCons, x_sAsg, x_sAsgT, x_sPar, x_sSet, x_sAug, x_sAugS, x_sApp, x_sExt, x_sEx, x_sIte, x_sRet, x_sRetN, x_sBrk, x_sCont, x_sPass, x_sNo, x_sSeq, argsOf, argOf, locs, backs, nd0, nd1, store, put, frz, tgt, tgts, isOw, z_add, z_sub, z_xor, z_eq, z_ne, z_lt, z_le, z_gt, z_ge, z_dd, z_do, z_dl, z_tb, z_lenL, z_lenT, z_int, z_intB, z_abs, z_max, z_min, z_tupL, z_tupT, z_lstL, z_lstT, z_scr, ix0, ix1, ix2, ix3, ix4, ixn1, ixn2, ixn3, ixn4, decide_true, decide_false, if_true, if_false, Bool.false_eq_true, Bool.and_true, Bool.true_and, Bool.not_true, Bool.not_false, x_turnC, wipeE, back, x_sForB, x_forB, List.getD_cons_zero, List.getD_cons_succ, ha, hb, h]
theorem tor_f {a b : FT} {e e1 e2 : En} {k : Bool} (ha : a e = some (false, e1)) (hb : b e1 = some (k, e2)) : tOr a b e = some (k, e2) := by
  unfold tOr
  rw [ha]
  exact hb
theorem cat_of {a b : FV} {e e1 e2 : En} {x y : List Dt} (ha : a e = some (.d (.tuple x), e1)) (hb : b e1 = some (.d (.tuple y), e2)) (h : x.length + y.length ≤ 1000000) : vBin .add a b e = some (.d (.tuple (x ++ y)), e2) := by
  have := z_catT h
  simp only [List.getElem?_cons_zero, List.getElem?_cons_succ, List.set_cons_zero, List.set_cons_succ, List.replicate_succ, List.replicate_zero, List.cons_append, List.nil_append, x_vCst, x_vNm, x_vBin, x_vNeg, x_vBits, x_vCmp, x_vCmp2, x_vAnd, x_vOr, x_vNot, x_vIte, x_vTup, x_vLst, x_vIx, x_vSlF, x_vSlT, x_vSl, x_vRev, x_vCall, x_vBlt, x_vBlt2, x_vPop, x_vPopAt, x_fYes, x_vFz, x_vNo, x_tOf, x_tAnd, x_tOr, x_tNot, x_iOf, x_iNo, x_iRng1, x_iRng2, x_iRng3, x_iEnum, x_iZip, x_iRevd, x_aNil, x_aCons, x_dNil, x_dCons, x_sAsg, x_sAsgT, x_sPar, x_sSet, x_sAug, x_sAugS, x_sApp, x_sExt, x_sEx, x_sIte, x_sRet, x_sRetN, x_sBrk, x_sCont, x_sPass, x_sNo, x_sSeq, argsOf, argOf, locs, backs, nd0, nd1, store, put, frz, tgt, tgts, isOw, z_add, z_sub, z_xor, z_eq, z_ne, z_lt, z_le, z_gt, z_ge, z_dd, z_do, z_dl, z_tb, z_lenL, z_lenT, z_int, z_intB, z_abs, z_max, z_min, z_tupL, z_tupT, z_lstL, z_lstT, z_scr, ix0, ix1, ix2, ix3, ix4, ixn1, ixn2, ixn3, ixn4, decide_true, decide_false, if_true, if_false, Bool.false_eq_true, Bool.and_true, Bool.true_and, Bool.not_true, Bool.not_false, x_turnC, wipeE, back, x_sForB, x_forB, List.getD_cons_zero, List.getD_cons_succ, ha, hb, this]
theorem one_of {e : En} {x : Int} : vTup (dCons (vCst (.int x)) dNil) e = some (.d (.tuple [.int x]), e) := by
  have hs : small [PyData.int x] = true := rfl
  simp only [List.getElem?_cons_zero, List.getElem?_cons_succ, List.set_cons_zero, List.set_cons_succ, List.replicate_succ, List.replicate_zero, List.cons_append, List.nil_append, x_vCst, x_vNm, x_vBin, x_vNeg, x_vBits, x_vCmp, x_vCmp2, x_vAnd, x_vOr, x_vNot, x_vIte, x_vTup, x_vLst, x_vIx, x_vSlF, x_vSlT, x_vSl, x_vRev, x_vCall, x_vBlt, x_vBlt2, x_vPop, x_vPopAt, x_fYes, x_vFz, x_vNo, x_tOf, x_tAnd, x_tOr, x_tNot, x_iOf, x_iNo, x_iRng1, x_iRng2, x_iRng3, x_iEnum, x_iZip, x_iRevd, x_aNil, x_aCons, x_dNil, x_dCons, x_sAsg, x_sAsgT, x_sPar, x_sSet, x_sAug, x_sAugS, x_sApp, x_sExt, x_sEx, x_sIte, x_sRet, x_sRetN, x_sBrk, x_sCont, x_sPass, x_sNo, x_sSeq, argsOf, argOf, locs, backs, nd0, nd1, store, put, frz, tgt, tgts, isOw, z_add, z_sub, z_xor, z_eq, z_ne, z_lt, z_le, z_gt, z_ge, z_dd, z_do, z_dl, z_tb, z_lenL, z_lenT, z_int, z_intB, z_abs, z_max, z_min, z_tupL, z_tupT, z_lstL, z_lstT, z_scr, ix0, ix1, ix2, ix3, ix4, ixn1, ixn2, ixn3, ixn4, decide_true, decide_false, if_true, if_false, Bool.false_eq_true, Bool.and_true, Bool.true_and, Bool.not_true, Bool.not_false, x_turnC, wipeE, back, x_sForB, x_forB, List.getD_cons_zero, List.getD_cons_succ, hs]
theorem int_of {a : FV} {e e1 : En} {x : Int} (ha : a e = some (.d (.int x), e1)) : vBlt .int a e = some (.d (.int x), e1) := by
  simp only [List.getElem?_cons_zero, List.getElem?_cons_succ, List.set_cons_zero, List.set_cons_succ, List.replicate_succ, List.replicate_zero, List.cons_append, List.nil_append, x_vCst, x_vNm, x_vBin, x_vNeg, x_vBits, x_vCmp, x_vCmp2, x_vAnd, x_vOr, x_vNot, x_vIte, x_vTup, x_vLst, x_vIx, x_vSlF, x_vSlT, x_vSl, x_vRev, x_vCall, x_vBlt, x_vBlt2, x_vPop, x_vPopAt, x_fYes, x_vFz, x_vNo, x_tOf, x_tAnd, x_tOr, x_tNot, x_iOf, x_iNo, x_iRng1, x_iRng2, x_iRng3, x_iEnum, x_iZip, x_iRevd, x_aNil, x_aCons, x_dNil, x_dCons, x_sAsg, x_sAsgT, x_sPar, x_sSet, x_sAug, x_sAugS, x_sApp, x_sExt, x_sEx, x_sIte, x_sRet, x_sRetN, x_sBrk, x_sCont, x_sPass, x_sNo, x_sSeq, argsOf, argOf, locs, backs, nd0, nd1, store, put, frz, tgt, tgts, isOw, z_add, z_sub, z_xor, z_eq, z_ne, z_lt, z_le, z_gt, z_ge, z_dd, z_do, z_dl, z_tb, z_lenL, z_lenT, z_int, z_intB, z_abs, z_max, z_min, z_tupL, z_tupT, z_lstL, z_lstT, z_scr, ix0, ix1, ix2, ix3, ix4, ixn1, ixn2, ixn3, ixn4, decide_true, decide_false, if_true, if_false, Bool.false_eq_true, Bool.and_true, Bool.true_and, Bool.not_true, Bool.not_false, x_turnC, wipeE, back, x_sForB, x_forB, List.getD_cons_zero, List.getD_cons_succ, ha]
theorem abs_of {a : FV} {e e1 : En} {x : Int} (ha : a e = some (.d (.int x), e1)) : vBlt .abs a e = some (.d (.int x.natAbs), e1) := by
  have h : (if x < 0 then -x else x) = (x.natAbs : Int) := by split <;> omega
  simp only [List.getElem?_cons_zero, List.getElem?_cons_succ, List.set_cons_zero, List.set_cons_succ, List.replicate_succ, List.replicate_zero, List.cons_append, List.nil_append, x_vCst, x_vNm, x_vBin, x_vNeg, x_vBits, x_vCmp, x_vCmp2, x_vAnd, x_vOr, x_vNot, x_vIte, x_vTup, x_vLst, x_vIx, x_vSlF, x_vSlT, x_vSl, x_vRev, x_vCall, x_vBlt, x_vBlt2, x_vPop, x_vPopAt, x_fYes, x_vFz, x_vNo, x_tOf, x_tAnd, x_tOr, x_tNot, x_iOf, x_iNo, x_iRng1, x_iRng2, x_iRng3, x_iEnum, x_iZip, x_iRevd, x_aNil, x_aCons, x_dNil, x_dCons, x_sAsg, x_sAsgT, x_sPar, x_sSet, x_sAug, x_sAugS, x_sApp, x_sExt, x_sEx, x_sIte, x_sRet, x_sRetN, x_sBrk, x_sCont, x_sPass, x_sNo, x_sSeq, argsOf, argOf, locs, backs, nd0, nd1, store, put, frz, tgt, tgts, isOw, z_add, z_sub, z_xor, z_eq, z_ne, z_lt, z_le, z_gt, z_ge, z_dd, z_do, z_dl, z_tb, z_lenL, z_lenT, z_int, z_intB, z_abs, z_max, z_min, z_tupL, z_tupT, z_lstL, z_lstT, z_scr, ix0, ix1, ix2, ix3, ix4, ixn1, ixn2, ixn3, ixn4, decide_true, decide_false, if_true, if_false, Bool.false_eq_true, Bool.and_true, Bool.true_and, Bool.not_true, Bool.not_false, x_turnC, wipeE, back, x_sForB, x_forB, List.getD_cons_zero, List.getD_cons_succ, ha, h]
theorem mod_of {a b : FV} {e e1 e2 : En} {x y : Int} (ha : a e = some (.d (.int x), e1)) (hb : b e1 = some (.d (.int y), e2)) (h : y ≠ 0) : vBin .mod a b e = some (.d (.int (x.fmod y)), e2) := by
  have := z_mod (a := x) h
  simp only [List.getElem?_cons_zero, List.getElem?_cons_succ, List.set_cons_zero, List.set_cons_succ, List.replicate_succ, List.replicate_zero, List.cons_append, List.nil_append, x_vCst, x_vNm, x_vBin, x_vNeg, x_vBits, x_vCmp, x_vCmp2, x_vAnd, x_vOr, x_vNot, x_vIte, x_vTup, x_vLst, x_vIx, x_vSlF, x_vSlT, x_vSl, x_vRev, x_vCall, x_vBlt, x_vBlt2, x_vPop, x_vPopAt, x_fYes, x_vFz, x_vNo, x_tOf, x_tAnd, x_tOr, x_tNot, x_iOf, x_iNo, x_iRng1, x_iRng2, x_iRng3, x_iEnum, x_iZip, x_iRevd, x_aNil, x_aCons, x_dNil, x_dCons, x_sAsg, x_sAsgT, x_sPar, x_sSet, x_sAug, x_sAugS, x_sApp, x_sExt, x_sEx, x_sIte, x_sRet, x_sRetN, x_sBrk, x_sCont, x_sPass, x_sNo, x_sSeq, argsOf, argOf, locs, backs, nd0, nd1, store, put, frz, tgt, tgts, isOw, z_add, z_sub, z_xor, z_eq, z_ne, z_lt, z_le, z_gt, z_ge, z_dd, z_do, z_dl, z_tb, z_lenL, z_lenT, z_int, z_intB, z_abs, z_max, z_min, z_tupL, z_tupT, z_lstL, z_lstT, z_scr, ix0, ix1, ix2, ix3, ix4, ixn1, ixn2, ixn3, ixn4, decide_true, decide_false, if_true, if_false, Bool.false_eq_true, Bool.and_true, Bool.true_and, Bool.not_true, Bool.not_false, x_turnC, wipeE, back, x_sForB, x_forB, List.getD_cons_zero, List.getD_cons_succ, ha, hb, this]
theorem lenT_of {a : FV} {e e1 : En} {x : List Dt} (ha : a e = some (.d (.tuple x), e1)) : vBlt .len a e = some (.d (.int x.length), e1) := by
  simp only [List.getElem?_cons_zero, List.getElem?_cons_succ, List.set_cons_zero, List.set_cons_succ, List.replicate_succ, List.replicate_zero, List.cons_append, List.nil_append, x_vCst, x_vNm, x_vBin, x_vNeg, x_vBits, x_vCmp, x_vCmp2, x_vAnd, x_vOr, x_vNot, x_vIte, x_vTup, x_vLst, x_vIx, x_vSlF, x_vSlT, x_vSl, x_vRev, x_vCall, x_vBlt, x_vBlt2, x_vPop, x_vPopAt, x_fYes, x_vFz, x_vNo, x_tOf, x_tAnd, x_tOr, x_tNot, x_iOf, x_iNo, x_iRng1, x_iRng2, x_iRng3, x_iEnum, x_iZip, x_iRevd, x_aNil, x_aCons, x_dNil, x_dCons, x_sAsg, x_sAsgT, x_sPar, x_sSet, x_sAug, x_sAugS, x_sApp, x_sExt, x_sEx, x_sIte, x_sRet, x_sRetN, x_sBrk, x_sCont, x_sPass, x_sNo, x_sSeq, argsOf, argOf, locs, backs, nd0, nd1, store, put, frz, tgt, tgts, isOw, z_add, z_sub, z_xor, z_eq, z_ne, z_lt, z_le, z_gt, z_ge, z_dd, z_do, z_dl, z_tb, z_lenL, z_lenT, z_int, z_intB, z_abs, z_max, z_min, z_tupL, z_tupT, z_lstL, z_lstT, z_scr, ix0, ix1, ix2, ix3, ix4, ixn1, ixn2, ixn3, ixn4, decide_true, decide_false, if_true, if_false, Bool.false_eq_true, Bool.and_true, Bool.true_and, Bool.not_true, Bool.not_false, x_turnC, wipeE, back, x_sForB, x_forB, List.getD_cons_zero, List.getD_cons_succ, ha]
theorem tupL_of {a : FV} {e e1 : En} {x : List Dt} (ha : a e = some (.own x, e1)) : vBlt .tuple a e = some (.d (.tuple x), e1) := by
  simp only [List.getElem?_cons_zero, List.getElem?_cons_succ, List.set_cons_zero, List.set_cons_succ, List.replicate_succ, List.replicate_zero, List.cons_append, List.nil_append, x_vCst, x_vNm, x_vBin, x_vNeg, x_vBits, x_vCmp, x_vCmp2, x_vAnd, x_vOr, x_vNot, x_vIte, x_vTup, x_vLst, x_vIx, x_vSlF, x_vSlT, x_vSl, x_vRev, x_vCall, x_vBlt, x_vBlt2, x_vPop, x_vPopAt, x_fYes, x_vFz, x_vNo, x_tOf, x_tAnd, x_tOr, x_tNot, x_iOf, x_iNo, x_iRng1, x_iRng2, x_iRng3, x_iEnum, x_iZip, x_iRevd, x_aNil, x_aCons, x_dNil, x_dCons, x_sAsg, x_sAsgT, x_sPar, x_sSet, x_sAug, x_sAugS, x_sApp, x_sExt, x_sEx, x_sIte, x_sRet, x_sRetN, x_sBrk, x_sCont, x_sPass, x_sNo, x_sSeq, argsOf, argOf, locs, backs, nd0, nd1, store, put, frz, tgt, tgts, isOw, z_add, z_sub, z_xor, z_eq, z_ne, z_lt, z_le, z_gt, z_ge, z_dd, z_do, z_dl, z_tb, z_lenL, z_lenT, z_int, z_intB, z_abs, z_max, z_min, z_tupL, z_tupT, z_lstL, z_lstT, z_scr, ix0, ix1, ix2, ix3, ix4, ixn1, ixn2, ixn3, ixn4, decide_true, decide_false, if_true, if_false, Bool.false_eq_true, Bool.and_true, Bool.true_and, Bool.not_true, Bool.not_false, x_turnC, wipeE, back, x_sForB, x_forB, List.getD_cons_zero, List.getD_cons_succ, ha]
theorem ix_of {a b : FV} {e e1 e2 : En} {x : List Dt} {y : Int} {d : Dt} (ha : a e = some (.d (.tuple x), e1)) (hb : b e1 = some (.d (.int y), e2)) (h : ixD x y = some d) : vIx a b e = some (.d d, e2) := by
  simp only [List.getElem?_cons_zero, List.getElem?_cons_succ, List.set_cons_zero, List.set_cons_succ, List.replicate_succ, List.replicate_zero, List.cons_append, List.nil_append, x_vCst, x_vNm, x_vBin, x_vNeg, x_vBits, x_vCmp, x_vCmp2, x_vAnd, x_vOr, x_vNot, x_vIte, x_vTup, x_vLst, x_vIx, x_vSlF, x_vSlT, x_vSl, x_vRev, x_vCall, x_vBlt, x_vBlt2, x_vPop, x_vPopAt, x_fYes, x_vFz, x_vNo, x_tOf, x_tAnd, x_tOr, x_tNot, x_iOf, x_iNo, x_iRng1, x_iRng2, x_iRng3, x_iEnum, x_iZip, x_iRevd, x_aNil, x_aCons, x_dNil, x_dCons, x_sAsg, x_sAsgT, x_sPar, x_sSet, x_sAug, x_sAugS, x_sApp, x_sExt, x_sEx, x_sIte, x_sRet, x_sRetN, x_sBrk, x_sCont, x_sPass, x_sNo, x_sSeq, argsOf, argOf, locs, backs, nd0, nd1, store, put, frz, tgt, tgts, isOw, z_add, z_sub, z_xor, z_eq, z_ne, z_lt, z_le, z_gt, z_ge, z_dd, z_do, z_dl, z_tb, z_lenL, z_lenT, z_int, z_intB, z_abs, z_max, z_min, z_tupL, z_tupT, z_lstL, z_lstT, z_scr, ix0, ix1, ix2, ix3, ix4, ixn1, ixn2, ixn3, ixn4, decide_true, decide_false, if_true, if_false, Bool.false_eq_true, Bool.and_true, Bool.true_and, Bool.not_true, Bool.not_false, x_turnC, wipeE, back, x_sForB, x_forB, List.getD_cons_zero, List.getD_cons_succ, ha, hb, h]
theorem intsOf_il : ∀ ds : List Int, intsOf (il ds) = some ds
  | [] => rfl
  | d :: ds => by
    show (match intsOf (il ds) with
      | some l => some (d :: l)
      | none => none) = _
    rw [intsOf_il ds]
theorem sum_of {a : FV} {e e1 : En} {ds : List Int} (ha : a e = some (.d (.tuple (il ds)), e1)) : vBlt .sum a e = some (.d (.int ds.sum), e1) := by
  have h : blt .sum [.tuple (il ds)] = some (.d (.int ds.sum)) := by
    show (match intsOf (il ds) with
      | some ns => some (Rv.d (.int ns.sum))
      | none => none) = _
    rw [intsOf_il]
  simp only [List.getElem?_cons_zero, List.getElem?_cons_succ, List.set_cons_zero, List.set_cons_succ, List.replicate_succ, List.replicate_zero, List.cons_append, List.nil_append, x_vCst, x_vNm, x_vBin, x_vNeg, x_vBits, x_vCmp, x_vCmp2, x_vAnd, x_vOr, x_vNot, x_vIte, x_vTup, x_vLst, x_vIx, x_vSlF, x_vSlT, x_vSl, x_vRev, x_vCall, x_vBlt, x_vBlt2, x_vPop, x_vPopAt, x_fYes, x_vFz, x_vNo, x_tOf, x_tAnd, x_tOr, x_tNot, x_iOf, x_iNo, x_iRng1, x_iRng2, x_iRng3, x_iEnum, x_iZip, x_iRevd, x_aNil, x_aCons, x_dNil, x_dCons, x_sAsg, x_sAsgT, x_sPar, x_sSet, x_sAug, x_sAugS, x_sApp, x_sExt, x_sEx, x_sIte, x_sRet, x_sRetN, x_sBrk, x_sCont, x_sPass, x_sNo, x_sSeq, argsOf, argOf, locs, backs, nd0, nd1, store, put, frz, tgt, tgts, isOw, z_add, z_sub, z_xor, z_eq, z_ne, z_lt, z_le, z_gt, z_ge, z_dd, z_do, z_dl, z_tb, z_lenL, z_lenT, z_int, z_intB, z_abs, z_max, z_min, z_tupL, z_tupT, z_lstL, z_lstT, z_scr, ix0, ix1, ix2, ix3, ix4, ixn1, ixn2, ixn3, ixn4, decide_true, decide_false, if_true, if_false, Bool.false_eq_true, Bool.and_true, Bool.true_and, Bool.not_true, Bool.not_false, x_turnC, wipeE, back, x_sForB, x_forB, List.getD_cons_zero, List.getD_cons_succ, ha, h]
theorem lay_il : ∀ ds : List Int, PyData.canLayAll0 (il ds) = true ∧ PyData.depthAll (il ds) = 0
  | [] => ⟨rfl, rfl⟩
  | d :: ds => by
    obtain ⟨h1, h2⟩ := lay_il ds
    refine ⟨?_, ?_⟩
    · show (PyData.canLay0 (.int d) && PyData.canLayAll0 (il ds)) = true
      rw [h1]
      rfl
    · show max (PyData.depth (.int d)) (PyData.depthAll (il ds)) = 0
      rw [h2]
      rfl
theorem shaped_tup (ds : List Int) : SeqAt.shaped (.tuple (il ds)) = true := by
  obtain ⟨h1, h2⟩ := lay_il ds
  show (PyData.canLayAll0 (il ds) && decide (PyData.depthAll (il ds) + 1 ≤ 64)) = true
  rw [h1, h2]
  rfl
theorem shaped_lst (ds : List Int) : SeqAt.shaped (.list (il ds)) = true := by
  obtain ⟨h1, h2⟩ := lay_il ds
  show (PyData.canLayAll0 (il ds) && decide (PyData.depthAll (il ds) + 1 ≤ 64)) = true
  rw [h1, h2]
  rfl
theorem eqv_il : ∀ ds : List Int, PyData.eqvAll (il ds) (il ds) = true
  | [] => rfl
  | d :: ds => by
    show (PyData.eqv (.int d) (.int d) && PyData.eqvAll (il ds) (il ds)) = true
    rw [eqv_il ds]
    show ((d == d) && true) = true
    simp
theorem ne_tup (ds : List Int) : cop .ne (.tuple (il ds)) (.tuple (il ds)) = some false := by
  show (if (SeqAt.shaped (.tuple (il ds)) && SeqAt.shaped (.tuple (il ds))) = true then some (!PyData.eqvAll (il ds) (il ds)) else none) = _
  rw [shaped_tup, eqv_il]
  rfl
theorem eq_tup (ds : List Int) : cop .eq (.tuple (il ds)) (.tuple (il ds)) = some true := by
  show (if (SeqAt.shaped (.tuple (il ds)) && SeqAt.shaped (.tuple (il ds))) = true then some (PyData.eqvAll (il ds) (il ds)) else none) = _
  rw [shaped_tup, eqv_il]
  rfl
theorem ne_lst (ds : List Int) : cop .ne (.list (il ds)) (.list (il ds)) = some false := by
  show (if (SeqAt.shaped (.list (il ds)) && SeqAt.shaped (.list (il ds))) = true then some (!PyData.eqvAll (il ds) (il ds)) else none) = _
  rw [shaped_lst, eqv_il]
  rfl
theorem ne_int (a : Int) : cop .ne (.int a) (.int a) = some false := by
  rw [z_ne, decide_eq_true rfl]
  rfl
/-- sums of figures -/
theorem sum_mod {b n : Int} {ds : List Int} (h : val b ds = n) {m : Int} (hm : m = b - 1 ∨ m = -(b - 1)) : (ds.sum - n).fmod m = 0 := by
  obtain ⟨q, hq⟩ := val_sum (b := b) ds
  rw [h] at hq
  rcases hm with rfl | rfl
  · rw [show ds.sum - n = (b - 1) * (-q) by rw [Int.mul_neg]; omega]
    exact Int.mul_fmod_right _ _
  · rw [show ds.sum - n = -(b - 1) * q by rw [Int.neg_mul]; omega]
    exact Int.mul_fmod_right _ _
end Lawk83
end

section
set_option maxHeartbeats 4000000
set_option exponentiation.threshold 500000
namespace Lawk83
open PySem De

/-- a statement's outcome: the slots but 1 and j as before -/
structure Go (s : FS) (j : Nat) (e : En) (v : Sv) (e' : En) (xs' : List Dt) : Prop where
  run : s e = some (.nx e')
  st : St e' xs'
  got : e'[j]? = some v
  keep : ∀ i, i ≠ 1 → i ≠ j → e'[i]? = e[i]?
theorem go_asg {e e1 : En} {xs' : List Dt} {j : Nat} {a : FV} {d : Dt} (ha : a e = some (.d d, e1)) (hS : St e1 xs') (hk : ∀ i, i ≠ 1 → e1[i]? = e[i]?) (hj : j < 20) (hi : j ≠ 1 ∧ j ≠ 3 ∧ j ≠ 4 ∧ j ≠ 5 ∧ j ≠ 19) : Go (sAsg j a) j e (.fz d) (e1.set j (.fz d)) xs' :=
  ⟨asg_d ha hS.np (by rw [hS.len]; exact hj), hS.set hi (fun _ z => nomatch z), g_eq (by rw [hS.len]; exact hj), fun i h1 h2 => by rw [List.getElem?_set_ne (Ne.symm h2), hk i h1]⟩
theorem go_asg0 {e : En} {xs : List Dt} {j : Nat} {a : FV} {d : Dt} (hS : St e xs) (ha : a e = some (.d d, e)) (hj : j < 20) (hi : j ≠ 1 ∧ j ≠ 3 ∧ j ≠ 4 ∧ j ≠ 5 ∧ j ≠ 19) : Go (sAsg j a) j e (.fz d) (e.set j (.fz d)) xs :=
  go_asg ha hS (fun _ _ => rfl) hj hi
theorem draw1 {e : En} {xs : List Dt} (hS : St e xs) {a : FV} {size : Int} (ha : a e = some (.d (.int size), e)) (hs : 0 < size) (hl : size.natAbs < 2 ^ 100) :
    ∃ v xs' e', 0 ≤ v ∧ v < size ∧ St e' xs' ∧ (∀ i, i ≠ 1 → e'[i]? = e[i]?) ∧ vCall (run G.M G.P 59 5) (aCons (vNm 1) (aCons a aNil)) e = some (.d (.int v), e') := by
  obtain ⟨v, xs', h1, h2, h3, h4⟩ := draw_of 58 hS.pool hS.ok ha hs hl
  exact ⟨v, xs', _, h1, h2, hS.draw h3, fun i hi => List.getElem?_set_ne (Ne.symm hi), h4⟩
theorem pool_call {e : En} {xs xs' : List Dt} (hS : St e xs) {f : Nat} {v : Dt} {tl : En} (h : run G.M G.P 59 f [.ow true xs] = some (.d v, .ow true xs' :: tl)) : vCall (run G.M G.P 59 f) (aCons (vNm 1) aNil) e = some (.d v, e.set 1 (.ow false xs')) := by
  have h1 := hS.pool
  simp only [List.getElem?_cons_zero, List.getElem?_cons_succ, List.set_cons_zero, List.set_cons_succ, List.replicate_succ, List.replicate_zero, List.cons_append, List.nil_append, x_vCst, x_vNm, x_vBin, x_vNeg, x_vBits, x_vCmp, x_vCmp2, x_vAnd, x_vOr, x_vNot, x_vIte, x_vTup, x_vLst, x_vIx, x_vSlF, x_vSlT, x_vSl, x_vRev, x_vCall, x_vBlt, x_vBlt2, x_vPop, x_vPopAt, x_fYes, x_vFz, x_vNo, x_tOf, x_tAnd, x_tOr, x_tNot, x_iOf, x_iNo, x_iRng1, x_iRng2, x_iRng3, x_iEnum, x_iZip, x_iRevd, x_aNil, x_aCons, x_dNil, x_dCons, x_sAsg, x_sAsgT, x_sPar, x_sSet, x_sAug, x_sAugS, x_sApp, x_sExt, x_sEx, x_sIte, x_sRet, x_sRetN, x_sBrk, x_sCont, x_sPass, x_sNo, x_sSeq, argsOf, argOf, locs, backs, nd0, nd1, store, put, frz, tgt, tgts, isOw, z_add, z_sub, z_xor, z_eq, z_ne, z_lt, z_le, z_gt, z_ge, z_dd, z_do, z_dl, z_tb, z_lenL, z_lenT, z_int, z_intB, z_abs, z_max, z_min, z_tupL, z_tupT, z_lstL, z_lstT, z_scr, ix0, ix1, ix2, ix3, ix4, ixn1, ixn2, ixn3, ixn4, decide_true, decide_false, if_true, if_false, Bool.false_eq_true, Bool.and_true, Bool.true_and, Bool.not_true, Bool.not_false, x_turnC, wipeE, back, x_sForB, x_forB, List.getD_cons_zero, List.getD_cons_succ, h1, h]
theorem s1_ok {e : En} {xs : List Dt} (hS : St e xs) : ∃ n : Nat, ∃ e' xs', 1 ≤ n ∧ n ≤ 2 ^ 140 ∧ Go (sAsg 6 (vBin .add (vCst (.int 1)) (vIx (vTup (dCons (vCall ((run G.M G.P 59) 5) (aCons (vNm 1) (aCons (vCst (.int 300)) aNil))) (dCons (vCall ((run G.M G.P 59) 13) (aCons (vNm 1) aNil)) (dCons (vBlt .abs (vCall ((run G.M G.P 59) 16) (aCons (vNm 1) aNil))) dNil)))) (vCall ((run G.M G.P 59) 5) (aCons (vNm 1) (aCons (vCst (.int 3)) aNil)))))) 6 e (.fz (.int n)) e' xs' := by
  obtain ⟨a, x1, e1, a1, a2, S1, k1, r1⟩ := draw1 hS (a := vCst (.int 300)) (size := 300) rfl (by decide) (by decide)
  obtain ⟨b, x2, t2, b1, b2, b3, b4⟩ := some_ok 57 true S1.ok
  have r2 := pool_call S1 b4
  have S2 := S1.draw b3
  obtain ⟨h, x3, t3, c1, c2, c3⟩ := huge_ok 56 true b3
  have r3 := pool_call S2 c3
  have S3 := S2.draw c2
  obtain ⟨j, x4, e4, j1, j2, S4, k4, r4⟩ := draw1 S3 (a := vCst (.int 3)) (size := 3) rfl (by decide) (by decide)
  have hs : small [PyData.int a, .int b, .int h.natAbs] = true := rfl
  have ht : vTup (dCons (vCall (run G.M G.P 59 5) (aCons (vNm 1) (aCons (vCst (.int 300)) aNil))) (dCons (vCall (run G.M G.P 59 13) (aCons (vNm 1) aNil)) (dCons (vBlt .abs (vCall (run G.M G.P 59 16) (aCons (vNm 1) aNil))) dNil))) e = some (.d (.tuple [.int a, .int b, .int h.natAbs]), (e1.set 1 (.ow false x2)).set 1 (.ow false x3)) := by
    have r3' := abs_of r3
    rw [x_vTup]
    simp only [x_dCons, x_dNil, r1, r2, r3', frz, hs, if_true]
  have keep : ∀ i, i ≠ 1 → e4[i]? = e[i]? := fun i hi => by
    rw [k4 i hi, List.getElem?_set_ne (Ne.symm hi), List.getElem?_set_ne (Ne.symm hi), k1 i hi]
  have fin : ∀ n : Nat, ixD [PyData.int a, .int b, .int h.natAbs] j = some (.int n) → n < 2 ^ 140 → ∃ m : Nat, ∃ e' xs', 1 ≤ m ∧ m ≤ 2 ^ 140 ∧ Go (sAsg 6 (vBin .add (vCst (.int 1)) (vIx (vTup (dCons (vCall ((run G.M G.P 59) 5) (aCons (vNm 1) (aCons (vCst (.int 300)) aNil))) (dCons (vCall ((run G.M G.P 59) 13) (aCons (vNm 1) aNil)) (dCons (vBlt .abs (vCall ((run G.M G.P 59) 16) (aCons (vNm 1) aNil))) dNil)))) (vCall ((run G.M G.P 59) 5) (aCons (vNm 1) (aCons (vCst (.int 3)) aNil)))))) 6 e (.fz (.int m)) e' xs' := fun n hn hb => by
    have hv := add_of (a := vCst (.int 1)) rfl (ix_of ht r4 hn)
    rw [show 1 + (n : Int) = ((n + 1 : Nat) : Int) by omega] at hv
    exact ⟨n + 1, _, x4, by omega, by omega, go_asg hv S4 keep (by decide) (by decide)⟩
  have pw : (2 : Nat) ^ 140 = 1393796574908163946345982392040522594123776 := by decide +kernel
  have pw2 : (2 : Nat) ^ 139 = 696898287454081973172991196020261297061888 := by decide +kernel
  rcases (show j = 0 ∨ j = 1 ∨ j = 2 by omega) with rfl | rfl | rfl
  · exact fin a.toNat (by rw [ix0]; congr 2; omega) (by omega)
  · exact fin b.toNat (by rw [ix1]; congr 2; omega) (by omega)
  · exact fin h.natAbs (by rw [ix2]) (by omega)
theorem s2_ok {e : En} {xs : List Dt} (hS : St e xs) : ∃ s : Int, ∃ e' xs', 2 ≤ s ∧ s ≤ 30 ∧ Go (sAsg 7 (vBin .add (vCst (.int 2)) (vCall ((run G.M G.P 59) 5) (aCons (vNm 1) (aCons (vCst (.int 29)) aNil))))) 7 e (.fz (.int s)) e' xs' := by
  obtain ⟨a, x1, e1, a1, a2, S1, k1, r1⟩ := draw1 hS (a := vCst (.int 29)) (size := 29) rfl (by decide) (by decide)
  exact ⟨2 + a, _, x1, by omega, by omega, go_asg (add_of rfl r1) S1 k1 (by decide) (by decide)⟩
theorem s3_ok {e : En} {xs : List Dt} (hS : St e xs) : ∃ h b : Int, ∃ e' xs', 1 ≤ h ∧ h ≤ 14 ∧ b = 2 * h + 1 ∧ Go (sAsg 8 (vBin .add (vCst (.int 3)) (vBin .mul (vCst (.int 2)) (vCall ((run G.M G.P 59) 5) (aCons (vNm 1) (aCons (vCst (.int 14)) aNil)))))) 8 e (.fz (.int b)) e' xs' := by
  obtain ⟨a, x1, e1, a1, a2, S1, k1, r1⟩ := draw1 hS (a := vCst (.int 14)) (size := 14) rfl (by decide) (by decide)
  exact ⟨a + 1, 3 + 2 * a, _, x1, by omega, by omega, by omega, go_asg (add_of rfl (mul_of rfl r1 (small_mul (by decide) (by decide) a1 (by omega)))) S1 k1 (by decide) (by decide)⟩
theorem n_mul {n : Nat} {b : Int} (hn : n ≤ 2 ^ 140) (hb : b.natAbs < 1024) : mulOk (n : Int) b = true := by
  unfold mulOk
  have h1 := log2_lt (a := (n : Int)) (n := 200) (Nat.lt_of_le_of_lt (show (n : Int).natAbs ≤ 2 ^ 140 by omega) (Nat.pow_lt_pow_right (by decide) (by decide))) (by decide)
  have h2 := log2_lt (show b.natAbs < 2 ^ 10 from hb) (by decide)
  exact decide_eq_true (by omega)
theorem inner_ok {e : En} {xs : List Dt} (hS : St e xs) {n : Nat} {s own : Int} (h6 : e[6]? = some (.fz (.int n))) (hn : 1 ≤ n) (hn2 : n ≤ 2 ^ 140) (hs : 2 ≤ s) (hs2 : s ≤ 30) (hb : own = s ∨ own = -s) :
    ∃ e', forB (.nm 9) (sSeq (sAsg 10 (vCall ((run G.M G.P 59) 7) (aCons (vFz (vNm 6)) (aCons (vNm 9) aNil)))) (sSeq (sIte (tOr (tOf (vCmp .ne (vCall ((run G.M G.P 59) 7) (aCons (vBin .mul (vNm 6) (vNm 9)) (aCons (vNm 9) aNil))) (vBin .add (vTup (dCons (vCst (.int 0)) dNil)) (vNm 10)))) (tOr (tOf (vCmp .ne (vCall ((run G.M G.P 59) 14) (aCons (vFz (vNm 10)) (aCons (vNm 9) aNil))) (vNm 6))) (tOf (vCmp .ne (vBin .mod (vBlt .int (vBin .sub (vBlt .sum (vNm 10)) (vNm 6))) (vBlt .abs (vBin .sub (vNm 9) (vCst (.int 1))))) (vCst (.int 0)))))) (sSeq (sRet (vCst (.bool false))) sPass) sPass) sPass)) (.int own) e = some (.nx e') ∧ St e' xs ∧ ∀ i, i ≠ 9 → i ≠ 10 → e'[i]? = e[i]? := by
  obtain ⟨ds, hd, hl⟩ := ex_fig hs hb 140 (n : Int) (fun _ => by omega) (by simpa using hn2)
  have hf := fig_ok 57 hs (by omega) hb (fun _ => by omega) hd (by omega)
  have hd2 := fig_times hs hb (show (n : Int) ≠ 0 by omega) (Dg.shift hd)
  have hf2 := fig_ok 57 (n := (n : Int) * own) hs (by omega) hb (fun z => by rw [z]; exact Int.mul_nonneg (by omega) (by omega)) hd2 (by simp only [List.length_cons]; omega)
  have hval := fig_val hs hb hd
  obtain ⟨ec, hnum⟩ := number_ok 57 hs (by omega) hb (fig_range hs hd) (by omega)
  rw [hval] at hnum
  -- the slots: own, then told
  have S1 := hS.set (i := 9) (s := .fz (.int own)) (by decide) (fun _ z => nomatch z)
  have g9 : (e.set 9 (.fz (.int own)))[9]? = some (.fz (.int own)) := g_eq (by rw [hS.len]; decide)
  have g6 : (e.set 9 (.fz (.int own)))[6]? = some (.fz (.int n)) := g_ne h6 (by decide)
  have A := go_asg0 S1 (j := 10) (call2_of (fz_fz g6) (nm_fz g9) hf) (by decide) (by decide)
  have q6 := (A.keep 6 (by decide) (by decide)).trans g6
  have q9 := (A.keep 9 (by decide) (by decide)).trans g9
  have q10 := A.got
  refine ⟨_, ?_, A.st, fun i h1 h2 => ?_⟩
  · rw [x_forB]
    have hp : tgt (.nm 9) (.int own) e = some (e.set 9 (.fz (.int own))) := put_of hS.np (by rw [hS.len]; decide)
    rw [hp]
    refine sSeq_nx A.run (sSeq_nx (sIte_f (tor_f (tcmp_of (call2_of (mul_of (nm_fz q6) (nm_fz q9) (n_mul hn2 (by omega))) (nm_fz q9) hf2) (cat_of one_of (nm_fz q10) ?_) ?_) (tor_f (tcmp_of (call2_of (fz_fz q10) (nm_fz q9) hnum) (nm_fz q6) (ne_int _)) (tcmp_of (mod_of (int_of (sub_of (sum_of (nm_fz q10)) (nm_fz q6))) (abs_of (sub_of (nm_fz q9) rfl)) ?_) rfl ?_))) rfl) rfl)
    · rw [List.length_map]
      simp
      omega
    · exact ne_tup (0 :: ds)
    · omega
    · rw [sum_mod hval (by omega)]
      rfl
  · by_cases h3 : i = 1
    · subst h3
      rw [A.st.pool, hS.pool]
    · rw [A.keep i h3 h2, List.getElem?_set_ne (Ne.symm h1)]
theorem s4_ok {e : En} {xs : List Dt} (hS : St e xs) {n : Nat} {s : Int} (h6 : e[6]? = some (.fz (.int n))) (h7 : e[7]? = some (.fz (.int s))) (hn : 1 ≤ n) (hn2 : n ≤ 2 ^ 140) (hs : 2 ≤ s) (hs2 : s ≤ 30) :
    ∃ e', (sFor (.nm 9) (iOf (vTup (dCons (vNm 7) (dCons (vBin .sub (vCst (.int 0)) (vNm 7)) dNil)))) (sSeq (sAsg 10 (vCall ((run G.M G.P 59) 7) (aCons (vFz (vNm 6)) (aCons (vNm 9) aNil)))) (sSeq (sIte (tOr (tOf (vCmp .ne (vCall ((run G.M G.P 59) 7) (aCons (vBin .mul (vNm 6) (vNm 9)) (aCons (vNm 9) aNil))) (vBin .add (vTup (dCons (vCst (.int 0)) dNil)) (vNm 10)))) (tOr (tOf (vCmp .ne (vCall ((run G.M G.P 59) 14) (aCons (vFz (vNm 10)) (aCons (vNm 9) aNil))) (vNm 6))) (tOf (vCmp .ne (vBin .mod (vBlt .int (vBin .sub (vBlt .sum (vNm 10)) (vNm 6))) (vBlt .abs (vBin .sub (vNm 9) (vCst (.int 1))))) (vCst (.int 0)))))) (sSeq (sRet (vCst (.bool false))) sPass) sPass) sPass))) e = some (.nx e') ∧ St e' xs ∧ ∀ i, i ≠ 9 → i ≠ 10 → e'[i]? = e[i]? := by
  obtain ⟨e1, r1, S1, k1⟩ := inner_ok hS h6 hn hn2 hs hs2 (.inl rfl)
  obtain ⟨e2, r2, S2, k2⟩ := inner_ok S1 (own := -s) ((k1 6 (by decide) (by decide)).trans h6) hn hn2 hs hs2 (.inr rfl)
  have hsm : small [PyData.int s, .int (0 - s)] = true := rfl
  have hv := nm_fz h7
  have hsub := sub_of (a := vCst (.int 0)) (e := e) rfl hv
  refine ⟨e2, sFor_of (ds := [.int s, .int (0 - s)]) (e1 := e) ?_ ?_, S2, fun i h1 h2 => by rw [k2 i h1 h2, k1 i h1 h2]⟩
  · rw [x_iOf, x_vTup]
    simp only [x_dCons, x_dNil, hv, hsub, frz, hsm, if_true]
  · rw [forL, r1]
    show forL _ [PyData.int (0 - s)] e1 = _
    rw [show (0 : Int) - s = -s by omega, forL, r2]
    rfl
theorem s5_ok {e : En} {xs : List Dt} (hS : St e xs) {n : Nat} {b h : Int} (h6 : e[6]? = some (.fz (.int n))) (h8 : e[8]? = some (.fz (.int b))) (hn2 : n ≤ 2 ^ 140) (hh : 1 ≤ h) (hh2 : h ≤ 14) (hb : b = 2 * h + 1) :
    ∃ ds, Dg (fB b h) (gB b h) 0 (n : Int) ds ∧ ds.length ≤ 142 ∧ ∃ e', Go (sAsg 10 (vCall ((run G.M G.P 59) 3) (aCons (vFz (vNm 6)) (aCons (vNm 8) aNil)))) 10 e (.fz (.tuple (il ds))) e' xs := by
  obtain ⟨ds, hd, hl⟩ := ex_bal hh hb 140 (n : Int) (by simpa using hn2)
  obtain ⟨ec, hr⟩ := bal_ok 57 hh (by omega) hb hd (by omega)
  exact ⟨ds, hd, hl, _, go_asg0 hS (call2_of (fz_fz h6) (nm_fz h8) hr) (by decide) (by decide)⟩
theorem s6_ok {e : En} {xs : List Dt} (hS : St e xs) {n : Nat} {b h : Int} {ds : List Int} (h6 : e[6]? = some (.fz (.int n))) (h8 : e[8]? = some (.fz (.int b))) (h10 : e[10]? = some (.fz (.tuple (il ds)))) (hn : 1 ≤ n) (hn2 : n ≤ 2 ^ 140) (hh : 1 ≤ h) (hh2 : h ≤ 14) (hb : b = 2 * h + 1)
    (hd : Dg (fB b h) (gB b h) 0 (n : Int) ds) (hl : ds.length ≤ 142) : (sIte (tOr (tOf (vCmp .ne (vCall ((run G.M G.P 59) 3) (aCons (vBin .sub (vCst (.int 0)) (vNm 6)) (aCons (vNm 8) aNil))) (vBlt .tuple (vComp (vBin .sub (vCst (.int 0)) (vNm 19)) [19] (.nm 19) (iOf (vNm 10)) fYes)))) (tOr (tOf (vCmp .ne (vCall ((run G.M G.P 59) 3) (aCons (vBin .mul (vNm 6) (vNm 8)) (aCons (vNm 8) aNil))) (vBin .add (vTup (dCons (vCst (.int 0)) dNil)) (vNm 10)))) (tOf (vCmp .ne (vBin .mod (vBlt .int (vBin .sub (vBlt .sum (vNm 10)) (vNm 6))) (vBin .sub (vNm 8) (vCst (.int 1)))) (vCst (.int 0)))))) (sSeq (sRet (vCst (.bool false))) sPass) sPass) e = some (.nx e) := by
  have hval := bal_val hh hb hd
  have hd1 := bal_neg hh hb hd
  obtain ⟨ec1, hr1⟩ := bal_ok 57 hh (by omega) hb hd1 (by rw [List.length_map]; omega)
  have hd2 := bal_times hh hb (show (n : Int) ≠ 0 by omega) (Dg.shift hd)
  obtain ⟨ec2, hr2⟩ := bal_ok 57 hh (by omega) hb hd2 (by simp only [List.length_cons]; omega)
  have hc := compL_map (f := turnC (vBin .sub (vCst (.int 0)) (vNm 19)) [19] (.nm 19) fYes) (e0 := e) (φ := fun d => match d with | .int x => [PyData.int (0 - x)] | _ => []) (il ds) (fun d hd => by
    obtain ⟨x, hx, rfl⟩ := List.mem_map.mp hd
    exact turn1 hS.u19 rfl (sub_of rfl (nm_fz (g_eq (by rw [hS.len]; decide)))))
  have hmap : ∀ l : List Int, ((il l).flatMap fun d => match d with | .int x => [PyData.int (0 - x)] | _ => []) = il (l.map fun d => 0 - d) := fun l => by
    induction l with
    | nil => rfl
    | cons x l ih =>
      rw [List.map_cons]
      show List.flatMap _ (PyData.int x :: il l) = _
      rw [List.flatMap_cons, ih]
      rfl
  rw [hmap] at hc
  have hit : iOf (vNm 10) e = some (il ds, e) := by
    rw [x_iOf, nm_fz h10]
    rfl
  have hcomp := comp1 hS.u19 hit hc (small_il (by rw [List.length_map, List.length_map]; omega))
  refine sIte_f (tor_f (tcmp_of (call2_of (sub_of rfl (nm_fz h6)) (nm_fz h8) hr1) (tupL_of hcomp) (ne_tup _)) (tor_f (tcmp_of (call2_of (mul_of (nm_fz h6) (nm_fz h8) (n_mul hn2 (by omega))) (nm_fz h8) hr2) (cat_of one_of (nm_fz h10) ?_) ?_) (tcmp_of (mod_of (int_of (sub_of (sum_of (nm_fz h10)) (nm_fz h6))) (sub_of (nm_fz h8) rfl) ?_) rfl ?_))) rfl
  · rw [List.length_map]
    simp
    omega
  · exact ne_tup (0 :: ds)
  · omega
  · rw [sum_mod hval (.inl rfl)]
    rfl
theorem s7_ok {e : En} {xs : List Dt} (hS : St e xs) {n : Nat} {b h : Int} {ds : List Int} (h6 : e[6]? = some (.fz (.int n))) (h8 : e[8]? = some (.fz (.int b))) (h10 : e[10]? = some (.fz (.tuple (il ds)))) (hh : 1 ≤ h) (hh2 : h ≤ 14) (hb : b = 2 * h + 1)
    (hd : Dg (fB b h) (gB b h) 0 (n : Int) ds) (hl : ds.length ≤ 142) : (sIte (tOf (vCmp .ne (vCall ((run G.M G.P 59) 9) (aCons (vBin .add (vNm 10) (vTup (dCons (vCst (.int 1)) dNil))) (aCons (vNm 8) aNil))) (vBin .add (vNm 6) (vCall ((run G.M G.P 59) 1) (aCons (vNm 8) (aCons (vBlt .len (vNm 10)) aNil)))))) (sSeq (sRet (vCst (.bool false))) sPass) sPass) e = some (.nx e) := by
  have hval := bal_val hh hb hd
  have hrange := bal_range hh hb hd
  obtain ⟨ec1, hr1⟩ := unbal_ok 57 hh (by omega) hb (ds := ds ++ [1]) (fun d hd => by
    rcases List.mem_append.mp hd with hd | hd
    · exact hrange d hd
    · rw [List.mem_singleton] at hd
      omega) (by rw [List.length_append]; simp; omega)
  obtain ⟨ec2, hr2⟩ := power_ok 58 (b := b) (by omega) (m := ds.length) (by omega)
  have e1 : val b (ds ++ [1]) = (n : Int) + b ^ ds.length := by
    rw [val_append, hval]
    show _ + b ^ ds.length * (1 + b * 0) = _
    rw [Int.mul_zero, Int.add_zero, Int.mul_one]
  have e2 : il (ds ++ [1]) = il ds ++ [.int 1] := by
    show List.map _ _ = _
    rw [List.map_append]
    rfl
  rw [e1, e2] at hr1
  have hlen := lenT_of (nm_fz h10)
  rw [List.length_map] at hlen
  exact sIte_f (tcmp_of (call2_of (cat_of (nm_fz h10) one_of (by rw [List.length_map]; simp; omega)) (nm_fz h8) hr1) (add_of (nm_fz h6) (call2_of (nm_fz h8) hlen hr2)) (ne_int _)) rfl
theorem s8_ok {e : En} {xs : List Dt} (hS : St e xs) {n : Nat} {ds : List Int} (h6 : e[6]? = some (.fz (.int n))) (hd : D2 n ds) (hl : ds.length ≤ 142) : (sIte (tOr (tOf (vCmp .ne (vCall ((run G.M G.P 59) 10) (aCons (vNm 6) aNil)) (vCall ((run G.M G.P 59) 11) (aCons (vFz (vNm 6)) aNil)))) (tOf (vCmp .ne (vCall ((run G.M G.P 59) 12) (aCons (vCall ((run G.M G.P 59) 10) (aCons (vNm 6) aNil)) aNil)) (vNm 6)))) (sSeq (sRet (vCst (.bool false))) sPass) sPass) e = some (.nx e) := by
  have hg := gray_ok 56 hd (by omega)
  obtain ⟨ec, hx⟩ := excl_ok 56 hd (by omega)
  obtain ⟨ec2, hu⟩ := ungray_ok 58 hd (by omega)
  exact sIte_f (tor_f (tcmp_of (call1_of (nm_fz h6) hg) (call1_of (fz_fz h6) hx) (ne_tup _)) (tcmp_of (call1_of (call1_of (nm_fz h6) hg) hu) (nm_fz h6) (ne_int _))) rfl
theorem s9_ok {e : En} {xs : List Dt} (hS : St e xs) {n : Nat} {ds : List Int} (h6 : e[6]? = some (.fz (.int n))) (hd : D2 n ds) (hl : ds.length ≤ 142) : ∃ e', Go (sAsg 11 (vBlt .len (vCall ((run G.M G.P 59) 7) (aCons (vFz (vNm 6)) (aCons (vCst (.int 2)) aNil))))) 11 e (.fz (.int ds.length)) e' xs := by
  have hf := fig2_ok 57 hd (by omega)
  have hlen := lenT_of (call2_of (b := vCst (.int 2)) (fz_fz h6) rfl hf)
  rw [List.length_map] at hlen
  exact ⟨_, go_asg0 hS hlen (by decide) (by decide)⟩
theorem s10_ok {e : En} {xs : List Dt} (hS : St e xs) {m : Nat} (h11 : e[11]? = some (.fz (.int m))) (hm : m ≤ 142) : ∃ e', Go (sAsg 12 (vCall ((run G.M G.P 59) 1) (aCons (vCst (.int 2)) (aCons (vFz (vNm 11)) aNil)))) 12 e (.fz (.int (2 ^ m))) e' xs := by
  obtain ⟨ec, hr⟩ := power_ok 58 (b := 2) (by decide) (m := m) (by omega)
  exact ⟨_, go_asg0 hS (call2_of (a := vCst (.int 2)) rfl (fz_fz h11) hr) (by decide) (by decide)⟩
theorem rep_of {e : En} {m : Nat} (h : e[11]? = some (.fz (.int m))) (hm : m ≤ 142) : vBin .mul (vTup (dCons (vCst (.int 0)) dNil)) (vNm 11) e = some (.d (.tuple (List.replicate m (.int 0))), e) := by
  have h1 := one_of (e := e) (x := 0)
  have h2 := nm_fz h
  have h3 : bop .mul (.tuple [.int 0]) (.int (m : Int)) = some (.d (.tuple (List.replicate m (.int 0)))) := by
    rw [z_repT (by omega) (by omega) (by simp), Int.toNat_natCast, rep_zero]
  simp only [x_vBin, h1, h2, z_dd, h3]
theorem s11_ok {e : En} {xs : List Dt} (hS : St e xs) {n m : Nat} (h6 : e[6]? = some (.fz (.int n))) (h11 : e[11]? = some (.fz (.int m))) (h12 : e[12]? = some (.fz (.int (2 ^ m)))) (hm : m ≤ 142) (hn : n < 2 ^ m) :
    ∃ es, D2 (2 ^ m - (n + 1)) es ∧ ∃ e', Go (sAsg 13 (vBin .add (vCall ((run G.M G.P 59) 10) (aCons (vBin .sub (vBin .sub (vNm 12) (vCst (.int 1))) (vNm 6)) aNil)) (vBin .mul (vTup (dCons (vCst (.int 0)) dNil)) (vNm 11)))) 13 e (.fz (.tuple (il (gr es) ++ List.replicate m (.int 0)))) e' xs := by
  obtain ⟨es, hd, hl⟩ := ex_D2 142 (2 ^ m - (n + 1)) (Nat.le_trans (Nat.sub_le _ _) (Nat.pow_le_pow_right (by decide) hm))
  have hg := gray_ok 56 hd (by omega)
  have e1 : (2 : Int) ^ m - 1 - (n : Int) = ((2 ^ m - (n + 1) : Nat) : Int) := by
    have : ((2 ^ m : Nat) : Int) = (2 : Int) ^ m := by simp
    omega
  have hv := sub_of (sub_of (nm_fz h12) (b := vCst (.int 1)) rfl) (nm_fz h6)
  rw [e1] at hv
  exact ⟨es, hd, _, go_asg0 hS (cat_of (call1_of hv hg) (rep_of h11 hm) (by rw [List.length_map, gr_len, List.length_replicate]; omega)) (by decide) (by decide)⟩
theorem s12_ok {e : En} {xs : List Dt} (hS : St e xs) {n m : Nat} {ds : List Int} (h6 : e[6]? = some (.fz (.int n))) (h11 : e[11]? = some (.fz (.int m))) (hm : m ≤ 142) (hd : D2 n ds) (hl : ds.length ≤ 142) :
    ∃ e', Go (sAsg 14 (vBin .add (vCall ((run G.M G.P 59) 10) (aCons (vNm 6) aNil)) (vBin .mul (vTup (dCons (vCst (.int 0)) dNil)) (vNm 11)))) 14 e (.fz (.tuple (il (gr ds) ++ List.replicate m (.int 0)))) e' xs := by
  have hg := gray_ok 56 hd (by omega)
  exact ⟨_, go_asg0 hS (cat_of (call1_of (nm_fz h6) hg) (rep_of h11 hm) (by rw [List.length_map, gr_len, List.length_replicate]; omega)) (by decide) (by decide)⟩
theorem bit_eq (x j : Nat) : ((x / 2 ^ j % 2 : Nat) : Int) = if x.testBit j then 1 else 0 := by
  rw [Nat.testBit_eq_decide_div_mod_eq]
  by_cases h : x / 2 ^ j % 2 = 1
  · rw [h]
    rfl
  · rw [show x / 2 ^ j % 2 = 0 by omega]
    rfl
/-- the figures told of n and of what is left to 2 ** m differ in the last alone -/
theorem gray_last {n m j : Nat} (hn : n < 2 ^ m) (hj : j < m) : (gx (2 ^ m - (n + 1))).testBit j = ((gx n).testBit j ^^ decide (j = m - 1)) := by
  unfold gx
  rw [Nat.testBit_xor, Nat.testBit_xor, Nat.testBit_div_two, Nat.testBit_div_two, Nat.testBit_two_pow_sub_succ hn, Nat.testBit_two_pow_sub_succ hn]
  by_cases c : j = m - 1
  · have h1 : n.testBit (j + 1) = false := Nat.testBit_lt_two_pow (Nat.lt_of_lt_of_le hn (Nat.pow_le_pow_right (by decide) (by omega)))
    rw [h1, decide_eq_true hj, decide_eq_false (show ¬ j + 1 < m by omega), decide_eq_true c]
    cases n.testBit j <;> rfl
  · rw [decide_eq_true hj, decide_eq_true (show j + 1 < m by omega), decide_eq_false c]
    cases n.testBit j <;> cases n.testBit (j + 1) <;> rfl
theorem last_only {α : Type} (y : Nat → α) (p : Nat → Bool) : ∀ (n i : Nat), (∀ j, i ≤ j → j < i + n → p j = false) → (List.range' i n).flatMap (fun j => if p j then [y j] else []) = []
  | 0, _, _ => rfl
  | n + 1, i, h => by
    rw [List.range'_succ, List.flatMap_cons, h i (Nat.le_refl _) (by omega), last_only y p n (i + 1) fun j h1 h2 => h j (by omega) (by omega)]
    rfl
theorem s13_ok {e : En} {xs : List Dt} (hS : St e xs) {n m : Nat} {ds es : List Int} (h11 : e[11]? = some (.fz (.int m))) (h13 : e[13]? = some (.fz (.tuple (il (gr es) ++ List.replicate m (.int 0))))) (h14 : e[14]? = some (.fz (.tuple (il (gr ds) ++ List.replicate m (.int 0)))))
    (hm : m ≤ 142) (hm1 : 1 ≤ m) (hn : n < 2 ^ m) (hd : D2 n ds) (he : D2 (2 ^ m - (n + 1)) es) : (sIte (tOf (vCmp .ne (vComp (vNm 3) [3] (.nm 3) (iRng1 (vNm 11)) (tOf (vCmp .ne (vIx (vNm 13) (vNm 3)) (vIx (vNm 14) (vNm 3))))) (vLst (dCons (vBin .sub (vNm 11) (vCst (.int 1))) dNil)))) (sSeq (sRet (vCst (.bool false))) sPass) sPass) e = some (.nx e) := by
  have hc := compL_rngF (f := turnC (vNm 3) [3] (.nm 3) (tOf (vCmp .ne (vIx (vNm 13) (vNm 3)) (vIx (vNm 14) (vNm 3))))) (e0 := e) (ψ := fun j => if decide (j = m - 1) then [PyData.int (j : Int)] else []) m 0 (fun j _ hj => by
    have hj : j < m := by omega
    have q3 : (e.set 3 (.fz (.int (j : Int))))[3]? = some (.fz (.int (j : Int))) := g_eq (by rw [hS.len]; decide)
    have q13 := g_ne (s := .fz (.int (j : Int))) h13 (show 3 ≠ 13 by decide)
    have q14 := g_ne (s := .fz (.int (j : Int))) h14 (show 3 ≠ 14 by decide)
    have i1 : ixD (il (gr es) ++ List.replicate m (.int 0)) (j : Int) = some (.int ((gr es).getD j 0)) := pad_ix (by omega)
    have i2 : ixD (il (gr ds) ++ List.replicate m (.int 0)) (j : Int) = some (.int ((gr ds).getD j 0)) := pad_ix (by omega)
    have b1 := D2.get j (D2.gray es _ he)
    have b2 := D2.get j (D2.gray ds _ hd)
    rw [bit_eq] at b1 b2
    rw [gray_last hn hj] at b1
    by_cases c : j = m - 1
    · have hne : ¬ (gr es).getD j 0 = (gr ds).getD j 0 := by
        rw [b1, b2, decide_eq_true c]
        cases (gx n).testBit j <;> decide
      have := turn1 (elt := vNm 3) (c := tOf (vCmp .ne (vIx (vNm 13) (vNm 3)) (vIx (vNm 14) (vNm 3)))) (d := .int (j : Int)) hS.u3 (tcmp_of (ix_of (nm_fz q13) (nm_fz q3) i1) (ix_of (nm_fz q14) (nm_fz q3) i2) (by rw [z_ne, decide_eq_false hne]; rfl)) (nm_fz q3)
      rw [this, decide_eq_true c]
      rfl
    · have heq : (gr es).getD j 0 = (gr ds).getD j 0 := by
        rw [b1, b2, decide_eq_false c, Bool.xor_false]
      have := turn0 (elt := vNm 3) (c := tOf (vCmp .ne (vIx (vNm 13) (vNm 3)) (vIx (vNm 14) (vNm 3)))) (d := .int (j : Int)) hS.u3 (tcmp_of (ix_of (nm_fz q13) (nm_fz q3) i1) (ix_of (nm_fz q14) (nm_fz q3) i2) (by rw [z_ne, decide_eq_true heq]; rfl))
      rw [this, decide_eq_false c]
      rfl)
  have hrow : (List.range' 0 m).flatMap (fun j => if decide (j = m - 1) then [PyData.int (j : Int)] else []) = il [(m : Int) - 1] := by
    obtain ⟨k, rfl⟩ : ∃ k, m = k + 1 := ⟨m - 1, by omega⟩
    rw [List.range'_1_concat, List.flatMap_append, last_only (fun j => PyData.int (j : Int)) (fun j => decide (j = k + 1 - 1)) k 0 (fun j _ h => decide_eq_false (by omega))]
    show [] ++ ([0 + k].flatMap fun j => if decide (j = k + 1 - 1) then [PyData.int (j : Int)] else []) = _
    rw [List.flatMap_cons, Nat.zero_add, Nat.add_sub_cancel, decide_eq_true rfl]
    show [PyData.int (k : Int)] = [PyData.int (((k + 1 : Nat) : Int) - 1)]
    rw [show ((k + 1 : Nat) : Int) - 1 = (k : Int) by omega]
  rw [hrow] at hc
  have hcomp := comp1 hS.u3 (rng1_of (nm_fz h11) (by omega)) hc rfl
  have hl : vLst (dCons (vBin .sub (vNm 11) (vCst (.int 1))) dNil) e = some (.own (il [(m : Int) - 1]), e) := by
    have h1 := sub_of (nm_fz h11) (b := vCst (.int 1)) rfl
    have hs : small [PyData.int ((m : Int) - 1)] = true := rfl
    rw [x_vLst]
    simp only [x_dCons, x_dNil, h1, frz, hs, if_true]
    rfl
  exact sIte_f (tcmp_oo hcomp hl (ne_lst _)) rfl
end Lawk83
end

section
set_option maxHeartbeats 4000000
set_option exponentiation.threshold 500000
namespace Lawk83
open PySem De

theorem s14_ok {e : En} {xs : List Dt} (hS : St e xs) {n : Nat} (h6 : e[6]? = some (.fz (.int n))) (hn2 : n ≤ 2 ^ 140) : ∃ ds, Dg fS gS 0 (n : Int) ds ∧ ds.length ≤ 142 ∧ ∃ e', Go (sAsg 15 (vCall ((run G.M G.P 59) 4) (aCons (vFz (vNm 6)) aNil))) 15 e (.fz (.tuple (il ds))) e' xs := by
  obtain ⟨ds, hd, hl⟩ := ex_steps 140 0 (n : Int) (by omega) (by simpa using hn2)
  obtain ⟨ec, hr⟩ := steps_ok 58 (n := (n : Int)) (by omega) hd (by omega)
  exact ⟨ds, hd, hl, _, go_asg0 hS (call1_of (fz_fz h6) hr) (by decide) (by decide)⟩
theorem s15_ok {e : En} {xs : List Dt} (hS : St e xs) : ∃ (m : Int) (ds : List Int), 0 ≤ m ∧ m < 5000 ∧ Dg fS gS 0 m ds ∧ ds.length ≤ 15 ∧ ∃ e' xs', Go (sAsg 16 (vCall ((run G.M G.P 59) 4) (aCons (vCall ((run G.M G.P 59) 5) (aCons (vNm 1) (aCons (vCst (.int 5000)) aNil))) aNil))) 16 e (.fz (.tuple (il ds))) e' xs' := by
  obtain ⟨m, x1, e1, a1, a2, S1, k1, r1⟩ := draw1 hS (a := vCst (.int 5000)) (size := 5000) rfl (by decide) (by decide)
  obtain ⟨ds, hd, hl⟩ := ex_steps 13 0 m a1 (by omega)
  obtain ⟨ec, hr⟩ := steps_ok 58 a1 hd (by omega)
  exact ⟨m, ds, a1, a2, hd, hl, _, x1, go_asg (call1_of r1 hr) S1 k1 (by decide) (by decide)⟩
theorem s16_ok {e : En} {xs : List Dt} (hS : St e xs) {as bs : List Int} (h15 : e[15]? = some (.fz (.tuple (il as)))) (h16 : e[16]? = some (.fz (.tuple (il bs)))) : ∃ e', Go (sAsg 17 (vBlt2 .max (vBlt .len (vNm 15)) (vBlt .len (vNm 16)))) 17 e (.fz (.int (max as.length bs.length : Nat))) e' xs := by
  have h1 := lenT_of (nm_fz h15)
  have h2 := lenT_of (nm_fz h16)
  rw [List.length_map] at h1 h2
  have hm : blt .max [.int (as.length : Int), .int (bs.length : Int)] = some (.d (.int (max as.length bs.length : Nat))) := by
    rw [z_max]
    congr 3
    split <;> omega
  refine ⟨_, go_asg0 hS (d := .int (max as.length bs.length : Nat)) ?_ (by decide) (by decide)⟩
  rw [x_vBlt2]
  simp only [h1, h2, hm]
theorem repW {e : En} {m : Nat} (h : e[17]? = some (.fz (.int m))) (hm : m ≤ 142) : vBin .mul (vTup (dCons (vCst (.int 0)) dNil)) (vNm 17) e = some (.d (.tuple (List.replicate m (.int 0))), e) := by
  have h1 := one_of (e := e) (x := 0)
  have h2 := nm_fz h
  have h3 : bop .mul (.tuple [.int 0]) (.int (m : Int)) = some (.d (.tuple (List.replicate m (.int 0)))) := by
    rw [z_repT (by omega) (by omega) (by simp), Int.toNat_natCast, rep_zero]
  simp only [x_vBin, h1, h2, z_dd, h3]
theorem both_map (as bs : List Int) : (List.range' 0 (max as.length bs.length)).map (fun j => PyData.int (as.getD j 0 + bs.getD j 0)) = il (addL as bs) := by
  apply List.ext_getElem?
  intro j
  rw [List.getElem?_map, List.getElem?_map]
  by_cases c : j < max as.length bs.length
  · rw [List.getElem?_range' c]
    have hl : j < (addL as bs).length := by rw [addL_len]; exact c
    have hg := addL_get as bs j
    rw [List.getD_eq_getElem?_getD, List.getElem?_eq_getElem hl] at hg
    rw [List.getElem?_eq_getElem hl]
    show some (PyData.int (as.getD (0 + 1 * j) 0 + bs.getD (0 + 1 * j) 0)) = some (PyData.int _)
    rw [show 0 + 1 * j = j by omega, ← hg]
    rfl
  · rw [List.getElem?_eq_none (by rw [List.length_range']; omega), List.getElem?_eq_none (by rw [addL_len]; omega)]
    rfl
theorem s17_ok {e : En} {xs : List Dt} (hS : St e xs) {as bs : List Int} (h15 : e[15]? = some (.fz (.tuple (il as)))) (h16 : e[16]? = some (.fz (.tuple (il bs)))) (h17 : e[17]? = some (.fz (.int (max as.length bs.length : Nat)))) (ha : as.length ≤ 142) (hb : bs.length ≤ 142) :
    ∃ e', Go (sAsg 18 (vComp (vBin .add (vIx (vBin .add (vNm 15) (vBin .mul (vTup (dCons (vCst (.int 0)) dNil)) (vNm 17))) (vNm 3)) (vIx (vBin .add (vNm 16) (vBin .mul (vTup (dCons (vCst (.int 0)) dNil)) (vNm 17))) (vNm 3))) [3] (.nm 3) (iRng1 (vNm 17)) fYes)) 18 e (.ow false (il (addL as bs))) e' xs := by
  have hw : max as.length bs.length ≤ 142 := by omega
  have hc := compL_rng (f := turnC (vBin .add (vIx (vBin .add (vNm 15) (vBin .mul (vTup (dCons (vCst (.int 0)) dNil)) (vNm 17))) (vNm 3)) (vIx (vBin .add (vNm 16) (vBin .mul (vTup (dCons (vCst (.int 0)) dNil)) (vNm 17))) (vNm 3))) [3] (.nm 3) fYes)
    (e0 := e) (ψ := fun j => .int (as.getD j 0 + bs.getD j 0)) (max as.length bs.length) 0 (fun j _ hj => by
      have q3 : (e.set 3 (.fz (.int (j : Int))))[3]? = some (.fz (.int (j : Int))) := g_eq (by rw [hS.len]; decide)
      have q15 := g_ne (s := .fz (.int (j : Int))) h15 (show 3 ≠ 15 by decide)
      have q16 := g_ne (s := .fz (.int (j : Int))) h16 (show 3 ≠ 16 by decide)
      have q17 := g_ne (s := .fz (.int (j : Int))) h17 (show 3 ≠ 17 by decide)
      have i1 : ixD (il as ++ List.replicate (max as.length bs.length) (.int 0)) (j : Int) = some (.int (as.getD j 0)) := pad_ix (by omega)
      have i2 : ixD (il bs ++ List.replicate (max as.length bs.length) (.int 0)) (j : Int) = some (.int (bs.getD j 0)) := pad_ix (by omega)
      refine turn1 hS.u3 rfl (add_of (ix_of (cat_of (nm_fz q15) (repW q17 hw) ?_) (nm_fz q3) i1) (ix_of (cat_of (nm_fz q16) (repW q17 hw) ?_) (nm_fz q3) i2))
      · rw [List.length_map, List.length_replicate]; omega
      · rw [List.length_map, List.length_replicate]; omega)
  rw [both_map] at hc
  have hcomp := comp1 hS.u3 (rng1_of (nm_fz h17) (by omega)) hc (small_il (by rw [List.length_map, addL_len]; omega))
  exact ⟨_, asg_own hcomp hS.np (by rw [hS.len]; decide), hS.set (by decide) (fun _ z => nomatch z), g_eq (by rw [hS.len]; decide), fun i h1 h2 => List.getElem?_set_ne (Ne.symm h2)⟩
theorem shaped_bools : ∀ bs : List Bool, SeqAt.shaped (.list (bs.map PyData.bool)) = true := fun bs => by
  have h : PyData.canLayAll0 (bs.map PyData.bool) = true ∧ PyData.depthAll (bs.map PyData.bool) = 0 := by
    induction bs with
    | nil => exact ⟨rfl, rfl⟩
    | cons b bs ih =>
      obtain ⟨h1, h2⟩ := ih
      refine ⟨?_, ?_⟩
      · show (PyData.canLay0 (.bool b) && PyData.canLayAll0 (bs.map PyData.bool)) = true
        rw [h1]
        rfl
      · show max (PyData.depth (.bool b)) (PyData.depthAll (bs.map PyData.bool)) = 0
        rw [h2]
        rfl
  obtain ⟨h1, h2⟩ := h
  show (PyData.canLayAll0 (bs.map PyData.bool) && decide (PyData.depthAll (bs.map PyData.bool) + 1 ≤ 64)) = true
  rw [h1, h2]
  rfl
theorem nmem_bools (bs : List Bool) : cop .nmem (.bool false) (.list (bs.map PyData.bool)) = some (!bs.any fun b => !b) := by
  have hs : SeqAt.shaped (.bool false) = true := rfl
  show (if (SeqAt.shaped (.bool false) && SeqAt.shaped (.list (bs.map PyData.bool))) = true then some (!(bs.map PyData.bool).any fun z => PyData.eqv z (.bool false)) else none) = _
  rw [hs, shaped_bools]
  show some (!(bs.map PyData.bool).any fun z => PyData.eqv z (.bool false)) = _
  congr 2
  induction bs with
  | nil => rfl
  | cons b bs ih =>
    rw [List.map_cons, List.any_cons, List.any_cons, ih]
    cases b <;> rfl
theorem lixD {e : En} {a b : FV} {x : List Dt} {e1 e2 : En} {i : Nat} {y : Int} {d : Dt} (ha : a e = some (.loc i, e1)) (hb : b e1 = some (.d (.int y), e2)) (hi : e2[i]? = some (.ow false x)) (h : ixD x y = some d) : vIx a b e = some (.d d, e2) := by
  simp only [List.getElem?_cons_zero, List.getElem?_cons_succ, List.set_cons_zero, List.set_cons_succ, List.replicate_succ, List.replicate_zero, List.cons_append, List.nil_append, x_vCst, x_vNm, x_vBin, x_vNeg, x_vBits, x_vCmp, x_vCmp2, x_vAnd, x_vOr, x_vNot, x_vIte, x_vTup, x_vLst, x_vIx, x_vSlF, x_vSlT, x_vSl, x_vRev, x_vCall, x_vBlt, x_vBlt2, x_vPop, x_vPopAt, x_fYes, x_vFz, x_vNo, x_tOf, x_tAnd, x_tOr, x_tNot, x_iOf, x_iNo, x_iRng1, x_iRng2, x_iRng3, x_iEnum, x_iZip, x_iRevd, x_aNil, x_aCons, x_dNil, x_dCons, x_sAsg, x_sAsgT, x_sPar, x_sSet, x_sAug, x_sAugS, x_sApp, x_sExt, x_sEx, x_sIte, x_sRet, x_sRetN, x_sBrk, x_sCont, x_sPass, x_sNo, x_sSeq, argsOf, argOf, locs, backs, nd0, nd1, store, put, frz, tgt, tgts, isOw, z_add, z_sub, z_xor, z_eq, z_ne, z_lt, z_le, z_gt, z_ge, z_dd, z_do, z_dl, z_tb, z_lenL, z_lenT, z_int, z_intB, z_abs, z_max, z_min, z_tupL, z_tupT, z_lstL, z_lstT, z_scr, ix0, ix1, ix2, ix3, ix4, ixn1, ixn2, ixn3, ixn4, decide_true, decide_false, if_true, if_false, Bool.false_eq_true, Bool.and_true, Bool.true_and, Bool.not_true, Bool.not_false, x_turnC, wipeE, back, x_sForB, x_forB, List.getD_cons_zero, List.getD_cons_succ, ha, hb, hi, h]
theorem s18_ok {e : En} {xs : List Dt} (hS : St e xs) {n : Nat} {m : Int} {as bs : List Int} (h6 : e[6]? = some (.fz (.int n))) (h16 : e[16]? = some (.fz (.tuple (il bs)))) (h17 : e[17]? = some (.fz (.int (max as.length bs.length : Nat)))) (h18 : e[18]? = some (.ow false (il (addL as bs))))
    (ha : as.length ≤ 142) (hb : bs.length ≤ 15) (hm : 0 ≤ m) (hm2 : m < 5000) (da : Dg fS gS 0 (n : Int) as) (db : Dg fS gS 0 m bs) : (sIte (tAnd (tOf (vCmp .nmem (vCst (.bool false)) (vComp (vCmp .le (vIx (vNm 18) (vNm 3)) (vBin .add (vNm 3) (vCst (.int 1)))) [3] (.nm 3) (iRng1 (vNm 17)) fYes))) (tOf (vCmp .ne (vCall ((run G.M G.P 59) 4) (aCons (vBin .add (vNm 6) (vCall ((run G.M G.P 59) 17) (aCons (vFz (vNm 16)) aNil))) aNil)) (vBlt .tuple (vNm 18))))) (sSeq (sRet (vCst (.bool false))) sPass) sPass) e = some (.nx e) := by
  have hw : max as.length bs.length ≤ 142 := by omega
  have hc := compL_rng (f := turnC (vCmp .le (vIx (vNm 18) (vNm 3)) (vBin .add (vNm 3) (vCst (.int 1)))) [3] (.nm 3) fYes)
    (e0 := e) (ψ := fun j => .bool (decide ((addL as bs).getD j 0 ≤ (j : Int) + 1))) (max as.length bs.length) 0 (fun j _ hj => by
      have q3 : (e.set 3 (.fz (.int (j : Int))))[3]? = some (.fz (.int (j : Int))) := g_eq (by rw [hS.len]; decide)
      have q18 := g_ne (s := .fz (.int (j : Int))) h18 (show 3 ≠ 18 by decide)
      have hl : vNm 18 (e.set 3 (.fz (.int (j : Int)))) = some (.loc 18, e.set 3 (.fz (.int (j : Int)))) := by
        unfold vNm
        rw [q18]
      have i1 : ixD (il (addL as bs)) (j : Int) = some (.int ((addL as bs).getD j 0)) := by
        have := pad_ix (ds := addL as bs) (m := 0) (k := j) (by rw [addL_len]; omega)
        rw [List.replicate_zero, List.append_nil] at this
        exact this
      exact turn1 hS.u3 rfl (vcmp_of (lixD hl (nm_fz q3) q18 i1) (add_of (nm_fz q3) (b := vCst (.int 1)) rfl) z_le))
  have hcm : (List.range' 0 (max as.length bs.length)).map (fun j => PyData.bool (decide ((addL as bs).getD j 0 ≤ (j : Int) + 1))) = ((List.range' 0 (max as.length bs.length)).map fun j => decide ((addL as bs).getD j 0 ≤ (j : Int) + 1)).map PyData.bool := by
    rw [List.map_map]
    rfl
  rw [hcm] at hc
  have hcomp := comp1 hS.u3 (rng1_of (nm_fz h17) (by omega)) hc (small_il (by rw [List.length_map, List.length_map, List.length_range']; omega))
  have t1 := tcmp_do (op := .nmem) (a := vCst (.bool false)) (e := e) rfl hcomp (nmem_bools _)
  by_cases all : ∀ k, as.getD k 0 + bs.getD k 0 ≤ ((0 : Nat) : Int) + k + 1
  · have hany : (((List.range' 0 (max as.length bs.length)).map fun j => decide ((addL as bs).getD j 0 ≤ (j : Int) + 1)).any fun b => !b) = false := by
      rw [List.any_eq_false]
      intro b hb'
      obtain ⟨j, _, rfl⟩ := List.mem_map.mp hb'
      have := all j
      rw [addL_get, decide_eq_true (by omega)]
      decide
    rw [hany] at t1
    have hd := add_steps as bs 0 (n : Int) m (by omega) hm da db all
    obtain ⟨ec, hr⟩ := steps_ok 58 (n := (n : Int) + m) (by omega) hd (by rw [addL_len]; omega)
    obtain ⟨ec2, hu⟩ := unsteps_ok 58 hm (by omega) db (by omega)
    have htup : vBlt .tuple (vNm 18) e = some (.d (.tuple (il (addL as bs))), e) := by
      have : vNm 18 e = some (.loc 18, e) := by
        unfold vNm
        rw [h18]
      simp only [List.getElem?_cons_zero, List.getElem?_cons_succ, List.set_cons_zero, List.set_cons_succ, List.replicate_succ, List.replicate_zero, List.cons_append, List.nil_append, x_vCst, x_vNm, x_vBin, x_vNeg, x_vBits, x_vCmp, x_vCmp2, x_vAnd, x_vOr, x_vNot, x_vIte, x_vTup, x_vLst, x_vIx, x_vSlF, x_vSlT, x_vSl, x_vRev, x_vCall, x_vBlt, x_vBlt2, x_vPop, x_vPopAt, x_fYes, x_vFz, x_vNo, x_tOf, x_tAnd, x_tOr, x_tNot, x_iOf, x_iNo, x_iRng1, x_iRng2, x_iRng3, x_iEnum, x_iZip, x_iRevd, x_aNil, x_aCons, x_dNil, x_dCons, x_sAsg, x_sAsgT, x_sPar, x_sSet, x_sAug, x_sAugS, x_sApp, x_sExt, x_sEx, x_sIte, x_sRet, x_sRetN, x_sBrk, x_sCont, x_sPass, x_sNo, x_sSeq, argsOf, argOf, locs, backs, nd0, nd1, store, put, frz, tgt, tgts, isOw, z_add, z_sub, z_xor, z_eq, z_ne, z_lt, z_le, z_gt, z_ge, z_dd, z_do, z_dl, z_tb, z_lenL, z_lenT, z_int, z_intB, z_abs, z_max, z_min, z_tupL, z_tupT, z_lstL, z_lstT, z_scr, ix0, ix1, ix2, ix3, ix4, ixn1, ixn2, ixn3, ixn4, decide_true, decide_false, if_true, if_false, Bool.false_eq_true, Bool.and_true, Bool.true_and, Bool.not_true, Bool.not_false, x_turnC, wipeE, back, x_sForB, x_forB, List.getD_cons_zero, List.getD_cons_succ, this, h18]
    have t2 := tcmp_of (op := .ne) (call1_of (add_of (nm_fz h6) (call1_of (fz_fz h16) hu)) hr) htup (ne_tup _)
    refine sIte_f (e1 := e) ?_ rfl
    unfold tAnd
    rw [t1]
    exact t2
  · have hex : ∃ k : Nat, ¬ as.getD k 0 + bs.getD k 0 ≤ ((0 : Nat) : Int) + k + 1 := Classical.not_forall.mp all
    obtain ⟨k, hk⟩ := hex
    have hk2 : k < max as.length bs.length := by
      refine Classical.byContradiction fun z => hk ?_
      rw [List.getD_eq_getElem?_getD, List.getD_eq_getElem?_getD, List.getElem?_eq_none (by omega), List.getElem?_eq_none (by omega)]
      show (0 : Int) + 0 ≤ _
      omega
    have hany : (((List.range' 0 (max as.length bs.length)).map fun j => decide ((addL as bs).getD j 0 ≤ (j : Int) + 1)).any fun b => !b) = true := by
      rw [List.any_eq_true]
      refine ⟨false, List.mem_map.mpr ⟨k, ?_, ?_⟩, rfl⟩
      · rw [List.mem_range'_1]
        omega
      · rw [addL_get, decide_eq_false (by omega)]
    rw [hany] at t1
    refine sIte_f (e1 := e) ?_ rfl
    unfold tAnd
    rw [t1]
    rfl
/-- one turn of the law's loop -/
theorem turn_ok {e : En} {xs : List Dt} (hS : St e xs) (d : Dt) : ∃ e' xs', forB (.nm 2) (sSeq (sAsg 6 (vBin .add (vCst (.int 1)) (vIx (vTup (dCons (vCall ((run G.M G.P 59) 5) (aCons (vNm 1) (aCons (vCst (.int 300)) aNil))) (dCons (vCall ((run G.M G.P 59) 13) (aCons (vNm 1) aNil)) (dCons (vBlt .abs (vCall ((run G.M G.P 59) 16) (aCons (vNm 1) aNil))) dNil)))) (vCall ((run G.M G.P 59) 5) (aCons (vNm 1) (aCons (vCst (.int 3)) aNil)))))) (sSeq (sAsg 7 (vBin .add (vCst (.int 2)) (vCall ((run G.M G.P 59) 5) (aCons (vNm 1) (aCons (vCst (.int 29)) aNil))))) (sSeq (sAsg 8 (vBin .add (vCst (.int 3)) (vBin .mul (vCst (.int 2)) (vCall ((run G.M G.P 59) 5) (aCons (vNm 1) (aCons (vCst (.int 14)) aNil)))))) (sSeq (sFor (.nm 9) (iOf (vTup (dCons (vNm 7) (dCons (vBin .sub (vCst (.int 0)) (vNm 7)) dNil)))) (sSeq (sAsg 10 (vCall ((run G.M G.P 59) 7) (aCons (vFz (vNm 6)) (aCons (vNm 9) aNil)))) (sSeq (sIte (tOr (tOf (vCmp .ne (vCall ((run G.M G.P 59) 7) (aCons (vBin .mul (vNm 6) (vNm 9)) (aCons (vNm 9) aNil))) (vBin .add (vTup (dCons (vCst (.int 0)) dNil)) (vNm 10)))) (tOr (tOf (vCmp .ne (vCall ((run G.M G.P 59) 14) (aCons (vFz (vNm 10)) (aCons (vNm 9) aNil))) (vNm 6))) (tOf (vCmp .ne (vBin .mod (vBlt .int (vBin .sub (vBlt .sum (vNm 10)) (vNm 6))) (vBlt .abs (vBin .sub (vNm 9) (vCst (.int 1))))) (vCst (.int 0)))))) (sSeq (sRet (vCst (.bool false))) sPass) sPass) sPass))) (sSeq (sAsg 10 (vCall ((run G.M G.P 59) 3) (aCons (vFz (vNm 6)) (aCons (vNm 8) aNil)))) (sSeq (sIte (tOr (tOf (vCmp .ne (vCall ((run G.M G.P 59) 3) (aCons (vBin .sub (vCst (.int 0)) (vNm 6)) (aCons (vNm 8) aNil))) (vBlt .tuple (vComp (vBin .sub (vCst (.int 0)) (vNm 19)) [19] (.nm 19) (iOf (vNm 10)) fYes)))) (tOr (tOf (vCmp .ne (vCall ((run G.M G.P 59) 3) (aCons (vBin .mul (vNm 6) (vNm 8)) (aCons (vNm 8) aNil))) (vBin .add (vTup (dCons (vCst (.int 0)) dNil)) (vNm 10)))) (tOf (vCmp .ne (vBin .mod (vBlt .int (vBin .sub (vBlt .sum (vNm 10)) (vNm 6))) (vBin .sub (vNm 8) (vCst (.int 1)))) (vCst (.int 0)))))) (sSeq (sRet (vCst (.bool false))) sPass) sPass) (sSeq (sIte (tOf (vCmp .ne (vCall ((run G.M G.P 59) 9) (aCons (vBin .add (vNm 10) (vTup (dCons (vCst (.int 1)) dNil))) (aCons (vNm 8) aNil))) (vBin .add (vNm 6) (vCall ((run G.M G.P 59) 1) (aCons (vNm 8) (aCons (vBlt .len (vNm 10)) aNil)))))) (sSeq (sRet (vCst (.bool false))) sPass) sPass) (sSeq (sIte (tOr (tOf (vCmp .ne (vCall ((run G.M G.P 59) 10) (aCons (vNm 6) aNil)) (vCall ((run G.M G.P 59) 11) (aCons (vFz (vNm 6)) aNil)))) (tOf (vCmp .ne (vCall ((run G.M G.P 59) 12) (aCons (vCall ((run G.M G.P 59) 10) (aCons (vNm 6) aNil)) aNil)) (vNm 6)))) (sSeq (sRet (vCst (.bool false))) sPass) sPass) (sSeq (sAsg 11 (vBlt .len (vCall ((run G.M G.P 59) 7) (aCons (vFz (vNm 6)) (aCons (vCst (.int 2)) aNil))))) (sSeq (sAsg 12 (vCall ((run G.M G.P 59) 1) (aCons (vCst (.int 2)) (aCons (vFz (vNm 11)) aNil)))) (sSeq (sAsg 13 (vBin .add (vCall ((run G.M G.P 59) 10) (aCons (vBin .sub (vBin .sub (vNm 12) (vCst (.int 1))) (vNm 6)) aNil)) (vBin .mul (vTup (dCons (vCst (.int 0)) dNil)) (vNm 11)))) (sSeq (sAsg 14 (vBin .add (vCall ((run G.M G.P 59) 10) (aCons (vNm 6) aNil)) (vBin .mul (vTup (dCons (vCst (.int 0)) dNil)) (vNm 11)))) (sSeq (sIte (tOf (vCmp .ne (vComp (vNm 3) [3] (.nm 3) (iRng1 (vNm 11)) (tOf (vCmp .ne (vIx (vNm 13) (vNm 3)) (vIx (vNm 14) (vNm 3))))) (vLst (dCons (vBin .sub (vNm 11) (vCst (.int 1))) dNil)))) (sSeq (sRet (vCst (.bool false))) sPass) sPass) (sSeq (sAsg 15 (vCall ((run G.M G.P 59) 4) (aCons (vFz (vNm 6)) aNil))) (sSeq (sAsg 16 (vCall ((run G.M G.P 59) 4) (aCons (vCall ((run G.M G.P 59) 5) (aCons (vNm 1) (aCons (vCst (.int 5000)) aNil))) aNil))) (sSeq (sAsg 17 (vBlt2 .max (vBlt .len (vNm 15)) (vBlt .len (vNm 16)))) (sSeq (sAsg 18 (vComp (vBin .add (vIx (vBin .add (vNm 15) (vBin .mul (vTup (dCons (vCst (.int 0)) dNil)) (vNm 17))) (vNm 3)) (vIx (vBin .add (vNm 16) (vBin .mul (vTup (dCons (vCst (.int 0)) dNil)) (vNm 17))) (vNm 3))) [3] (.nm 3) (iRng1 (vNm 17)) fYes)) (sSeq (sIte (tAnd (tOf (vCmp .nmem (vCst (.bool false)) (vComp (vCmp .le (vIx (vNm 18) (vNm 3)) (vBin .add (vNm 3) (vCst (.int 1)))) [3] (.nm 3) (iRng1 (vNm 17)) fYes))) (tOf (vCmp .ne (vCall ((run G.M G.P 59) 4) (aCons (vBin .add (vNm 6) (vCall ((run G.M G.P 59) 17) (aCons (vFz (vNm 16)) aNil))) aNil)) (vBlt .tuple (vNm 18))))) (sSeq (sRet (vCst (.bool false))) sPass) sPass) sPass)))))))))))))))))) d e = some (.nx e') ∧ St e' xs' ∧ (∃ n : Int, e'[6]? = some (.fz (.int n))) := by
  have hp : tgt (.nm 2) d e = some (e.set 2 (.fz d)) := put_of hS.np (by rw [hS.len]; decide)
  have S0 := hS.set (i := 2) (s := .fz d) (by decide) (fun _ z => nomatch z)
  obtain ⟨n, e1, x1, n1, n2, G1⟩ := s1_ok S0
  obtain ⟨s, e2, x2, s1, s2, G2⟩ := s2_ok G1.st
  obtain ⟨h, b, e3, x3, h1, h2, hb, G3⟩ := s3_ok G2.st
  have a6 := (G3.keep 6 (by decide) (by decide)).trans ((G2.keep 6 (by decide) (by decide)).trans G1.got)
  have a7 := (G3.keep 7 (by decide) (by decide)).trans G2.got
  obtain ⟨e4, r4, S4, k4⟩ := s4_ok G3.st a6 a7 n1 n2 s1 s2
  have b6 := (k4 6 (by decide) (by decide)).trans a6
  have b8 := (k4 8 (by decide) (by decide)).trans G3.got
  obtain ⟨ds, d1, d2, e5, G5⟩ := s5_ok S4 b6 b8 n2 h1 h2 hb
  have c6 := (G5.keep 6 (by decide) (by decide)).trans b6
  have c8 := (G5.keep 8 (by decide) (by decide)).trans b8
  have r6 := s6_ok G5.st c6 c8 G5.got n1 n2 h1 h2 hb d1 d2
  have r7 := s7_ok G5.st c6 c8 G5.got h1 h2 hb d1 d2
  obtain ⟨fs, f1, f2⟩ := ex_D2 140 n n2
  have r8 := s8_ok G5.st c6 f1 f2
  obtain ⟨e9, G9⟩ := s9_ok G5.st c6 f1 f2
  have d6 := (G9.keep 6 (by decide) (by decide)).trans c6
  obtain ⟨e10, G10⟩ := s10_ok G9.st G9.got f2
  have g6 := (G10.keep 6 (by decide) (by decide)).trans d6
  have g11 := (G10.keep 11 (by decide) (by decide)).trans G9.got
  obtain ⟨l1, l2⟩ := D2.len f1
  obtain ⟨es, m1, e11, G11⟩ := s11_ok G10.st g6 g11 G10.got f2 l1
  have i6 := (G11.keep 6 (by decide) (by decide)).trans g6
  have i11 := (G11.keep 11 (by decide) (by decide)).trans g11
  obtain ⟨e12, G12⟩ := s12_ok G11.st i6 i11 f2 f1 f2
  have j6 := (G12.keep 6 (by decide) (by decide)).trans i6
  have j11 := (G12.keep 11 (by decide) (by decide)).trans i11
  have j13 := (G12.keep 13 (by decide) (by decide)).trans G11.got
  have hlen1 : 1 ≤ fs.length := by
    refine Classical.byContradiction fun z => ?_
    have : fs.length = 0 := by omega
    rw [this] at l1
    omega
  have r13 := s13_ok G12.st j11 j13 G12.got f2 hlen1 l1 f1 m1
  obtain ⟨as, p1, p2, e14, G14⟩ := s14_ok G12.st j6 n2
  have o6 := (G14.keep 6 (by decide) (by decide)).trans j6
  obtain ⟨m, bs, q1, q2, q3, q4, e15, x15, G15⟩ := s15_ok G14.st
  have t6 := (G15.keep 6 (by decide) (by decide)).trans o6
  have t15 := (G15.keep 15 (by decide) (by decide)).trans G14.got
  obtain ⟨e16, G16⟩ := s16_ok G15.st t15 G15.got
  have u6 := (G16.keep 6 (by decide) (by decide)).trans t6
  have u15 := (G16.keep 15 (by decide) (by decide)).trans t15
  have u16 := (G16.keep 16 (by decide) (by decide)).trans G15.got
  obtain ⟨e17, G17⟩ := s17_ok G16.st u15 u16 G16.got p2 (by omega)
  have v6 := (G17.keep 6 (by decide) (by decide)).trans u6
  have v16 := (G17.keep 16 (by decide) (by decide)).trans u16
  have v17 := (G17.keep 17 (by decide) (by decide)).trans G16.got
  have r18 := s18_ok G17.st v6 v16 v17 G17.got p2 q4 q1 q2 p1 q3
  refine ⟨e17, x15, ?_, G17.st, ⟨_, v6⟩⟩
  rw [x_forB, hp]
  exact sSeq_nx G1.run (sSeq_nx G2.run (sSeq_nx G3.run (sSeq_nx r4 (sSeq_nx G5.run (sSeq_nx r6 (sSeq_nx r7 (sSeq_nx r8 (sSeq_nx G9.run (sSeq_nx G10.run (sSeq_nx G11.run (sSeq_nx G12.run (sSeq_nx r13 (sSeq_nx G14.run (sSeq_nx G15.run (sSeq_nx G16.run (sSeq_nx G17.run (sSeq_nx r18 rfl)))))))))))))))))
end Lawk83
end

section
set_option maxHeartbeats 4000000
set_option exponentiation.threshold 500000
namespace Lawk83
open PySem De

theorem compF {e : En} {i : Nat} {d0 : Dt} {elt : FV} {c : FT} {it : FI} {ds ys : List Dt} (hf : e[i]? = some (.fz d0)) (hit : it e = some (ds, e)) (hc : compL (turnC elt [i] (.nm i) c) ds (e.set i .un) = some (ys, e.set i .un)) (hs : small ys = true) : vComp elt [i] (.nm i) it c e = some (.own ys, e) := by
  have hw : wipeE e [i] = e.set i .un := rfl
  have hg : e.getD i .un = .fz d0 := by rw [List.getD_eq_getElem?_getD, hf]; rfl
  have hb : back e (e.set i .un) [i] = e := by
    show (e.set i .un).set i (e.getD i .un) = e
    rw [hg, List.set_set]
    apply List.ext_getElem?
    intro j
    by_cases q : i = j
    · subst q
      rw [List.getElem?_set_self (List.getElem?_eq_some_iff.mp hf).1, hf]
    · rw [List.getElem?_set_ne q]
  have ho : ownOk e [i] = true := by
    unfold ownOk
    rw [List.all_cons, hf]
    rfl
  unfold vComp
  rw [hit]
  simp only [hw, hc, hs, ho, Bool.and_true, if_true, hb]
theorem fig_len {s : Nat} (hs : 2 ≤ s) : ∀ (ds : List Int) (n i : Nat), Dg (fF s) (gF s s) i (n : Int) ds → n < s ^ ds.length ∧ (ds ≠ [] → s ^ (ds.length - 1) ≤ n)
  | [], n, i, h => by
    generalize hz : (n : Int) = z at h
    cases h
    have : n = 0 := by omega
    subst this
    exact ⟨Nat.lt_of_lt_of_eq (Nat.lt_succ_self 0) (Nat.pow_zero s).symm, fun w => absurd rfl w⟩
  | d :: ds, n, i, h => by
    have key : n ≠ 0 ∧ Dg (fF s) (gF s s) (i + 1) ((n / s : Nat) : Int) ds := by
      generalize hz : (n : Int) = z at h
      generalize hE : d :: ds = es at h
      cases h with
      | nil => cases hE
      | cons w h =>
        cases hE
        subst hz
        refine ⟨by omega, ?_⟩
        have e1 : gF (s : Int) s i (n : Int) = ((n / s : Nat) : Int) := by
          rw [show gF (s : Int) s i (n : Int) = (n : Int).fdiv s from gF_pos (by omega) _, Int.fdiv_eq_ediv_of_nonneg _ (by omega)]
          simp
        rw [e1] at h
        exact h
    obtain ⟨hn, h2⟩ := key
    obtain ⟨k1, k2⟩ := fig_len hs ds (n / s) (i + 1) h2
    have hp : 0 < s := by omega
    refine ⟨?_, fun _ => ?_⟩
    · rw [List.length_cons, Nat.pow_succ]
      exact (Nat.div_lt_iff_lt_mul hp).mp k1
    · rw [List.length_cons, Nat.add_sub_cancel]
      cases ds with
      | nil => show 1 ≤ n; omega
      | cons x xs =>
        have h3 := k2 (List.cons_ne_nil _ _)
        simp only [List.length_cons, Nat.add_sub_cancel] at h3 ⊢
        rw [Nat.pow_succ]
        exact (Nat.le_div_iff_mul_le hp).mp h3
theorem len_le {s n k : Nat} (hs : 2 ≤ s) {ds : List Int} (h : Dg (fF s) (gF s s) 0 (n : Int) ds) : ds.length ≤ k ↔ n < s ^ k := by
  obtain ⟨h1, h2⟩ := fig_len hs ds n 0 h
  constructor
  · intro hl
    exact Nat.lt_of_lt_of_le h1 (Nat.pow_le_pow_right (by omega) hl)
  · intro hl
    refine Classical.byContradiction fun z => ?_
    have h3 := h2 (fun w => z (by rw [w]; exact Nat.zero_le _))
    have h4 : s ^ k ≤ s ^ (ds.length - 1) := Nat.pow_le_pow_right (by omega) (by omega)
    omega
theorem all_row {p : Nat} : ∀ (n i : Nat), i + n ≤ p → (List.range' i n).flatMap (fun j => if decide (j < p) then [PyData.int (j : Int)] else []) = (List.range' i n).map fun j : Nat => PyData.int (j : Int)
  | 0, _, _ => rfl
  | n + 1, i, h => by
    rw [List.range'_succ, List.flatMap_cons, decide_eq_true (show i < p by omega), all_row n (i + 1) (by omega)]
    rfl
theorem row_len (p q : Nat) : ((List.range' 0 (p + q)).flatMap fun j => if decide (j < p) then [PyData.int (j : Int)] else []).length = p := by
  have e : List.range' 0 (p + q) = List.range' 0 p ++ List.range' p q := by
    have := List.range'_append (s := 0) (m := p) (n := q) (step := 1)
    rw [Nat.one_mul, Nat.zero_add] at this
    exact this.symm
  rw [e, List.flatMap_append, all_row p 0 (by omega), last_only (fun j => PyData.int (j : Int)) (fun j => decide (j < p)) q p (fun j h1 h2 => decide_eq_false (by omega)), List.append_nil, List.length_map, List.length_range']
/-- the pool is made -/
theorem pool_ok (ns : List Int) : ∃ tl, run G.M G.P 59 0 [.fz (.dict [(.none, .list (il ns))]), .fz (.int 0)] = some (.own [.list (il ns), .int 0, .int 0, .int 1, .int 0, .int 0], .fz (.dict [(.none, .list (il ns))]) :: .fz (.int 0) :: tl) := by
  refine ⟨[], ?_⟩
  show runD (run G.M G.P 58) G.M ⟨"_law_pool", 2, 2, b__law_pool⟩ _ = _
  refine runD_own [.fz (.dict [(.none, .list (il ns))]), .fz (.int 0)] rfl rfl ?_
  show evB _ _ b__law_pool _ = _
  simp only [b__law_pool, evB, evS, ev, evs, mkV, mkI]
  have hs : small [PyData.list (il ns), .int 0, .int 0, .int 1, .int 0, .int 0] = true := rfl
  simp only [List.getElem?_cons_zero, List.getElem?_cons_succ, List.set_cons_zero, List.set_cons_succ, List.replicate_succ, List.replicate_zero, List.cons_append, List.nil_append, x_vCst, x_vNm, x_vBin, x_vNeg, x_vBits, x_vCmp, x_vCmp2, x_vAnd, x_vOr, x_vNot, x_vIte, x_vTup, x_vLst, x_vIx, x_vSlF, x_vSlT, x_vSl, x_vRev, x_vCall, x_vBlt, x_vBlt2, x_vPop, x_vPopAt, x_fYes, x_vFz, x_vNo, x_tOf, x_tAnd, x_tOr, x_tNot, x_iOf, x_iNo, x_iRng1, x_iRng2, x_iRng3, x_iEnum, x_iZip, x_iRevd, x_aNil, x_aCons, x_dNil, x_dCons, x_sAsg, x_sAsgT, x_sPar, x_sSet, x_sAug, x_sAugS, x_sApp, x_sExt, x_sEx, x_sIte, x_sRet, x_sRetN, x_sBrk, x_sCont, x_sPass, x_sNo, x_sSeq, argsOf, argOf, locs, backs, nd0, nd1, store, put, frz, tgt, tgts, isOw, z_add, z_sub, z_xor, z_eq, z_ne, z_lt, z_le, z_gt, z_ge, z_dd, z_do, z_dl, z_tb, z_lenL, z_lenT, z_int, z_intB, z_abs, z_max, z_min, z_tupL, z_tupT, z_lstL, z_lstT, z_scr, ix0, ix1, ix2, ix3, ix4, ixn1, ixn2, ixn3, ixn4, decide_true, decide_false, if_true, if_false, Bool.false_eq_true, Bool.and_true, Bool.true_and, Bool.not_true, Bool.not_false, x_turnC, wipeE, back, x_sForB, x_forB, List.getD_cons_zero, List.getD_cons_succ, hs]
theorem end_ok {e : En} {xs : List Dt} (hS : St e xs) {n0 : Int} (h6 : e[6]? = some (.fz (.int n0))) : ∃ e', sSeq (sAsg 3 (vBin .add (vCst (.int 1)) (vCall ((run G.M G.P 59) 5) (aCons (vNm 1) (aCons (vCst (.int 3)) aNil))))) (sSeq (sAsg 4 (vBin .add (vCst (.int 2)) (vCall ((run G.M G.P 59) 5) (aCons (vNm 1) (aCons (vCst (.int 5)) aNil))))) (sSeq (sAsg 5 (vCall ((run G.M G.P 59) 1) (aCons (vNm 4) (aCons (vFz (vNm 3)) aNil)))) (sSeq (sRet (vAnd (vCmp .eq (vBlt .len (vComp (vNm 6) [6] (.nm 6) (iRng1 (vBin .add (vNm 5) (vCst (.int 40)))) (tOf (vCmp .le (vBlt .len (vCall ((run G.M G.P 59) 7) (aCons (vFz (vNm 6)) (aCons (vNm 4) aNil)))) (vNm 3))))) (vNm 5)) (vCmp .eq (vCall ((run G.M G.P 59) 7) (aCons (vCst (.int 0)) (aCons (vNm 4) aNil))) (vTup dNil)))) sPass))) e = some (.rt (.d (.bool true)) e') := by
  obtain ⟨k, x1, e1, k1, k2, S1, w1, r1⟩ := draw1 hS (a := vCst (.int 3)) (size := 3) rfl (by decide) (by decide)
  have A := asg_d (i := 3) (add_of (a := vCst (.int 1)) (e := e) rfl r1) S1.np (by rw [S1.len]; decide)
  have np1 : ∀ (i : Nat) (ys : List Dt), (e1.set 3 (.fz (.int (1 + k))))[i]? ≠ some (.ow true ys) := fun j ys z => by
    rcases getSet z with ⟨_, z⟩ | ⟨_, z⟩
    · cases z
    · exact S1.np j ys z
  have l1 : (e1.set 3 (.fz (.int (1 + k)))).length = 20 := by rw [List.length_set]; exact S1.len
  obtain ⟨s, x2, s1, s2, p2, r2⟩ := draw_of 58 (e := e1.set 3 (.fz (.int (1 + k)))) (b := false) (a := vCst (.int 5)) (size := 5) (g_ne S1.pool (by decide)) S1.ok rfl (by decide) (by decide)
  generalize hE : (e1.set 3 (.fz (.int (1 + k)))).set 1 (.ow false x2) = e2 at r2
  have np2 : ∀ (i : Nat) (ys : List Dt), e2[i]? ≠ some (.ow true ys) := fun j ys z => by
    rw [← hE] at z
    rcases getSet z with ⟨_, z⟩ | ⟨_, z⟩
    · cases z
    · exact np1 j ys z
  have l2 : e2.length = 20 := by rw [← hE, List.length_set]; exact l1
  have g3 : e2[3]? = some (.fz (.int (1 + k))) := by
    rw [← hE]
    exact g_ne (g_eq (by rw [S1.len]; decide)) (by decide)
  have g6 : e2[6]? = some (.fz (.int n0)) := by
    rw [← hE]
    refine g_ne (g_ne ?_ (by decide)) (by decide)
    rw [w1 6 (by decide)]
    exact h6
  have B := asg_d (i := 4) (add_of (a := vCst (.int 2)) (e := e1.set 3 (.fz (.int (1 + k)))) rfl r2) np2 (by rw [l2]; decide)
  generalize hF : e2.set 4 (.fz (.int (2 + s))) = e3 at B
  have np3 : ∀ (i : Nat) (ys : List Dt), e3[i]? ≠ some (.ow true ys) := fun j ys z => by
    rw [← hF] at z
    rcases getSet z with ⟨_, z⟩ | ⟨_, z⟩
    · cases z
    · exact np2 j ys z
  have l3 : e3.length = 20 := by rw [← hF, List.length_set]; exact l2
  obtain ⟨kk, hkk⟩ : ∃ kk : Nat, (1 + k : Int) = kk := ⟨(1 + k).toNat, by omega⟩
  obtain ⟨ss, hss⟩ : ∃ ss : Nat, (2 + s : Int) = ss := ⟨(2 + s).toNat, by omega⟩
  have f3 : e3[3]? = some (.fz (.int kk)) := by
    rw [← hF, ← hkk]
    exact g_ne g3 (by decide)
  have f4 : e3[4]? = some (.fz (.int ss)) := by
    rw [← hF, ← hss]
    exact g_eq (by rw [l2]; decide)
  have f6 : e3[6]? = some (.fz (.int n0)) := by
    rw [← hF]
    exact g_ne g6 (by decide)
  have hs2 : 2 ≤ ss := by omega
  have hs6 : ss ≤ 6 := by omega
  have hk3 : kk ≤ 3 := by omega
  obtain ⟨ec, hp⟩ := power_ok 58 (b := (ss : Int)) (by omega) (m := kk) (by omega)
  have hpw : (ss : Int) ^ kk = ((ss ^ kk : Nat) : Int) := by simp
  rw [hpw] at hp
  have C5 := asg_d (i := 5) (call2_of (nm_fz f4) (fz_fz f3) hp) np3 (by rw [l3]; decide)
  generalize hH : e3.set 5 (.fz (.int ((ss ^ kk : Nat) : Int))) = e4 at C5
  have l4 : e4.length = 20 := by rw [← hH, List.length_set]; exact l3
  have q3 : e4[3]? = some (.fz (.int kk)) := by
    rw [← hH]
    exact g_ne f3 (by decide)
  have q4 : e4[4]? = some (.fz (.int ss)) := by
    rw [← hH]
    exact g_ne f4 (by decide)
  have q5 : e4[5]? = some (.fz (.int ((ss ^ kk : Nat) : Int))) := by
    rw [← hH]
    exact g_eq (by rw [l3]; decide)
  have q6 : e4[6]? = some (.fz (.int n0)) := by
    rw [← hH]
    exact g_ne f6 (by decide)
  have hpb : ss ^ kk ≤ 216 := Nat.le_trans (Nat.pow_le_pow_left hs6 kk) (Nat.pow_le_pow_right (by decide) hk3)
  have hu : (e4.set 6 .un)[6]? = some .un := g_eq (by rw [l4]; decide)
  have hc := compL_rngF (f := turnC (vNm 6) [6] (.nm 6) (tOf (vCmp .le (vBlt .len (vCall (run G.M G.P 59 7) (aCons (vFz (vNm 6)) (aCons (vNm 4) aNil)))) (vNm 3)))) (e0 := e4.set 6 .un) (ψ := fun j => if decide (j < ss ^ kk) then [PyData.int (j : Int)] else []) (ss ^ kk + 40) 0 (fun j _ hj => by
    obtain ⟨ds, hd, hl⟩ := ex_fig (s := (ss : Int)) (b := ss) (by omega) (.inl rfl) 8 (j : Int) (fun _ => by omega) (by show j ≤ 2 ^ 8; omega)
    have hf := fig_ok 57 (s := (ss : Int)) (b := ss) (by omega) (by omega) (.inl rfl) (fun _ => by omega) hd (by omega)
    have m6 : ((e4.set 6 .un).set 6 (.fz (.int (j : Int))))[6]? = some (.fz (.int (j : Int))) := g_eq (by rw [List.length_set, l4]; decide)
    have m4 : ((e4.set 6 .un).set 6 (.fz (.int (j : Int))))[4]? = some (.fz (.int ss)) := g_ne (g_ne q4 (by decide)) (by decide)
    have m3 : ((e4.set 6 .un).set 6 (.fz (.int (j : Int))))[3]? = some (.fz (.int kk)) := g_ne (g_ne q3 (by decide)) (by decide)
    have hlen := lenT_of (call2_of (fz_fz m6) (nm_fz m4) hf)
    rw [List.length_map] at hlen
    have hiff := len_le hs2 hd (k := kk)
    by_cases c : j < ss ^ kk
    · have := turn1 (elt := vNm 6) (d := .int (j : Int)) hu (tcmp_of (op := .le) hlen (nm_fz m3) (by rw [z_le, decide_eq_true (show (ds.length : Int) ≤ kk by have := hiff.mpr c; omega)])) (nm_fz m6)
      rw [this, decide_eq_true c]
      rfl
    · have := turn0 (elt := vNm 6) (d := .int (j : Int)) hu (tcmp_of (op := .le) hlen (nm_fz m3) (by rw [z_le, decide_eq_false (show ¬ (ds.length : Int) ≤ kk by intro w; exact c (hiff.mp (by omega)))]))
      rw [this, decide_eq_false c]
      rfl)
  have hit : iRng1 (vBin .add (vNm 5) (vCst (.int 40))) e4 = some (rngL 0 1 0 (ss ^ kk + 40), e4) := by
    refine rng1_of ?_ (by omega)
    rw [show ((ss ^ kk + 40 : Nat) : Int) = ((ss ^ kk : Nat) : Int) + 40 by omega]
    exact add_of (nm_fz q5) rfl
  have hrl := row_len (ss ^ kk) 40
  have hcomp := compF q6 hit hc (small_il (by rw [hrl]; omega))
  have hlen : vBlt .len (vComp (vNm 6) [6] (.nm 6) (iRng1 (vBin .add (vNm 5) (vCst (.int 40)))) (tOf (vCmp .le (vBlt .len (vCall (run G.M G.P 59 7) (aCons (vFz (vNm 6)) (aCons (vNm 4) aNil)))) (vNm 3)))) e4 = some (.d (.int ((ss ^ kk : Nat) : Int)), e4) := by
    rw [x_vBlt, hcomp]
    simp only [z_do, z_lenL, hrl]
  have hf0 := fig_ok 57 (s := (ss : Int)) (b := ss) (n := 0) (ds := []) (by omega) (by omega) (.inl rfl) (fun _ => by omega) .nil (by simp)
  have hs0 : small ([] : List Dt) = true := rfl
  have ht0 : vTup dNil e4 = some (.d (.tuple (il [])), e4) := by
    rw [x_vTup]
    simp only [x_dNil, hs0, if_true]
    rfl
  have t1 := vcmp_of (op := .eq) hlen (nm_fz q5) (by rw [z_eq, decide_eq_true rfl])
  have t2 := vcmp_of (op := .eq) (call2_of (a := vCst (.int 0)) (e := e4) rfl (nm_fz q4) hf0) ht0 (eq_tup [])
  refine ⟨e4, sSeq_nx A (sSeq_nx B (sSeq_nx C5 (sSeq_rt ?_)))⟩
  unfold sRet vAnd
  rw [t1]
  simp only [t2]
theorem law_true : ∀ ns : List Int, ns.length ≤ 63 → (∀ i ∈ ns, Builtin.Int.intBits i ≤ 1048576) → ∃ ec, run G.M G.P 60 18 (scr ns) = some (.d (.bool true), ec) := by
  intro ns _ _
  obtain ⟨tl, hp⟩ := pool_ok ns
  -- the slots at the start
  have S0 : St (([.fz (.dict [(.none, .list (il ns))])] ++ List.replicate 19 .un : En).set 1 (.ow false [.list (il ns), .int 0, .int 0, .int 1, .int 0, .int 0])) [.list (il ns), .int 0, .int 0, .int 1, .int 0, .int 0] :=
    ⟨rfl, rfl, ⟨ns, 0, 0, 1, 0, 0, rfl, by decide, by decide, by decide⟩, rfl, rfl, rfl, rfl, fun i ys z => by
      rcases getSet z with ⟨_, z⟩ | ⟨_, z⟩
      · cases z
      · cases i with
        | zero => cases z
        | succ i =>
          have := List.mem_of_getElem? (show (List.replicate 19 Sv.un)[i]? = some (Sv.ow true ys) from z)
          exact absurd (List.mem_replicate.mp this).2 (fun w => nomatch w)⟩
  obtain ⟨e1, x1, r1, S1, _⟩ := turn_ok S0 (.int 0)
  obtain ⟨e2, x2, r2, S2, _⟩ := turn_ok S1 (.int 1)
  obtain ⟨e3, x3, r3, S3, n0, h6⟩ := turn_ok S2 (.int 2)
  obtain ⟨e', r4⟩ := end_ok S3 h6
  refine ⟨e', ?_⟩
  show runD (run G.M G.P 59) G.M ⟨"law", 1, 20, b_law⟩ (scr ns) = _
  refine runD_d ([.fz (.dict [(.none, .list (il ns))])] ++ List.replicate 19 .un) rfl rfl ?_
  show evB _ _ b_law _ = _
  simp only [b_law, evB, evS, ev, evs, mkV, mkI]
  have a1 : sAsg 1 (vCall (run G.M G.P 59 0) (aCons (vNm 0) (aCons (vCst (.int 0)) aNil))) ([.fz (.dict [(.none, .list (il ns))])] ++ List.replicate 19 .un : En) = some (.nx (([.fz (.dict [(.none, .list (il ns))])] ++ List.replicate 19 .un : En).set 1 (.ow false [.list (il ns), .int 0, .int 0, .int 1, .int 0, .int 0]))) := by
    unfold sAsg
    rw [call2_of (a := vNm 0) (b := vCst (.int 0)) rfl rfl hp]
    rfl
  refine sSeq_nx a1 (sSeq_nx (sFor_of (rng1_of (n := 3) (a := vCst (.int 3)) rfl (by decide)) (r := some (.nx e3)) ?_) r4)
  show forL _ [PyData.int 0, .int 1, .int 2] _ = _
  rw [forL, r1]
  show forL _ [PyData.int 1, .int 2] e1 = _
  rw [forL, r2]
  show forL _ [PyData.int 2] e2 = _
  rw [forL, r3]
  rfl
end Lawk83
end
set_option maxHeartbeats 0
open PySem PySem.W PySem.Calls PyProof.Rows
theorem PySem.Challenge.cw_wholeproof_k83_whole_figures_of_changed_holds : PySem.Challenge.rw_wholeproof_k83_whole_figures_of_changed.Holds := by
  w_on; o_law
  refine HandSHeadRun.head_any (r := OpenLaw.row PySem.Challenge.rw_wholeproof_k83_whole_figures_of_changed) (q := view (OpenLaw.row PySem.Challenge.rw_wholeproof_k83_whole_figures_of_changed).prog [25]) (H := Lawk83.hk) (ob := Lawk83.ob) (M := 4000) (loose := Lawk83.loose) (d := HandSHeadRun.topDef (OpenLaw.row PySem.Challenge.rw_wholeproof_k83_whole_figures_of_changed).prog 25) (kwd := []) Lawk83.ob_eq
    (by kernel_rfl) (fun s => by kernel_rfl) Lawk83.run_eq (by kernel_rfl) (by kernel_rfl) (by kernel_rfl) (by rfl) (by first | assumption | decide +kernel) (by decide +kernel) ⟨rfl, rfl, rfl, rfl, rfl, by decide +kernel⟩ ?hw ?hc
  case hw => w_witness2
  case hc =>
    refine De.law_ends (l := PySem.Challenge.rw_wholeproof_k83_whole_figures_of_changed) (n := 63) (k := 60) (f := 18) (G := Lawk83.G) (df := ⟨"law", 1, 20, Lawk83.b_law⟩) rfl (by decide) (by kernel_rfl) ⟨rfl, by decide, by decide⟩ rfl rfl (fun w mg h Y Gn => ?_) Lawk83.law_true
    obtain ⟨K, KX, c⟩ := Y
    refine ⟨K, KX, De.gok KX Gn (by rw [← Lawk83.fa_eq]; exact c) Lawk83.chk, ?_⟩
    kernel_rfl
