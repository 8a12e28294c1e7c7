import PyProof.Rows.All
import Wide.All
import OpenK.AllK
import Wide.FinOn
import KE.LtData
import HandS.ForMost
import HandS.More
import HandS.Deep
import HandS.Wide
import HandS.TupAny
import HandS.SortInts
import HandS.Walk
import HandS.Zip
import HandS.Rev
import HandS.Iter
import HandS.Style
import HandS.NoneIn
import HandS.Defaults
import HandS.WordsExc
import HandS.EndBits
import HandS.TupLe
import HandS.TupMul
import KE.KTupSum
import HandS.WideBits
import KE.GoesMore
import HandS.IsInst
import HandS.RevTup
import HandS.Head0
import HandS.Head1
import HandS.Head2
import HandS.HeadEnd
import HandS.HeadHook1
import HandS.HeadHook2
import PySem.Challenge.RW_wholeproof_k93_whole_chains_of_sums_put
set_option Elab.async false
set_option linter.all false
set_option maxRecDepth 100000
section
namespace De
open PySem

/-! ### data, slots, results -/
abbrev Dt := PyData
inductive Sv where
  | un
  | fz (d : Dt)
  | ow (pin : Bool) (xs : List Dt)
inductive Rv where
  | d (x : Dt)
  | own (xs : List Dt)
  | loc (i : Nat)
abbrev En := List Sv
inductive Fl where
  | nx (e : En)
  | rt (r : Rv) (e : En)
  | bk (e : En)
  | ct (e : En)

/-! ### syntax -/
inductive Bop where
  | add | sub | mul | fdiv | mod | pow | xor
inductive Cop where
  | eq | ne | lt | le | gt | ge | isn | nisn | mem | nmem
inductive Blt where
  | len | abs | int | max | min | sum | any | all | tuple | list | sorted
inductive Ist where
  | tuple | list | bool | int | str
inductive Tg where
  | nm (i : Nat)
  | tp (t : Tg)
  | nil
  | cons (t u : Tg)
mutual
inductive E where
  | cst (d : Dt)
  | glob (x : Str) (d : Dt)
  | nm (i : Nat)
  | bin (op : Bop) (a b : E)
  | neg (a : E)
  | bits (a : E)
  | cmp (op : Cop) (a b : E)
  | cmp2 (op op2 : Cop) (a b c : E)
  | and (a b : E)
  | or (a b : E)
  | one (a : E)
  | not (a : E)
  | ite (c a b : E)
  | tup (es : Es)
  | lst (es : Es)
  | ix (a i : E)
  | slF (a lo : E)
  | slT (a hi : E)
  | sl (a lo hi : E)
  | rev (a : E)
  | call (f : Nat) (es : Es)
  | blt (b : Blt) (a : E)
  | blt2 (b : Blt) (a c : E)
  | isi (t : Ist) (a : E)
  | tupRev (a : E)
  | pop (i : Nat)
  | popAt (i : Nat) (a : E)
  | comp (elt : E) (own : List Nat) (t : Tg) (it : E)
  | compIf (elt : E) (own : List Nat) (t : Tg) (it : E) (c : E)
  | rng1 (a : E)
  | rng2 (a b : E)
  | rng3 (a b c : E)
  | enum (a : E)
  | zip (a b : E)
  | revd (a : E)
  | fz (a : E)
inductive Es where
  | nil
  | cons (e : E) (es : Es)
end
mutual
inductive S where
  | asg (t : Tg) (e : E)
  | par (t : Tg) (es : Es)
  | set (i : Nat) (ix e : E)
  | aug (i : Nat) (op : Bop) (e : E)
  | augS (i : Nat) (ix : E) (op : Bop) (e : E)
  | app (i : Nat) (e : E)
  | ext (i : Nat) (e : E)
  | ex (e : E)
  | ite (c : E) (t f : Ss)
  | whl (c : E) (b : Ss)
  | for (t : Tg) (it : E) (b : Ss)
  | ret (e : E)
  | retN
  | brk
  | cont
  | pass
  | never
inductive Ss where
  | nil
  | cons (s : S) (ss : Ss)
end

/-! ### operations -/
abbrev lim : Nat := 1000000
def small (xs : List Dt) : Bool := decide (xs.length ≤ lim)
def mulOk (a b : Int) : Bool := decide (a.natAbs.log2 + b.natAbs.log2 < 1000000)
def divOk (b : Int) : Bool := decide (b ≠ 0) && decide (b.natAbs.log2 < 9000)
def rep (k : Nat) (xs : List Dt) : List Dt := (List.replicate k xs).flatten
def bop : Bop → Dt → Dt → Option Rv
  | .add, .int a, .int b => some (.d (.int (a + b)))
  | .sub, .int a, .int b => some (.d (.int (a - b)))
  | .mul, .int a, .int b => if mulOk a b then some (.d (.int (a * b))) else none
  | .fdiv, .int a, .int b => if divOk b then some (.d (.int (a.fdiv b))) else none
  | .mod, .int a, .int b => if decide (b ≠ 0) then some (.d (.int (a.fmod b))) else none
  | .pow, .int a, .int b => if decide (0 ≤ b) && decide (b ≤ 1000000) && decide (a.natAbs < 18446744073709551616) then some (.d (.int (a ^ b.toNat))) else none
  | .xor, .int a, .int b => some (.d (.int (Builtin.bitXor a b)))
  | .add, .list xs, .list ys => if decide (xs.length + ys.length ≤ lim) then some (.own (xs ++ ys)) else none
  | .add, .tuple xs, .tuple ys => if decide (xs.length + ys.length ≤ lim) then some (.d (.tuple (xs ++ ys))) else none
  | .mul, .list xs, .int k => if decide (-1 ≤ k) && decide (k ≤ 1000000) && decide (xs.length * k.toNat ≤ lim) then some (.own (rep k.toNat xs)) else none
  | .mul, .tuple xs, .int k => if decide (0 ≤ k) && decide (k ≤ 1000) && decide (xs.length ≤ 1000) then some (.d (.tuple (rep k.toNat xs))) else none
  | _, _, _ => none
def ixD (xs : List Dt) (i : Int) : Option Dt := L2.atI xs i
def isNone : Dt → Bool
  | .none => true
  | _ => false
def cop : Cop → Dt → Dt → Option Bool
  | .eq, .int a, .int b => some (decide (a = b))
  | .ne, .int a, .int b => some (!decide (a = b))
  | .lt, .int a, .int b => some (decide (a < b))
  | .le, .int a, .int b => some (decide (a ≤ b))
  | .gt, .int a, .int b => some (decide (b < a))
  | .ge, .int a, .int b => some (decide (b ≤ a))
  | .eq, a, b => if SeqAt.shaped a && SeqAt.shaped b then some (PyData.eqv a b) else none
  | .ne, a, b => if SeqAt.shaped a && SeqAt.shaped b then some (!PyData.eqv a b) else none
  | .isn, a, .none => some (isNone a)
  | .nisn, a, .none => some (!isNone a)
  | .mem, a, .list xs => if SeqAt.shaped a && SeqAt.shaped (.list xs) then some (xs.any fun z => PyData.eqv z a) else none
  | .nmem, a, .list xs => if SeqAt.shaped a && SeqAt.shaped (.list xs) then some (!xs.any fun z => PyData.eqv z a) else none
  | .mem, .int a, .tuple xs => if xs.all (fun z => match z with | .int _ => true | _ => false) then some (xs.any fun z => match z with | .int i => decide (i = a) | _ => false) else none
  | .nmem, .int a, .tuple xs => if xs.all (fun z => match z with | .int _ => true | _ => false) then some (!xs.any fun z => match z with | .int i => decide (i = a) | _ => false) else none
  | _, _, _ => none
def truth : Dt → Option Bool
  | .bool b => some b
  | .int i => some (i != 0)
  | .list xs => some (!xs.isEmpty)
  | .tuple xs => some (!xs.isEmpty)
  | .none => some false
  | _ => none
def intsOf : List Dt → Option (List Int)
  | [] => some []
  | .int i :: r => match intsOf r with
    | some l => some (i :: l)
    | none => none
  | _ :: _ => none
def boolsOf : List Dt → Option (List Bool)
  | [] => some []
  | .bool i :: r => match boolsOf r with
    | some l => some (i :: l)
    | none => none
  | _ :: _ => none
def maxL : Int → List Int → Int
  | m, [] => m
  | m, x :: r => maxL (if x > m then x else m) r
def minL : Int → List Int → Int
  | m, [] => m
  | m, x :: r => minL (if x < m then x else m) r
def items : Dt → Option (List Dt)
  | .list xs => some xs
  | .tuple xs => some xs
  | _ => none
def insI (x : Int) : List Int → List Int
  | [] => [x]
  | y :: r => if x ≤ y then x :: y :: r else y :: insI x r
def sortI : List Int → List Int
  | [] => []
  | x :: r => insI x (sortI r)
def blt : Blt → List Dt → Option Rv
  | .len, [.list xs] => some (.d (.int xs.length))
  | .len, [.tuple xs] => some (.d (.int xs.length))
  | .abs, [.int a] => some (.d (.int (if a < 0 then -a else a)))
  | .int, [.int a] => some (.d (.int a))
  | .int, [.bool b] => some (.d (.int (if b then 1 else 0)))
  | .max, [.int a, .int b] => some (.d (.int (if b > a then b else a)))
  | .min, [.int a, .int b] => some (.d (.int (if b < a then b else a)))
  | .max, [.list xs] => match intsOf xs with
    | some (x :: r) => some (.d (.int (maxL x r)))
    | _ => none
  | .min, [.list xs] => match intsOf xs with
    | some (x :: r) => some (.d (.int (minL x r)))
    | _ => none
  | .sum, [.list xs] => match intsOf xs with
    | some ns => some (.d (.int ns.sum))
    | none => none
  | .sum, [.tuple xs] => match intsOf xs with
    | some ns => some (.d (.int ns.sum))
    | none => none
  | .any, [.list xs] => match boolsOf xs with
    | some bs => some (.d (.bool (bs.any id)))
    | none => none
  | .all, [.list xs] => match boolsOf xs with
    | some bs => some (.d (.bool (bs.all id)))
    | none => none
  | .tuple, [.list xs] => some (.d (.tuple xs))
  | .tuple, [.tuple xs] => some (.d (.tuple xs))
  | .list, [.list xs] => some (.own xs)
  | .list, [.tuple xs] => some (.own xs)
  | .list, [.dict [(.none, .list xs)]] => some (.own xs)
  | .sorted, [.list xs] => match intsOf xs with
    | some ns => some (.own ((sortI ns).map .int))
    | none => none
  | _, _ => none
def cut (xs : List Dt) (lo hi : Option Int) : List Dt := (xs.drop (HT.sIx xs.length 0 lo)).take (HT.sIx xs.length xs.length hi - HT.sIx xs.length 0 lo)
def slice : Dt → Option Int → Option Int → Option Rv
  | .list xs, lo, hi => some (.own (cut xs lo hi))
  | .tuple xs, lo, hi => some (.d (.tuple (cut xs lo hi)))
  | _, _, _ => none
def intOf : Dt → Option Int
  | .int i => some i
  | _ => none
def rngL (lo c : Int) : Nat → Nat → List Dt
  | _, 0 => []
  | i, n + 1 => .int (lo + (i : Nat) * c) :: rngL lo c (i + 1) n
def big : Int := 4611686018427387904
def rngOk (a : Int) : Bool := decide (a.natAbs < 4611686018427387904)
def enumL : Nat → List Dt → List Dt
  | _, [] => []
  | i, x :: r => .tuple [.int (i : Nat), x] :: enumL (i + 1) r
def zipL : List Dt → List Dt → List Dt
  | x :: r, y :: s => .tuple [x, y] :: zipL r s
  | _, _ => []

/-! ### slots -/
def deref (e : En) : Rv → Option Dt
  | .d x => some x
  | .own xs => some (.list xs)
  | .loc i => match e[i]? with
    | some (.fz d) => some d
    | some (.ow _ xs) => some (.list xs)
    | _ => none
def frz : Rv → En → Option (Dt × En)
  | .d x, e => some (x, e)
  | .own xs, e => some (.list xs, e)
  | .loc i, e => match e[i]? with
    | some (.fz d) => some (d, e)
    | some (.ow false xs) => some (.list xs, e.set i (.fz (.list xs)))
    | _ => none
/-- store to a slot (a pinned one is never stored to) -/
def put (e : En) (i : Nat) (s : Sv) : Option En := match e[i]? with
  | some (.ow true _) => none
  | some _ => some (e.set i s)
  | none => none
def store (e : En) (i : Nat) : Rv → Option En
  | .d x => put e i (.fz x)
  | .own xs => put e i (.ow false xs)
  | .loc j => match frz (.loc j) e with
    | some (d, e') => put e' i (.fz d)
    | none => none
mutual
/-- a datum to a target -/
def tgt : Tg → Dt → En → Option En
  | .nm i, d, e => put e i (.fz d)
  | .tp t, .tuple ds, e => tgts t ds e
  | .tp t, .list ds, e => tgts t ds e
  | _, _, _ => none
def tgts : Tg → List Dt → En → Option En
  | .nil, [], e => some e
  | .cons t u, d :: ds, e => match tgt t d e with
    | some e' => tgts u ds e'
    | none => none
  | _, _, _ => none
end
def wipeE (e : En) : List Nat → En
  | [] => e
  | v :: vs => (wipeE e vs).set v .un
/-- a block's end: the block's own slots as they were -/
def back (e e' : En) : List Nat → En
  | [] => e'
  | v :: vs => (back e e' vs).set v (e.getD v .un)

/-! ### loops -/
def forL (f : Dt → En → Option Fl) : List Dt → En → Option Fl
  | [], e => some (.nx e)
  | x :: xs, e => match f x e with
    | some (.nx e') => forL f xs e'
    | some (.ct e') => forL f xs e'
    | some (.bk e') => some (.nx e')
    | some (.rt r e') => some (.rt r e')
    | none => none
def whL (c : En → Option (Bool × En)) (b : En → Option Fl) : Nat → En → Option Fl
  | 0, _ => none
  | n + 1, e => match c e with
    | some (true, e1) => match b e1 with
      | some (.nx e2) => whL c b n e2
      | some (.ct e2) => whL c b n e2
      | some (.bk e2) => some (.nx e2)
      | some (.rt r e2) => some (.rt r e2)
      | none => none
    | some (false, e1) => some (.nx e1)
    | none => none
def compL (f : Dt → En → Option (List Dt × En)) : List Dt → En → Option (List Dt × En)
  | [], e => some ([], e)
  | x :: xs, e => match f x e with
    | some (ys, e1) => match compL f xs e1 with
      | some (zs, e2) => some (ys ++ zs, e2)
      | none => none
    | none => none

abbrev CF := Nat → List Sv → Option (Rv × En)
/-- an argument: a datum, or an own list that comes back -/
def argOf (e : En) : Rv → Option Sv
  | .d x => some (.fz x)
  | .own xs => some (.fz (.list xs))
  | .loc i => match e[i]? with
    | some (.fz d) => some (.fz d)
    | some (.ow _ xs) => some (.ow true xs)
    | _ => none
def argsOf (e : En) : List Rv → Option (List Sv)
  | [] => some []
  | r :: rs => match argOf e r with
    | some s => match argsOf e rs with
      | some l => some (s :: l)
      | none => none
    | none => none
/-- the places of the own lists that are passed -/
def locs : List Rv → List Nat
  | [] => []
  | .loc i :: rs => i :: locs rs
  | _ :: rs => locs rs
/-- what the callee left of them -/
def backs (e : En) : List Rv → En → Option En
  | [], _ => some e
  | .loc i :: rs, s :: ss => match e[i]? with
    | some (.ow b _) => match s with
      | .ow _ xs => backs (e.set i (.ow b xs)) rs ss
      | _ => none
    | _ => backs e rs ss
  | .d _ :: rs, _ :: ss => backs e rs ss
  | .own _ :: rs, _ :: ss => backs e rs ss
  | _ :: _, [] => none
/-- own slots of a block hold no own list -/
def ownOk (e : En) (own : List Nat) : Bool := own.all fun i => match e[i]? with
  | some (.fz _) => true
  | some .un => true
  | _ => false

/-! ### the evaluator, a combinator a construct -/
abbrev FV := En → Option (Rv × En)
abbrev FT := En → Option (Bool × En)
abbrev FI := En → Option (List Dt × En)
abbrev FA := En → Option (List Rv × En)
abbrev FS := En → Option Fl
def vCst (d : Dt) : FV := fun e => some (.d d, e)
def vNm (i : Nat) : FV := fun e => match e[i]? with
  | some (.fz d) => some (.d d, e)
  | some (.ow _ _) => some (.loc i, e)
  | _ => none
def vBin (op : Bop) (a b : FV) : FV := fun e => match a e with
  | some (x, e1) => match b e1 with
    | some (y, e2) => match deref e2 x, deref e2 y with
      | some p, some q => match bop op p q with
        | some r => some (r, e2)
        | none => none
      | _, _ => none
    | none => none
  | none => none
def vNeg (a : FV) : FV := fun e => match a e with
  | some (.d (.int i), e1) => some (.d (.int (-i)), e1)
  | _ => none
def vBits (a : FV) : FV := fun e => match a e with
  | some (.d (.int i), e1) => some (.d (.int (Builtin.Int.intBits i : Nat)), e1)
  | _ => none
def vCmp (op : Cop) (a b : FV) : FV := fun e => match a e with
  | some (x, e1) => match b e1 with
    | some (y, e2) => match deref e2 x, deref e2 y with
      | some p, some q => match cop op p q with
        | some k => some (.d (.bool k), e2)
        | none => none
      | _, _ => none
    | none => none
  | none => none
def vCmp2 (op op2 : Cop) (a b c : FV) : FV := fun e => match a e with
  | some (x, e1) => match b e1 with
    | some (y, e2) => match deref e2 x, deref e2 y with
      | some p, some q => match cop op p q with
        | some true => match c e2 with
          | some (z, e3) => match deref e3 y, deref e3 z with
            | some q', some r => match cop op2 q' r with
              | some k => some (.d (.bool k), e3)
              | none => none
            | _, _ => none
          | none => none
        | some false => some (.d (.bool false), e2)
        | none => none
      | _, _ => none
    | none => none
  | none => none
def vAnd (a b : FV) : FV := fun e => match a e with
  | some (.d (.bool true), e1) => b e1
  | some (.d (.bool false), e1) => some (.d (.bool false), e1)
  | _ => none
def vOr (a b : FV) : FV := fun e => match a e with
  | some (.d (.bool true), e1) => some (.d (.bool true), e1)
  | some (.d (.bool false), e1) => b e1
  | _ => none
def vNot (a : FV) : FV := fun e => match a e with
  | some (.d (.bool k), e1) => some (.d (.bool (!k)), e1)
  | _ => none
def vIte (c : FT) (a b : FV) : FV := fun e => match c e with
  | some (true, e1) => a e1
  | some (false, e1) => b e1
  | none => none
def vTup (es : FI) : FV := fun e => match es e with
  | some (ds, e2) => if small ds then some (.d (.tuple ds), e2) else none
  | none => none
def vLst (es : FI) : FV := fun e => match es e with
  | some (ds, e2) => if small ds then some (.own ds, e2) else none
  | none => none
def vIx (a i : FV) : FV := fun e => match a e with
  | some (x, e1) => match i e1 with
    | some (.d (.int k), e2) => match deref e2 x with
      | some (.list xs) => match ixD xs k with
        | some d => some (.d d, e2)
        | none => none
      | some (.tuple xs) => match ixD xs k with
        | some d => some (.d d, e2)
        | none => none
      | _ => none
    | _ => none
  | none => none
def vSlF (a lo : FV) : FV := fun e => match a e with
  | some (x, e1) => match lo e1 with
    | some (.d (.int k), e2) => match deref e2 x with
      | some d => match slice d (some k) none with
        | some r => some (r, e2)
        | none => none
      | none => none
    | _ => none
  | none => none
def vSlT (a hi : FV) : FV := fun e => match a e with
  | some (x, e1) => match hi e1 with
    | some (.d (.int k), e2) => match deref e2 x with
      | some d => match slice d none (some k) with
        | some r => some (r, e2)
        | none => none
      | none => none
    | _ => none
  | none => none
def vSl (a lo hi : FV) : FV := fun e => match a e with
  | some (x, e1) => match lo e1 with
    | some (.d (.int k), e2) => match hi e2 with
      | some (.d (.int l), e3) => match deref e3 x with
        | some d => match slice d (some k) (some l) with
          | some r => some (r, e3)
          | none => none
        | none => none
      | _ => none
    | _ => none
  | none => none
def vRev (a : FV) : FV := fun e => match a e with
  | some (x, e1) => match deref e1 x with
    | some (.list xs) => some (.own xs.reverse, e1)
    | _ => none
  | none => none
def vCall (c : List Sv → Option (Rv × En)) (es : FA) : FV := fun e => match es e with
  | some (rs, e1) => match argsOf e1 rs with
    | some svs => if decide (locs rs).Nodup then match c svs with
        | some (r, ec) => match backs e1 rs ec with
          | some e2 => some (r, e2)
          | none => none
        | none => none
      else none
    | none => none
  | none => none
def vBlt (b : Blt) (a : FV) : FV := fun e => match a e with
  | some (x, e1) => match deref e1 x with
    | some d => match blt b [d] with
      | some r => some (r, e1)
      | none => none
    | none => none
  | none => none
def vBlt2 (b : Blt) (a c : FV) : FV := fun e => match a e with
  | some (.d x, e1) => match c e1 with
    | some (.d y, e2) => match blt b [x, y] with
      | some r => some (r, e2)
      | none => none
    | _ => none
  | _ => none
/-- isinstance, by the datum's type -/
def isT : Ist → Dt → Option Bool
  | .bool, .bool _ => some true
  | .int, .bool _ => some true
  | _, .bool _ => some false
  | .int, .int _ => some true
  | _, .int _ => some false
  | .str, .str _ => some true
  | _, .str _ => some false
  | .list, .list _ => some true
  | _, .list _ => some false
  | .tuple, .tuple _ => some true
  | _, .tuple _ => some false
  | _, .none => some false
  | _, .dict _ => none
def vIsi (t : Ist) (a : FV) : FV := fun e => match a e with
  | some (x, e1) => match deref e1 x with
    | some d => match isT t d with
      | some k => some (.d (.bool k), e1)
      | none => none
    | none => none
  | none => none
def vTupRev (a : FV) : FV := fun e => match a e with
  | some (x, e1) => match deref e1 x with
    | some (.list xs) => some (.d (.tuple xs.reverse), e1)
    | _ => none
  | none => none
def vPop (i : Nat) : FV := fun e => match e[i]? with
  | some (.ow b xs) => match xs[xs.length - 1]? with
    | some d => some (.d d, e.set i (.ow b xs.dropLast))
    | none => none
  | _ => none
def isOw (e : En) (i : Nat) : Bool := match e[i]? with
  | some (.ow _ _) => true
  | _ => false
def vPopAt (i : Nat) (a : FV) : FV := fun e => match a e with
  | some (.d (.int k), e1) => match e1[i]? with
    | some (.ow b xs) => match L2.ixN xs.length k with
      | some j => match xs[j]? with
        | some d => if rngOk k && isOw e i then some (.d d, e1.set i (.ow b (xs.eraseIdx j))) else none
        | none => none
      | none => none
    | _ => none
  | _ => none
/-- one turn of a comprehension -/
def turnC (elt : FV) (own : List Nat) (t : Tg) (c : FT) : Dt → En → Option (List Dt × En) := fun d e => match tgt t d e with
  | some e2 => match c e2 with
    | some (true, e2) => match elt e2 with
      | some (r, e3) => match frz r e3 with
        | some (y, e4) => some ([y], wipeE e4 own)
        | none => none
      | none => none
    | some (false, e2) => some ([], wipeE e2 own)
    | none => none
  | none => none
def fYes : FT := fun e => some (true, e)
def tgN : Tg → List Nat
  | .nm i => [i]
  | .tp t => tgN t
  | .nil => []
  | .cons t u => tgN t ++ tgN u
def vComp (elt : FV) (own : List Nat) (t : Tg) (it : FI) (c : FT) : FV := fun e => match it e with
  | some (ds, e1) => match compL (turnC elt own t c) ds (wipeE e1 own) with
    | some (ys, e2) => if small ys && ownOk e1 own then some (.own ys, back e1 e2 own) else none
    | none => none
  | none => none
def vFz (a : FV) : FV := fun e => match a e with
  | some (x, e1) => match frz x e1 with
    | some (d, e2) => some (.d d, e2)
    | none => none
  | none => none
def vNo : FV := fun _ => none
/-- a test by a value -/
def tOf (a : FV) : FT := fun e => match a e with
  | some (x, e1) => match deref e1 x with
    | some d => match truth d with
      | some k => some (k, e1)
      | none => none
    | none => none
  | none => none
def tAnd (a b : FT) : FT := fun e => match a e with
  | some (true, e1) => b e1
  | some (false, e1) => some (false, e1)
  | none => none
def tOr (a b : FT) : FT := fun e => match a e with
  | some (true, e1) => some (true, e1)
  | some (false, e1) => b e1
  | none => none
def tNot (a : FT) : FT := fun e => match a e with
  | some (k, e1) => some (!k, e1)
  | none => none
/-- walked as a list or a tuple -/
def iOf (a : FV) : FI := fun e => match a e with
  | some (x, e1) => match frz x e1 with
    | some (.list xs, e2) => some (xs, e2)
    | some (.tuple xs, e2) => some (xs, e2)
    | _ => none
  | none => none
def iNo : FI := fun _ => none
def iRng1 (a : FV) : FI := fun e => match a e with
  | some (.d (.int n), e1) => if rngOk n then some (rngL 0 1 0 n.toNat, e1) else none
  | _ => none
def iRng2 (a b : FV) : FI := fun e => match a e with
  | some (.d (.int m), e1) => match b e1 with
    | some (.d (.int n), e2) => if rngOk m && rngOk n then some (rngL m 1 0 (n - m).toNat, e2) else none
    | _ => none
  | _ => none
def rng3Ok (m n k : Int) : Bool := decide (k ≠ 0) && decide (k.natAbs < 1073741824) && Builtin.Range.small m n k && decide (0 ≤ Builtin.Range.rangeSize m n k)
def iRng3 (a b c : FV) : FI := fun e => match a e with
  | some (.d (.int m), e1) => match b e1 with
    | some (.d (.int n), e2) => match c e2 with
      | some (.d (.int k), e3) => if rng3Ok m n k then some (rngL m k 0 (Builtin.Range.rangeSize m n k).toNat, e3) else none
      | _ => none
    | _ => none
  | _ => none
def iEnum (a : FV) : FI := fun e => match a e with
  | some (x, e1) => match frz x e1 with
    | some (.list xs, e2) => some (enumL 0 xs, e2)
    | some (.tuple xs, e2) => some (enumL 0 xs, e2)
    | _ => none
  | none => none
def iZip (a b : FV) : FI := fun e => match a e with
  | some (x, e1) => match frz x e1 with
    | some (p, e2) => match b e2 with
      | some (y, e3) => match frz y e3 with
        | some (q, e4) => match p, q with
          | .list xs, .list ys => some (zipL xs ys, e4)
          | .tuple xs, .tuple ys => some (zipL xs ys, e4)
          | _, _ => none
        | none => none
      | none => none
    | none => none
  | none => none
def iRevd (a : FV) : FI := fun e => match a e with
  | some (x, e1) => match frz x e1 with
    | some (.list xs, e2) => some (xs.reverse, e2)
    | some (.tuple xs, e2) => some (xs.reverse, e2)
    | _ => none
  | none => none
/-- arguments: a new list is frozen, an own one of a slot is passed -/
def aNil : FA := fun e => some ([], e)
def aCons (a : FV) (es : FA) : FA := fun e => match a e with
  | some (.loc i, e1) => match es e1 with
    | some (xs, e2) => some (.loc i :: xs, e2)
    | none => none
  | some (.d x, e1) => match es e1 with
    | some (xs, e2) => some (.d x :: xs, e2)
    | none => none
  | some (.own x, e1) => match es e1 with
    | some (xs, e2) => some (.d (.list x) :: xs, e2)
    | none => none
  | none => none
/-- frozen items -/
def dNil : FI := fun e => some ([], e)
def dCons (a : FV) (es : FI) : FI := fun e => match a e with
  | some (x, e1) => match frz x e1 with
    | some (d, e2) => match es e2 with
      | some (ds, e3) => some (d :: ds, e3)
      | none => none
    | none => none
  | none => none
structure Fs where
  v : FV
  t : FT
  i : FI
structure FsA where
  a : FA
  d : FI
def mkV (f : FV) : Fs := ⟨f, tOf f, iOf f⟩
def mkI (f : FI) : Fs := ⟨vNo, tOf vNo, f⟩
mutual
def ev (cf : CF) : E → Fs
  | .cst d => mkV (vCst d)
  | .glob _ d => mkV (vCst d)
  | .nm i => mkV (vNm i)
  | .bin op a b => mkV (vBin op (ev cf a).v (ev cf b).v)
  | .neg a => mkV (vNeg (ev cf a).v)
  | .bits a => mkV (vBits (ev cf a).v)
  | .cmp op a b => mkV (vCmp op (ev cf a).v (ev cf b).v)
  | .cmp2 op op2 a b c => mkV (vCmp2 op op2 (ev cf a).v (ev cf b).v (ev cf c).v)
  | .and a b => ⟨vAnd (ev cf a).v (ev cf b).v, tAnd (ev cf a).t (ev cf b).t, iNo⟩
  | .or a b => ⟨vOr (ev cf a).v (ev cf b).v, tOr (ev cf a).t (ev cf b).t, iNo⟩
  | .one a => ⟨(ev cf a).v, (ev cf a).t, iNo⟩
  | .not a => ⟨vNot (ev cf a).v, tNot (ev cf a).t, iNo⟩
  | .ite c a b => mkV (vIte (ev cf c).t (ev cf a).v (ev cf b).v)
  | .tup es => mkV (vTup (evs cf es).d)
  | .lst es => mkV (vLst (evs cf es).d)
  | .ix a i => mkV (vIx (ev cf a).v (ev cf i).v)
  | .slF a lo => mkV (vSlF (ev cf a).v (ev cf lo).v)
  | .slT a hi => mkV (vSlT (ev cf a).v (ev cf hi).v)
  | .sl a lo hi => mkV (vSl (ev cf a).v (ev cf lo).v (ev cf hi).v)
  | .rev a => mkV (vRev (ev cf a).v)
  | .call f es => mkV (vCall (cf f) (evs cf es).a)
  | .blt b a => mkV (vBlt b (ev cf a).v)
  | .blt2 b a c => mkV (vBlt2 b (ev cf a).v (ev cf c).v)
  | .isi t a => mkV (vIsi t (ev cf a).v)
  | .tupRev a => mkV (vTupRev (ev cf a).v)
  | .pop i => mkV (vPop i)
  | .popAt i a => mkV (vPopAt i (ev cf a).v)
  | .comp elt own t it => mkV (vComp (ev cf elt).v own t (ev cf it).i fYes)
  | .compIf elt own t it c => mkV (vComp (ev cf elt).v own t (ev cf it).i (ev cf c).t)
  | .rng1 a => mkI (iRng1 (ev cf a).v)
  | .rng2 a b => mkI (iRng2 (ev cf a).v (ev cf b).v)
  | .rng3 a b c => mkI (iRng3 (ev cf a).v (ev cf b).v (ev cf c).v)
  | .enum a => mkI (iEnum (ev cf a).v)
  | .zip a b => mkI (iZip (ev cf a).v (ev cf b).v)
  | .revd a => mkI (iRevd (ev cf a).v)
  | .fz a => mkV (vFz (ev cf a).v)
def evs (cf : CF) : Es → FsA
  | .nil => ⟨aNil, dNil⟩
  | .cons a es => ⟨aCons (ev cf a).v (evs cf es).a, dCons (ev cf a).v (evs cf es).d⟩
end

/-! ### statements -/
def sAsg (i : Nat) (a : FV) : FS := fun e => match a e with
  | some (x, e1) => match store e1 i x with
    | some e2 => some (.nx e2)
    | none => none
  | none => none
def sAsgT (t : Tg) (a : FV) : FS := fun e => match a e with
  | some (x, e1) => match frz x e1 with
    | some (d, e2) => match tgt (.tp t) d e2 with
      | some e3 => some (.nx e3)
      | none => none
    | none => none
  | none => none
def sPar (t : Tg) (es : FI) : FS := fun e => match es e with
  | some (ds, e2) => match tgts t ds e2 with
    | some e3 => if small ds then some (.nx e3) else none
    | none => none
  | none => none
def sSet (i : Nat) (ix a : FV) : FS := fun e => match a e with
  | some (x, e1) => match frz x e1 with
    | some (d, e2) => match ix e2 with
      | some (.d (.int k), e3) => match e3[i]? with
        | some (.ow b xs) => match L2.ixN xs.length k with
          | some j => if isOw e2 i then some (.nx (e3.set i (.ow b (xs.set j d)))) else none
          | none => none
        | _ => none
      | _ => none
    | none => none
  | none => none
def sAug (i : Nat) (op : Bop) (a : FV) : FS := fun e => match e[i]? with
  | some (.fz (.int p)) => match a e with
    | some (.d (.int q), e1) => match bop op (.int p) (.int q) with
      | some (.d r) => match put e1 i (.fz r) with
        | some e2 => some (.nx e2)
        | none => none
      | _ => none
    | _ => none
  | _ => none
def sAugS (i : Nat) (ix : FV) (op : Bop) (a : FV) : FS := fun e => match ix e with
  | some (.d (.int k), e1) => match e1[i]? with
    | some (.ow _ xs) => match ixD xs k with
      | some (.int p) => match a e1 with
        | some (.d (.int q), e2) => match bop op (.int p) (.int q) with
          | some (.d r) => match e2[i]? with
            | some (.ow b ys) => match L2.ixN ys.length k with
              | some j => if isOw e i then some (.nx (e2.set i (.ow b (ys.set j r)))) else none
              | none => none
            | _ => none
          | _ => none
        | _ => none
      | _ => none
    | _ => none
  | _ => none
def sApp (i : Nat) (a : FV) : FS := fun e => match a e with
  | some (x, e1) => match frz x e1 with
    | some (d, e2) => match e2[i]? with
      | some (.ow b xs) => if decide (xs.length < lim) && isOw e i then some (.nx (e2.set i (.ow b (xs ++ [d])))) else none
      | _ => none
    | none => none
  | none => none
def sExt (i : Nat) (a : FV) : FS := fun e => match a e with
  | some (x, e1) => match frz x e1 with
    | some (.list ds, e2) => match e2[i]? with
      | some (.ow b xs) => if decide (xs.length + ds.length ≤ lim) && isOw e i then some (.nx (e2.set i (.ow b (xs ++ ds)))) else none
      | _ => none
    | _ => none
  | none => none
def sEx (a : FV) : FS := fun e => match a e with
  | some (_, e1) => some (.nx e1)
  | none => none
def sIte (c : FT) (t f : FS) : FS := fun e => match c e with
  | some (true, e1) => t e1
  | some (false, e1) => f e1
  | none => none
def sFor (t : Tg) (it : FI) (b : FS) : FS := fun e => match it e with
  | some (ds, e1) => forL (fun d e => match tgt t d e with
      | some e2 => b e2
      | none => none) ds e1
  | none => none
def sRet (a : FV) : FS := fun e => match a e with
  | some (.d x, e1) => some (.rt (.d x) e1)
  | some (.own xs, e1) => some (.rt (.own xs) e1)
  | some (.loc i, e1) => match e1[i]? with
    | some (.fz d) => some (.rt (.d d) e1)
    | some (.ow false xs) => some (.rt (.own xs) (e1.set i .un))
    | _ => none
  | none => none
def sRetN : FS := fun e => some (.rt (.d .none) e)
def sBrk : FS := fun e => some (.bk e)
def sCont : FS := fun e => some (.ct e)
def sPass : FS := fun e => some (.nx e)
def sNo : FS := fun _ => none
def sSeq (s b : FS) : FS := fun e => match s e with
  | some (.nx e1) => b e1
  | some (.rt r e1) => some (.rt r e1)
  | some (.bk e1) => some (.bk e1)
  | some (.ct e1) => some (.ct e1)
  | none => none
mutual
def evS (cf : CF) (M : Nat) : S → FS
  | .asg (.nm i) a => sAsg i (ev cf a).v
  | .asg (.tp t) a => sAsgT t (ev cf a).v
  | .asg _ _ => sNo
  | .par t es => sPar t (evs cf es).d
  | .set i ix a => sSet i (ev cf ix).v (ev cf a).v
  | .aug i op a => sAug i op (ev cf a).v
  | .augS i ix op a => sAugS i (ev cf ix).v op (ev cf a).v
  | .app i a => sApp i (ev cf a).v
  | .ext i a => sExt i (ev cf a).v
  | .ex a => sEx (ev cf a).v
  | .ite c t f => sIte (ev cf c).t (evB cf M t) (evB cf M f)
  | .whl c b => whL (ev cf c).t (evB cf M b) M
  | .for t it b => sFor t (ev cf it).i (evB cf M b)
  | .ret a => sRet (ev cf a).v
  | .retN => sRetN
  | .brk => sBrk
  | .cont => sCont
  | .pass => sPass
  | .never => sNo
def evB (cf : CF) (M : Nat) : Ss → FS
  | .nil => sPass
  | .cons s ss => sSeq (evS cf M s) (evB cf M ss)
end
/-- a def -/
structure Df where
  name : Str
  np : Nat
  ns : Nat
  body : Ss
def runD (cf : CF) (M : Nat) (d : Df) (svs : List Sv) : Option (Rv × En) :=
  if decide (svs.length = d.np) then match evB cf M d.body (svs ++ List.replicate (d.ns - d.np) .un) with
    | some (.rt (.d x) e) => some (.d x, e)
    | some (.rt (.own xs) e) => some (.own xs, e)
    | some (.nx e) => some (.d .none, e)
    | _ => none
  else none
def run (M : Nat) (P : List Df) : Nat → CF
  | 0, _, _ => none
  | k + 1, f, svs => match P[f]? with
    | some d => runD (run M P k) M d svs
    | none => none
end De
end

section
set_option maxHeartbeats 4000000
namespace De
open PySem PySem.Spec PyProof.Rows L2

/-! ### data and heaps -/
mutual
inductive Rp (K : PySem.W.Frag) (H : Hp) : V → PyData → Prop
  | non : Rp K H .non .none
  | bl (b : Bool) : Rp K H (.bl b) (.bool b)
  | int (i : Int) : Rp K H (.int i) (.int i)
  | str (x : Str) : Rp K H (.str x) (.str x)
  | lst {a : Addr} {xs : List V} {ds : List PyData} : H a = some (.lst xs) → RpA K H xs ds → Rp K H (.ref a) (.list ds)
  | tup {a : Addr} {xs : List V} {ds : List PyData} : SqT K H a xs → RpA K H xs ds → Rp K H (.ref a) (.tuple ds)
  | scr {a : Addr} {xs : List V} {ds : List PyData} : SqL K H a xs → RpA K H xs ds → Rp K H (.ref a) (.dict [(.none, .list ds)])
inductive RpA (K : PySem.W.Frag) (H : Hp) : List V → List PyData → Prop
  | nil : RpA K H [] []
  | cons {v : V} {vs : List V} {d : PyData} {ds : List PyData} : Rp K H v d → RpA K H vs ds → RpA K H (v :: vs) (d :: ds)
end
/-- F is a part of H -/
def Sub (F H : Hp) : Prop := ∀ a o, F a = some o → H a = some o
theorem Sub.refl (F : Hp) : Sub F F := fun _ _ h => h
theorem Sub.trans {F G H : Hp} (h : Sub F G) (g : Sub G H) : Sub F H := fun a o e => g a o (h a o e)
section
variable {K : PySem.W.Frag} {F H : Hp}
theorem Sub.sqT (s : Sub F H) {a : Addr} {xs : List V} (h : SqT K F a xs) : SqT K H a xs := by
  rcases h with (h | ⟨o, h⟩) | h
  · exact .inl (.inl (s _ _ h))
  · exact .inl (.inr ⟨o, s _ _ h⟩)
  · exact .inr h
theorem Sub.sqL (s : Sub F H) {a : Addr} {xs : List V} (h : SqL K F a xs) : SqL K H a xs := by
  rcases h with (h | ⟨o, h⟩) | h
  · exact .inl (.inl (s _ _ h))
  · exact .inl (.inr ⟨o, s _ _ h⟩)
  · exact .inr h
mutual
theorem Rp.mono (s : Sub F H) : ∀ {v : V} {d : PyData}, Rp K F v d → Rp K H v d
  | _, _, .non => .non
  | _, _, .bl b => .bl b
  | _, _, .int i => .int i
  | _, _, .str x => .str x
  | _, _, .lst h r => .lst (s _ _ h) (RpA.mono s r)
  | _, _, .tup h r => .tup (s.sqT h) (RpA.mono s r)
  | _, _, .scr h r => .scr (s.sqL h) (RpA.mono s r)
theorem RpA.mono (s : Sub F H) : ∀ {vs : List V} {ds : List PyData}, RpA K F vs ds → RpA K H vs ds
  | _, _, .nil => .nil
  | _, _, .cons h r => .cons (Rp.mono s h) (RpA.mono s r)
end
mutual
theorem Rp.dp : ∀ {v : V} {d : PyData}, Rp K H v d → d.canLay0 = true → Dp K H v d
  | _, _, .non, _ => .non
  | _, _, .bl b, _ => .bl b
  | _, _, .int i, _ => .int i
  | _, _, .str x, _ => .str x
  | _, _, .lst h r, c => .lst (SqL.of h) (RpA.dp r (by rw [PyData.canLay0] at c; exact c))
  | _, _, .tup h r, c => .tup h (RpA.dp r (by rw [PyData.canLay0] at c; exact c))
  | _, _, .scr _ _, c => by rw [PyData.canLay0] at c; cases c
theorem RpA.dp : ∀ {vs : List V} {ds : List PyData}, RpA K H vs ds → PyData.canLayAll0 ds = true → DpAll K H vs ds
  | _, _, .nil, _ => .nil
  | _, _, .cons h r, c => by
    rw [PyData.canLayAll0, Bool.and_eq_true] at c
    exact .cons (Rp.dp h c.1) (RpA.dp r c.2)
end
theorem RpA.length : ∀ {vs : List V} {ds : List PyData}, RpA K H vs ds → vs.length = ds.length
  | _, _, .nil => rfl
  | _, _, .cons _ r => congrArg Nat.succ (RpA.length r)
theorem RpA.get : ∀ {vs : List V} {ds : List PyData} {i : Nat} {d : PyData}, RpA K H vs ds → ds[i]? = some d → ∃ v, vs[i]? = some v ∧ Rp K H v d
  | _, _, _, _, .nil, e => by simp at e
  | _, _, 0, _, .cons h _, e => by simp at e; subst e; exact ⟨_, rfl, h⟩
  | _, _, i + 1, _, .cons _ r, e => by
    obtain ⟨v, h1, h2⟩ := RpA.get (i := i) r (by simpa using e)
    exact ⟨v, by simpa using h1, h2⟩
theorem RpA.getV : ∀ {vs : List V} {ds : List PyData} {i : Nat} {v : V}, RpA K H vs ds → vs[i]? = some v → ∃ d, ds[i]? = some d ∧ Rp K H v d
  | _, _, _, _, .nil, e => by simp at e
  | _, _, 0, _, .cons h _, e => by simp at e; subst e; exact ⟨_, rfl, h⟩
  | _, _, i + 1, _, .cons _ r, e => by
    obtain ⟨v, h1, h2⟩ := RpA.getV (i := i) r (by simpa using e)
    exact ⟨v, by simpa using h1, h2⟩
theorem RpA.append : ∀ {vs ws : List V} {ds es : List PyData}, RpA K H vs ds → RpA K H ws es → RpA K H (vs ++ ws) (ds ++ es)
  | _, _, _, _, .nil, s => s
  | _, _, _, _, .cons h r, s => .cons h (RpA.append r s)
theorem RpA.take : ∀ {vs : List V} {ds : List PyData} (n : Nat), RpA K H vs ds → RpA K H (vs.take n) (ds.take n)
  | _, _, 0, _ => .nil
  | _, _, _ + 1, .nil => .nil
  | _, _, n + 1, .cons h r => .cons h (RpA.take n r)
theorem RpA.drop : ∀ {vs : List V} {ds : List PyData} (n : Nat), RpA K H vs ds → RpA K H (vs.drop n) (ds.drop n)
  | _, _, 0, r => r
  | _, _, _ + 1, .nil => .nil
  | _, _, n + 1, .cons _ r => RpA.drop n r
theorem RpA.set {v : V} {d : PyData} (h : Rp K H v d) : ∀ {vs : List V} {ds : List PyData} (n : Nat), RpA K H vs ds → RpA K H (vs.set n v) (ds.set n d)
  | _, _, _, .nil => .nil
  | _, _, 0, .cons _ r => .cons h r
  | _, _, n + 1, .cons g r => .cons g (RpA.set h n r)
theorem RpA.reverse : ∀ {vs : List V} {ds : List PyData}, RpA K H vs ds → RpA K H vs.reverse ds.reverse
  | _, _, .nil => .nil
  | _, _, .cons h r => by
    rw [List.reverse_cons, List.reverse_cons]
    exact RpA.append (RpA.reverse r) (.cons h .nil)
theorem RpA.eraseIdx : ∀ {vs : List V} {ds : List PyData} (n : Nat), RpA K H vs ds → RpA K H (vs.eraseIdx n) (ds.eraseIdx n)
  | _, _, _, .nil => .nil
  | _, _, 0, .cons _ r => r
  | _, _, n + 1, .cons h r => .cons h (RpA.eraseIdx n r)
theorem RpA.dropLast {vs : List V} {ds : List PyData} (r : RpA K H vs ds) : RpA K H vs.dropLast ds.dropLast := by
  rw [List.dropLast_eq_take, List.dropLast_eq_take, r.length]
  exact r.take _
theorem RpA.rep {vs : List V} {ds : List PyData} (r : RpA K H vs ds) : ∀ k : Nat, RpA K H (List.replicate k vs).flatten (List.replicate k ds).flatten
  | 0 => .nil
  | k + 1 => by
    rw [List.replicate_succ, List.replicate_succ, List.flatten_cons, List.flatten_cons]
    exact r.append (RpA.rep r k)
theorem RpA.ints : ∀ {ds : List PyData} {vs : List V} {ns : List Int}, RpA K H vs ds → intsOf ds = some ns → vs = ns.map V.int
  | [], _, _, .nil, e => by
    rw [intsOf] at e
    cases e
    rfl
  | .int i :: ds, _, ns, .cons h r, e => by
    rw [intsOf] at e
    cases q : intsOf ds with
    | none => rw [q] at e; cases e
    | some l =>
      rw [q] at e
      cases e
      cases h
      rw [RpA.ints r q]
      rfl
  | .none :: _, _, _, _, e => by rw [intsOf] at e; cases e; intro i h; cases h
  | .bool _ :: _, _, _, _, e => by rw [intsOf] at e; cases e; intro i h; cases h
  | .str _ :: _, _, _, _, e => by rw [intsOf] at e; cases e; intro i h; cases h
  | .list _ :: _, _, _, _, e => by rw [intsOf] at e; cases e; intro i h; cases h
  | .tuple _ :: _, _, _, _, e => by rw [intsOf] at e; cases e; intro i h; cases h
  | .dict _ :: _, _, _, _, e => by rw [intsOf] at e; cases e; intro i h; cases h
theorem RpA.bools : ∀ {ds : List PyData} {vs : List V} {ns : List Bool}, RpA K H vs ds → boolsOf ds = some ns → vs = ns.map V.bl
  | [], _, _, .nil, e => by
    rw [boolsOf] at e
    cases e
    rfl
  | .bool i :: ds, _, ns, .cons h r, e => by
    rw [boolsOf] at e
    cases q : boolsOf ds with
    | none => rw [q] at e; cases e
    | some l =>
      rw [q] at e
      cases e
      cases h
      rw [RpA.bools r q]
      rfl
  | .none :: _, _, _, _, e => by rw [boolsOf] at e; cases e; intro i h; cases h
  | .int _ :: _, _, _, _, e => by rw [boolsOf] at e; cases e; intro i h; cases h
  | .str _ :: _, _, _, _, e => by rw [boolsOf] at e; cases e; intro i h; cases h
  | .list _ :: _, _, _, _, e => by rw [boolsOf] at e; cases e; intro i h; cases h
  | .tuple _ :: _, _, _, _, e => by rw [boolsOf] at e; cases e; intro i h; cases h
  | .dict _ :: _, _, _, _, e => by rw [boolsOf] at e; cases e; intro i h; cases h
theorem rpA_ints : ∀ ns : List Int, RpA K H (ns.map V.int) (ns.map PyData.int)
  | [] => .nil
  | n :: ns => .cons (.int n) (rpA_ints ns)
end

/-! ### frozen part and heap: how both grow -/
structure Gr (F H F' H' : Hp) : Prop where
  f : Sub F F'
  h : Sub H H'
  new : ∀ a, F' a ≠ none → F a ≠ none ∨ H a = none
  sub : Sub F' H'
theorem Gr.refl {F H : Hp} (s : Sub F H) : Gr F H F H := ⟨Sub.refl _, Sub.refl _, fun _ h => .inl h, s⟩
theorem sub_upd {H : Hp} {p : Addr} {o : HO} (h : H p = none) : Sub H (upd H p o) := fun b x e => by
  rw [upd_ne (ne_of_none e h)]
  exact e
theorem sub_upd2 {F H : Hp} {p : Addr} {o : HO} (s : Sub F H) : Sub (upd F p o) (upd H p o) := fun b x e => by
  by_cases q : b = p
  · subst q
    rw [upd_same] at e ⊢
    exact e
  · rw [upd_ne q] at e ⊢
    exact s _ _ e
theorem sub_none {F H : Hp} {p : Addr} (s : Sub F H) (h : H p = none) : F p = none := by
  cases q : F p with
  | none => rfl
  | some o =>
    rw [s _ _ q] at h
    cases h
/-- a new frozen object -/
theorem Gr.both {F H : Hp} {p : Addr} {o : HO} (s : Sub F H) (h : H p = none) : Gr F H (upd F p o) (upd H p o) where
  f := sub_upd (sub_none s h)
  h := sub_upd h
  new := fun a e => by
    by_cases q : a = p
    · subst q
      exact .inr h
    · rw [upd_ne q] at e
      exact .inl e
  sub := sub_upd2 s
/-- what a value shows: frozen data, or a list that stands in H with frozen items -/
def Vw (K : PySem.W.Frag) (F H : Hp) (v : V) (d : PyData) : Prop :=
  Rp K F v d ∨ ∃ (a : Addr) (vs : List V) (xs : List PyData), v = .ref a ∧ d = .list xs ∧ H a = some (.lst vs) ∧ RpA K F vs xs
/-- what is done with a result -/
def Res (K : PySem.W.Frag) (F H : Hp) (Q : VK) : Rv → Prop
  | .d d => ∀ v F' H', Gr F H F' H' → Rp K F' v d → Q v H'
  | .own xs => ∀ p vs, H p = none → RpA K F vs xs → Q (.ref p) (upd H p (.lst vs))
  | .loc _ => False
section
variable {K : PySem.W.Frag} {F H : Hp} {v : V} {d : PyData}
theorem Vw.rp (s : Sub F H) (h : Vw K F H v d) : Rp K H v d := by
  rcases h with h | ⟨a, vs, xs, rfl, rfl, h, r⟩
  · exact h.mono s
  · exact .lst h (r.mono s)
theorem Vw.int {i : Int} (h : Vw K F H v (.int i)) : v = .int i := by
  rcases h with h | ⟨a, vs, xs, _, e, _⟩
  · cases h
    rfl
  · cases e
theorem Vw.bool {i : Bool} (h : Vw K F H v (.bool i)) : v = .bl i := by
  rcases h with h | ⟨a, vs, xs, _, e, _⟩
  · cases h
    rfl
  · cases e
theorem Vw.list {xs : List PyData} (s : Sub F H) (h : Vw K F H v (.list xs)) : ∃ a vs, v = .ref a ∧ H a = some (.lst vs) ∧ RpA K F vs xs := by
  rcases h with h | ⟨a, vs, xs, rfl, e, h, r⟩
  · cases h with
    | lst h r => exact ⟨_, _, rfl, s _ _ h, r⟩
  · cases e
    exact ⟨a, vs, rfl, h, r⟩
theorem Vw.tup {xs : List PyData} (s : Sub F H) (h : Vw K F H v (.tuple xs)) : ∃ a vs, v = .ref a ∧ SqT K H a vs ∧ SqT K F a vs ∧ RpA K F vs xs := by
  rcases h with h | ⟨a, vs, xs, _, e, _⟩
  · cases h with
    | tup h r => exact ⟨_, _, rfl, s.sqT h, h, r⟩
  · cases e
theorem Vw.scr {xs : List PyData} (s : Sub F H) (h : Vw K F H v (.dict [(.none, .list xs)])) : ∃ a vs, v = .ref a ∧ SqL K H a vs ∧ RpA K F vs xs := by
  rcases h with h | ⟨a, vs, xs, _, e, _⟩
  · cases h with
    | scr h r => exact ⟨_, _, rfl, s.sqL h, r⟩
  · cases e
theorem Res.int {Q : VK} {i : Int} (s : Sub F H) (h : Res K F H Q (.d (.int i))) : Q (.int i) H := h _ _ _ (Gr.refl s) (.int i)
theorem Res.bool {Q : VK} {i : Bool} (s : Sub F H) (h : Res K F H Q (.d (.bool i))) : Q (.bl i) H := h _ _ _ (Gr.refl s) (.bl i)
theorem Res.newT {Q : VK} {ds : List PyData} {vs : List V} {p : Addr} (s : Sub F H) (h : Res K F H Q (.d (.tuple ds))) (hp : H p = none) (r : RpA K F vs ds) : Q (.ref p) (upd H p (.tup vs)) :=
  h _ _ _ (Gr.both s hp) (.tup (.inl (.inl upd_same)) (r.mono (sub_upd (sub_none s hp))))
end
theorem lim_le : lim ≤ sizeLine := by rw [sizeLine_eq]; decide
end De
end

section
set_option maxHeartbeats 4000000
namespace De
open PySem PySem.Spec PyProof.Rows L2
theorem tuple_mul1 (l : Addr) (items : Array Value) (n : Nat) (dd : Option Addr) (sl : Array (Option Value)) (x : Int) (u : Tok) (c0 : (decide (x < -(2 ^ 63)) || decide (x ≥ 2 ^ 63)) = false) (c1 : (items.isEmpty || x == 1) = true) :
    Meets (Builtin.«tuple.__mul__» ⟨[.ref l, .int x u], []⟩) (fun _ R s => s.heap.get? l = some { cls := .type "tuple", dict := dd, data := .seq items n, slots := sl } ∧
      R (.ok (.ret (Value.ref l))) s) :=
  .of_wp fun prog w A R s h => by
    obtain ⟨hp, g, d, tk, os⟩ := s
    obtain ⟨hl, h⟩ := h
    have f1 := AutoSeq1.idx_int
    wp_walk using wpAny_loadPart' hl
    repeat (first
      | (refine wpAny_ite_false (decide_eq_false (by rw [c0]; exact Bool.false_ne_true)) ?_; wp_walk using wpAny_loadPart' hl)
      | (refine wpAny_ite_true (decide_eq_true c1) ?_; wp_walk using wpAny_loadPart' hl))
    exact ⟨_, rfl, h⟩
theorem tuple_mul0 (l : Addr) (items : Array Value) (n : Nat) (dd : Option Addr) (sl : Array (Option Value)) (x : Int) (u : Tok) (c0 : (decide (x < -(2 ^ 63)) || decide (x ≥ 2 ^ 63)) = false) (c1 : (items.isEmpty || x == 1) = false) (c2 : (decide (x ≤ 0) || items.isEmpty) = true) :
    Meets (Builtin.«tuple.__mul__» ⟨[.ref l, .int x u], []⟩) (fun _ R s => s.heap.get? l = some { cls := .type "tuple", dict := dd, data := .seq items n, slots := sl } ∧
      R (.ok (.ret (Value.ref s.heap.objs.size))) { s with heap := s.heap.push { cls := Value.type "tuple", data := Data.seq #[] }, toks := s.toks }) :=
  .of_wp fun prog w A R s h => by
    obtain ⟨hp, g, d, tk, os⟩ := s
    obtain ⟨hl, h⟩ := h
    have f1 := AutoSeq1.idx_int
    have hz : (#[] : Array Value).size ≤ sizeLine := Nat.zero_le _
    wp_walk using wpAny_loadPart' hl
    repeat (first
      | (refine wpAny_ite_false (decide_eq_false (by rw [c0]; exact Bool.false_ne_true)) ?_; wp_walk using wpAny_loadPart' hl)
      | (refine wpAny_ite_false (decide_eq_false (by rw [c1]; exact Bool.false_ne_true)) ?_; wp_walk using wpAny_loadPart' hl)
      | (refine wpAny_ite_true (decide_eq_true c2) ?_; wp_walk using wpAny_loadPart' hl)
      | (refine wpAny_ite_false (decide_eq_false (Nat.not_lt.mpr hz)) ?_; wp_walk using wpAny_loadPart' hl))
    exact ⟨_, rfl, h⟩

def rRep1 (K : PySem.W.Frag) : R2 := fun x y H Q => ∃ l k xs, x = .ref l ∧ y = .int k ∧ SqT K H l xs ∧ (xs = [] ∨ k = 1) ∧ 0 ≤ k ∧ k ≤ 1000 ∧ Q (.ref l) H
def rRep0 (K : PySem.W.Frag) : R2 := fun x y H Q => ∃ l k xs, x = .ref l ∧ y = .int k ∧ SqT K H l xs ∧ xs ≠ [] ∧ k = 0 ∧ ∀ p, H p = none → Q (.ref p) (upd H p (.tup []))
section
variable {X : Cx}
theorem op_rep1 : OpR X (binaryOp .Mult) (rRep1 X.K) := by
  intro pins s σ H x y v u Q I rx ry h
  obtain ⟨l, k, xs, rfl, rfl, hT, hne, h1, h2, q⟩ := h
  cases rx
  obtain ⟨t, rfl⟩ := ry
  obtain ⟨its, r, ⟨⟨cls, dd, data, sl⟩, ho, hc, n, hd⟩, hs⟩ := I.tuple hT
  simp only at hc hd
  subst hc hd
  have hle : its.length = xs.length := r.length.symm
  have c0 : (decide (k < -(2 ^ 63)) || decide (k ≥ 2 ^ 63)) = false := by
    rw [decide_eq_false (by omega), decide_eq_false (by omega)] <;> rfl
  have c1 : (its.toArray.isEmpty || k == 1) = true := by
    rcases hne with e | e
    · subst e
      cases its with
      | nil => rfl
      | cons a b => cases hle
    · subst e
      rw [Bool.or_eq_true]
      exact .inr rfl
  exact wpAny_binaryOp_repeat_ref (T := "tuple") (U := "int") (by decide) ⟨_, ho, rfl⟩ (fun s' => typeIs_int s' k t) noFill_tuple_mul F.fills_int_mul F.slot_int_rmul repeat_tuple F.slot_int_index.lookup
    (call_meets F.slot_int_rmul (typeIs_int s k t) F.entry_int_rmul (F.args_int_rmul_2 _ _) (int_rmul_tuple k t l its.toArray n dd sl)
      ⟨ho, rfl, ⟨_, ho, rfl⟩, call_meets F.slot_tuple_mul ⟨_, ho, rfl⟩ F.entry_tuple_mul (F.args_tuple_mul_2 _ _) (tuple_mul1 l its.toArray n dd sl k t c0 c1) ⟨ho, .ref l, H, I, rfl, q⟩⟩)
theorem op_rep0 : OpR X (binaryOp .Mult) (rRep0 X.K) := by
  intro pins s σ H x y v u Q I rx ry h
  obtain ⟨l, k, xs, rfl, rfl, hT, hne, rfl, q⟩ := h
  cases rx
  obtain ⟨t, rfl⟩ := ry
  obtain ⟨its, r, ⟨⟨cls, dd, data, sl⟩, ho, hc, n, hd⟩, hs⟩ := I.tuple hT
  simp only at hc hd
  subst hc hd
  have hle : its.length = xs.length := r.length.symm
  have hi : its.toArray.isEmpty = false := by
    cases its with
    | nil => exact absurd (List.eq_nil_of_length_eq_zero hle.symm) hne
    | cons a b => rfl
  have c1 : (its.toArray.isEmpty || (0 : Int) == 1) = false := by
    rw [hi]
    rfl
  refine wpAny_binaryOp_repeat_ref (T := "tuple") (U := "int") (by decide) ⟨_, ho, rfl⟩ (fun s' => typeIs_int s' 0 t) noFill_tuple_mul F.fills_int_mul F.slot_int_rmul repeat_tuple F.slot_int_index.lookup
    (call_meets F.slot_int_rmul (typeIs_int s 0 t) F.entry_int_rmul (F.args_int_rmul_2 _ _) (int_rmul_tuple 0 t l its.toArray n dd sl)
      ⟨ho, rfl, ⟨_, ho, rfl⟩, call_meets F.slot_tuple_mul ⟨_, ho, rfl⟩ F.entry_tuple_mul (F.args_tuple_mul_2 _ _) (tuple_mul0 l its.toArray n dd sl 0 t (by decide) c1 (by rfl)) ⟨ho, ?_⟩⟩)
  refine ⟨.ref s.heap.objs.size, _, I.laid (t' := s.toks) (o := .tup []) (fun b ob q => Heap.get?_push_of_some _ q) (Nat.le_refl _) ?_, rfl, q _ (I.hok.fresh (Nat.le_refl _))⟩
  exact ⟨Nat.zero_le _, [], .nil, IsTup.new _ _⟩
end
end De
end

section
set_option maxHeartbeats 4000000
namespace De
open PySem PySem.Spec PyProof.Rows L2

/-! ### operators by data -/
def opB : Bop → Operator
  | .add => .Add
  | .sub => .Sub
  | .mul => .Mult
  | .fdiv => .FloorDiv
  | .mod => .Mod
  | .pow => .Pow
  | .xor => .BitXor
def rB (K : PySem.W.Frag) (op : Bop) : R2 := fun x y H Q => ∃ F p q rv, Sub F H ∧ Vw K F H x p ∧ Vw K F H y q ∧ bop op p q = some rv ∧ Res K F H Q rv
section
variable {X : Cx}
theorem ob_fdiv : OpR X (binaryOp .FloorDiv) (rI (fun _ j => j ≠ 0 ∧ j.natAbs.log2 < 9000) fun i j => .int (i.fdiv j)) :=
  opI fun _ _ _ _ _ _ _ hc q => floordiv_int hc.1 q (.inl (PyProof.noPylong_of_log2 hc.2))
theorem and3 {a b c : Bool} (h : (a && b && c) = true) : a = true ∧ b = true ∧ c = true := by
  rw [Bool.and_eq_true, Bool.and_eq_true] at h
  exact ⟨h.1.1, h.1.2, h.2⟩
theorem iteS {α : Type} {c : Prop} [Decidable c] {a : α} {r : α} (h : (if c then some a else none) = some r) : c ∧ a = r := by
  by_cases hc : c
  · rw [if_pos hc] at h
    exact ⟨hc, Option.some.inj h⟩
  · rw [if_neg hc] at h
    cases h
theorem ob (op : Bop) : OpR X (binaryOp (opB op)) (rB X.K op) := by
  intro pins s σ H x y v u Q I rx ry h
  obtain ⟨F, p, q, rv, sb, hx, hy, e, res⟩ := h
  cases p with
  | int i =>
    cases q with
    | int j =>
      have ex := hx.int
      have ey := hy.int
      cases op with
      | add => cases e; exact op_add pins s σ H x y v u Q I rx ry ⟨i, j, ex, ey, res.int sb⟩
      | sub => cases e; exact op_sub pins s σ H x y v u Q I rx ry ⟨i, j, ex, ey, res.int sb⟩
      | mul =>
        obtain ⟨hc, rfl⟩ := iteS e
        exact op_mulW pins s σ H x y v u Q I rx ry ⟨i, j, ex, ey, (of_decide_eq_true hc : i.natAbs.log2 + j.natAbs.log2 < 1000000), res.int sb⟩
      | fdiv =>
        obtain ⟨hc, rfl⟩ := iteS e
        unfold divOk at hc
        rw [Bool.and_eq_true] at hc
        exact ob_fdiv pins s σ H x y v u Q I rx ry ⟨i, j, ex, ey, ⟨of_decide_eq_true hc.1, of_decide_eq_true hc.2⟩, res.int sb⟩
      | mod =>
        obtain ⟨hc, rfl⟩ := iteS e
        exact op_modN pins s σ H x y v u Q I rx ry ⟨i, j, ex, ey, of_decide_eq_true hc, res.int sb⟩
      | pow =>
        obtain ⟨hc, rfl⟩ := iteS e
        obtain ⟨h1, h2, h3⟩ := and3 hc
        exact op_pow pins s σ H x y v u Q I rx ry ⟨i, j, ex, ey, ⟨of_decide_eq_true h1, of_decide_eq_true h2, of_decide_eq_true h3⟩, res.int sb⟩
      | xor => cases e; exact op_xor pins s σ H x y v u Q I rx ry ⟨i, j, ex, ey, res.int sb⟩
    | _ => cases op <;> cases e
  | list xs =>
    cases q with
    | list ys =>
      cases op with
      | add =>
        obtain ⟨hc, rfl⟩ := iteS e
        obtain ⟨a, vs, rfl, ha, ra⟩ := hx.list sb
        obtain ⟨b, ws, rfl, hb, rb⟩ := hy.list sb
        refine op_cat pins s σ H _ _ v u Q I rx ry ⟨a, b, vs, ws, rfl, rfl, ha, hb, ?_, fun p hp => res p _ hp (ra.append rb)⟩
        rw [ra.length, rb.length]
        exact Nat.le_trans (of_decide_eq_true hc) lim_le
      | _ => cases e
    | int k =>
      cases op with
      | mul =>
        obtain ⟨hc, rfl⟩ := iteS e
        obtain ⟨h1, h2, h3⟩ := and3 hc
        obtain ⟨a, vs, rfl, ha, ra⟩ := hx.list sb
        have h1 := of_decide_eq_true h1
        have h2 := of_decide_eq_true h2
        have h3 := of_decide_eq_true h3
        refine op_rep pins s σ H _ y v u Q I rx ry ⟨a, k, vs, rfl, hy.int, ha, by omega, by omega, ?_, fun p hp => res p _ hp (ra.rep _)⟩
        rw [ra.length]
        exact Nat.le_trans h3 lim_le
      | _ => cases e
    | _ => cases op <;> cases e
  | tuple xs =>
    cases q with
    | tuple ys =>
      cases op with
      | add =>
        obtain ⟨hc, rfl⟩ := iteS e
        obtain ⟨a, vs, rfl, ha, fa, ra⟩ := hx.tup sb
        obtain ⟨b, ws, rfl, hb, fb, rb⟩ := hy.tup sb
        refine op_catA pins s σ H _ _ v u Q I rx ry ⟨a, b, vs, ws, rfl, rfl, ha, hb, ?_, fun e0 => ?_, fun _ e1 => ?_, fun _ _ p hp => res.newT sb hp (ra.append rb)⟩
        · rw [ra.length, rb.length]
          exact Nat.le_trans (of_decide_eq_true hc) lim_le
        · subst e0
          cases ra
          exact res _ _ _ (Gr.refl sb) (.tup fb rb)
        · subst e1
          cases rb
          rw [List.append_nil] at res
          exact res _ _ _ (Gr.refl sb) (.tup fa ra)
      | _ => cases e
    | int k =>
      cases op with
      | mul =>
        obtain ⟨hc, rfl⟩ := iteS e
        obtain ⟨h1, h2, h3⟩ := and3 hc
        obtain ⟨a, vs, rfl, ha, fa, ra⟩ := hx.tup sb
        have h1 := of_decide_eq_true h1
        have h2 := of_decide_eq_true h2
        have h3 := of_decide_eq_true h3
        by_cases h4 : vs = [] ∨ k = 1
        · refine op_rep1 pins s σ H _ y v u Q I rx ry ⟨a, k, vs, rfl, hy.int, ha, h4, h1, h2, res _ _ _ (Gr.refl sb) ?_⟩
          have h5 : rep k.toNat xs = xs := by
            rcases h4 with h4 | h4
            · subst h4
              cases ra
              unfold rep
              exact List.flatten_replicate_nil
            · subst h4
              show (List.replicate 1 xs).flatten = xs
              simp
          rw [h5]
          exact .tup fa ra
        · rw [not_or] at h4
          by_cases h5 : k = 0
          · subst h5
            exact op_rep0 pins s σ H _ y v u Q I rx ry ⟨a, 0, vs, rfl, hy.int, ha, h4.1, rfl, fun p hp => res.newT sb hp .nil⟩
          · exact op_repT pins s σ H _ y v u Q I rx ry ⟨a, k, vs, rfl, hy.int, ha, h4.1, by have := h4.2; omega, h2, by rw [ra.length]; exact h3, fun p hp => res.newT sb hp (ra.rep _)⟩
      | _ => cases e
    | _ => cases op <;> cases e
  | _ => cases op <;> cases q <;> cases e

/-! ### comparisons by data -/
def opC : Cop → CmpOp
  | .eq => .Eq
  | .ne => .NotEq
  | .lt => .Lt
  | .le => .LtE
  | .gt => .Gt
  | .ge => .GtE
  | .isn => .Is
  | .nisn => .IsNot
  | .mem => .In
  | .nmem => .NotIn
def rC (K : PySem.W.Frag) (op : Cop) : R2 := fun x y H Q => ∃ F p q k, Sub F H ∧ Vw K F H x p ∧ Vw K F H y q ∧ cop op p q = some k ∧ Q (.bl k) H
theorem lay_of {d : PyData} (h : SeqAt.shaped d = true) : d.canLay0 = true := SeqAt.canLay_of_shaped h
theorem dec_intV (i j : Int) : decide (V.int i = V.int j) = decide (i = j) := by
  rw [dec_int]
  exact Bool.beq_eq_decide_eq i j
theorem Vw.is_none {K : PySem.W.Frag} {F H : Hp} {v : V} {d : PyData} (h : Vw K F H v d) : decide (v = .non) = isNone d := by
  rcases h with h | ⟨a, vs, xs, rfl, rfl, _⟩
  · cases h <;> rfl
  · rfl
theorem ints_all : ∀ {K : PySem.W.Frag} {H : Hp} {vs : List V} {xs : List PyData} {a : Int}, RpA K H vs xs → (xs.all fun z => match z with | .int _ => true | _ => false) = true →
    vs.all flatV = true ∧ inV (.int a) vs = xs.any (fun z => match z with | .int i => decide (i = a) | _ => false)
  | _, _, _, _, _, .nil, _ => ⟨rfl, rfl⟩
  | K, H, _, _, a, .cons (v := v) (vs := vs) (d := d) (ds := ds) h r, e => by
    rw [List.all_cons, Bool.and_eq_true] at e
    obtain ⟨e1, e2⟩ := e
    obtain ⟨i1, i2⟩ := ints_all (a := a) r e2
    cases h with
    | int i =>
      refine ⟨?_, ?_⟩
      · rw [List.all_cons, i1] <;> rfl
      · show (eqV (.int i) (.int a) || inV (.int a) vs) = _
        rw [i2, List.any_cons]
        have e3 : eqV (.int i) (.int a) = decide (i = a) := by
          first
            | rfl
            | exact Bool.beq_eq_decide_eq i a
        rw [e3]
    | non => cases e1
    | bl b => cases e1
    | str x => cases e1
    | lst _ _ => cases e1
    | tup _ _ => cases e1
    | scr _ _ => cases e1
theorem oc (hu : X.A.units + 65 < cLine) (op : Cop) : OpR X (compareOp (opC op)) (rC X.K op) := by
  intro pins s σ H x y v u Q I rx ry h
  obtain ⟨F, p, q, k, sb, hx, hy, e, res⟩ := h
  have isI : ∀ {i j : Int}, p = .int i → q = .int j → cop op p q = some k → wpAny (model X.prog X.w) X.A (compareOp (opC op) v u) (EP X pins σ Q) X.xe s := by
    rintro i j rfl rfl e
    have ex := hx.int
    have ey := hy.int
    subst ex ey
    cases op with
    | eq => cases e; exact op_eq pins s σ H _ _ v u Q I rx ry ⟨rfl, by rw [dec_intV]; exact res⟩
    | ne => cases e; exact op_ne pins s σ H _ _ v u Q I rx ry ⟨rfl, by rw [dec_intV]; exact res⟩
    | lt => cases e; exact op_lt pins s σ H _ _ v u Q I rx ry ⟨i, j, rfl, rfl, res⟩
    | le => cases e; exact op_le pins s σ H _ _ v u Q I rx ry ⟨i, j, rfl, rfl, res⟩
    | gt => cases e; exact op_gt pins s σ H _ _ v u Q I rx ry ⟨i, j, rfl, rfl, res⟩
    | ge => cases e; exact op_ge pins s σ H _ _ v u Q I rx ry ⟨i, j, rfl, rfl, res⟩
    | isn => cases e
    | nisn => cases e
    | mem => cases e
    | nmem => cases e
  by_cases hi : (∃ i, p = .int i) ∧ ∃ j, q = .int j
  · obtain ⟨⟨i, h1⟩, j, h2⟩ := hi
    exact isI h1 h2 e
  · have eqD : op = .eq → (if SeqAt.shaped p && SeqAt.shaped q then some (PyData.eqv p q) else none) = some k → wpAny (model X.prog X.w) X.A (compareOp (opC op) v u) (EP X pins σ Q) X.xe s := by
      rintro rfl e
      obtain ⟨hc, rfl⟩ := iteS e
      rw [Bool.and_eq_true] at hc
      exact op_eqD (by omega) pins s σ H x y v u Q I rx ry ⟨p, q, (hx.rp sb).dp (lay_of hc.1), (hy.rp sb).dp (lay_of hc.2), hc.1, hc.2, res⟩
    have neD : op = .ne → (if SeqAt.shaped p && SeqAt.shaped q then some (!PyData.eqv p q) else none) = some k → wpAny (model X.prog X.w) X.A (compareOp (opC op) v u) (EP X pins σ Q) X.xe s := by
      rintro rfl e
      obtain ⟨hc, rfl⟩ := iteS e
      rw [Bool.and_eq_true] at hc
      exact op_neD (by omega) pins s σ H x y v u Q I rx ry ⟨p, q, (hx.rp sb).dp (lay_of hc.1), (hy.rp sb).dp (lay_of hc.2), hc.1, hc.2, res⟩
    cases op with
    | eq =>
      refine eqD rfl ?_
      rw [← e]
      cases p <;> cases q <;> first | rfl | exact absurd ⟨⟨_, rfl⟩, _, rfl⟩ hi
    | ne =>
      refine neD rfl ?_
      rw [← e]
      cases p <;> cases q <;> first | rfl | exact absurd ⟨⟨_, rfl⟩, _, rfl⟩ hi
    | isn =>
      cases q with
      | none =>
        have ey : y = .non := by
          rcases hy with h | ⟨_, _, _, _, e2, _⟩
          · cases h; rfl
          · cases e2
        refine op_isN pins s σ H x y v u Q I rx ry ⟨ey, ?_⟩
        rw [hx.is_none]
        have e' : some (isNone p) = some k := by
          rw [← e]
          cases p <;> rfl
        rw [Option.some.inj e']
        exact res
      | _ => cases p <;> cases e
    | nisn =>
      cases q with
      | none =>
        have ey : y = .non := by
          rcases hy with h | ⟨_, _, _, _, e2, _⟩
          · cases h; rfl
          · cases e2
        refine op_notN pins s σ H x y v u Q I rx ry ⟨ey, ?_⟩
        rw [hx.is_none]
        have e' : some (!isNone p) = some k := by
          rw [← e]
          cases p <;> rfl
        rw [Option.some.inj e']
        exact res
      | _ => cases p <;> cases e
    | mem =>
      cases q with
      | list xs =>
        have e' : (if SeqAt.shaped p && SeqAt.shaped (.list xs) then some (xs.any fun z => PyData.eqv z p) else none) = some k := by
          rw [← e]
          cases p <;> rfl
        obtain ⟨hc, rfl⟩ := iteS e'
        rw [Bool.and_eq_true] at hc
        exact op_inD (by omega) pins s σ H x y v u Q I rx ry ⟨p, xs, (hx.rp sb).dp (lay_of hc.1), (hy.rp sb).dp (lay_of hc.2), hc.1, hc.2, res⟩
      | tuple xs =>
        cases p with
        | int a =>
          obtain ⟨hc, rfl⟩ := iteS e
          obtain ⟨b, vs, rfl, hb, fb, rb⟩ := hy.tup sb
          obtain ⟨f1, f2⟩ := ints_all (a := a) rb hc
          have ex := hx.int
          subst ex
          refine op_in_seq pins s σ H _ _ v u Q I rx ry ⟨b, vs, rfl, .inr hb, rfl, f1, ?_⟩
          show Q (.bl (inV (.int a) vs)) H
          rw [f2]
          exact res
        | _ => cases e
      | _ => cases p <;> cases e
    | nmem =>
      cases q with
      | list xs =>
        have e' : (if SeqAt.shaped p && SeqAt.shaped (.list xs) then some (!xs.any fun z => PyData.eqv z p) else none) = some k := by
          rw [← e]
          cases p <;> rfl
        obtain ⟨hc, rfl⟩ := iteS e'
        rw [Bool.and_eq_true] at hc
        exact op_notInD (by omega) pins s σ H x y v u Q I rx ry ⟨p, xs, (hx.rp sb).dp (lay_of hc.1), (hy.rp sb).dp (lay_of hc.2), hc.1, hc.2, res⟩
      | tuple xs =>
        cases p with
        | int a =>
          obtain ⟨hc, rfl⟩ := iteS e
          obtain ⟨b, vs, rfl, hb, fb, rb⟩ := hy.tup sb
          obtain ⟨f1, f2⟩ := ints_all (a := a) rb hc
          have ex := hx.int
          subst ex
          refine op_notIn_seq pins s σ H _ _ v u Q I rx ry ⟨b, vs, rfl, .inr hb, rfl, f1, ?_⟩
          show Q (.bl (!inV (.int a) vs)) H
          rw [f2]
          exact res
        | _ => cases e
      | _ => cases p <;> cases e
    | _ =>
      cases p <;> cases q <;> first | exact absurd ⟨⟨_, rfl⟩, _, rfl⟩ hi | cases e
end
end De
end

section
set_option maxHeartbeats 4000000
namespace De
open PySem PySem.Spec PyProof.Rows L2

/-! ### built-ins by data -/
inductive VwA (K : PySem.W.Frag) (F H : Hp) : List V → List PyData → Prop
  | nil : VwA K F H [] []
  | cons {v : V} {vs : List V} {d : PyData} {ds : List PyData} : Vw K F H v d → VwA K F H vs ds → VwA K F H (v :: vs) (d :: ds)
def nmB : Blt → String
  | .len => "len"
  | .abs => "abs"
  | .int => "int"
  | .max => "max"
  | .min => "min"
  | .sum => "sum"
  | .any => "any"
  | .all => "all"
  | .tuple => "tuple"
  | .list => "list"
  | .sorted => "sorted"
def isTy : Blt → Bool
  | .int => true
  | .tuple => true
  | .list => true
  | _ => false
def valB (b : Blt) : Value := if isTy b then .type (nmB b) else .builtin (nmB b)
def rBl (K : PySem.W.Frag) (b : Blt) : List V → Hp → VK → Prop := fun vs H Q => ∃ F ds rv, Sub F H ∧ VwA K F H vs ds ∧ blt b ds = some rv ∧ Res K F H Q rv
section
variable {K : PySem.W.Frag} {F H : Hp}
theorem VwA.one {vs : List V} {d : PyData} (h : VwA K F H vs [d]) : ∃ v, vs = [v] ∧ Vw K F H v d := by
  cases h with
  | cons h r => cases r; exact ⟨_, rfl, h⟩
theorem VwA.two {vs : List V} {d e : PyData} (h : VwA K F H vs [d, e]) : ∃ v u, vs = [v, u] ∧ Vw K F H v d ∧ Vw K F H u e := by
  cases h with
  | cons h r => cases r with
    | cons g r => cases r; exact ⟨_, _, rfl, h, g⟩
end
theorem maxL_mem : ∀ (r : List Int) (m : Int), maxL m r ∈ m :: r ∧ ∀ y ∈ m :: r, y ≤ maxL m r
  | [], m => ⟨List.mem_cons_self, fun y h => by
    rw [List.mem_singleton] at h
    rw [h]
    exact Int.le_refl _⟩
  | x :: r, m => by
    obtain ⟨h1, h2⟩ := maxL_mem r (if x > m then x else m)
    show maxL (if x > m then x else m) r ∈ _ ∧ ∀ y ∈ _, y ≤ maxL (if x > m then x else m) r
    have h3 := h2 _ List.mem_cons_self
    refine ⟨?_, fun y hy => ?_⟩
    · rcases List.mem_cons.mp h1 with e | e
      · rw [e]
        split
        · exact List.mem_cons_of_mem _ List.mem_cons_self
        · exact List.mem_cons_self
      · exact List.mem_cons_of_mem _ (List.mem_cons_of_mem _ e)
    · rcases List.mem_cons.mp hy with e | hy
      · subst e
        by_cases hc : x > y
        · rw [if_pos hc] at h3 ⊢
          omega
        · rw [if_neg hc] at h3 ⊢
          omega
      · rcases List.mem_cons.mp hy with e | hy
        · subst e
          by_cases hc : y > m
          · rw [if_pos hc] at h3 ⊢
            omega
          · rw [if_neg hc] at h3 ⊢
            omega
        · exact h2 y (List.mem_cons_of_mem _ hy)
theorem minL_mem : ∀ (r : List Int) (m : Int), minL m r ∈ m :: r ∧ ∀ y ∈ m :: r, minL m r ≤ y
  | [], m => ⟨List.mem_cons_self, fun y h => by
    rw [List.mem_singleton] at h
    rw [h]
    exact Int.le_refl _⟩
  | x :: r, m => by
    obtain ⟨h1, h2⟩ := minL_mem r (if x < m then x else m)
    show minL (if x < m then x else m) r ∈ _ ∧ ∀ y ∈ _, minL (if x < m then x else m) r ≤ y
    have h3 := h2 _ List.mem_cons_self
    refine ⟨?_, fun y hy => ?_⟩
    · rcases List.mem_cons.mp h1 with e | e
      · rw [e]
        split
        · exact List.mem_cons_of_mem _ List.mem_cons_self
        · exact List.mem_cons_self
      · exact List.mem_cons_of_mem _ (List.mem_cons_of_mem _ e)
    · rcases List.mem_cons.mp hy with e | hy
      · subst e
        by_cases hc : x < y
        · rw [if_pos hc] at h3 ⊢
          omega
        · rw [if_neg hc] at h3 ⊢
          omega
      · rcases List.mem_cons.mp hy with e | hy
        · subst e
          by_cases hc : y < m
          · rw [if_pos hc] at h3 ⊢
            omega
          · rw [if_neg hc] at h3 ⊢
            omega
        · exact h2 y (List.mem_cons_of_mem _ hy)
theorem insI_perm (x : Int) : ∀ l : List Int, (insI x l).Perm (x :: l)
  | [] => .refl _
  | y :: r => by
    unfold insI
    split
    · exact .refl _
    · exact ((insI_perm x r).cons y).trans (.swap x y r)
theorem sortI_perm : ∀ l : List Int, (sortI l).Perm l
  | [] => .refl _
  | x :: r => (insI_perm x (sortI r)).trans ((sortI_perm r).cons x)
theorem insI_sorted (x : Int) : ∀ l : List Int, l.Pairwise (· ≤ ·) → (insI x l).Pairwise (· ≤ ·)
  | [], _ => List.pairwise_singleton _ _
  | y :: r, h => by
    unfold insI
    have h' := List.pairwise_cons.mp h
    split
    · rename_i hc
      refine List.pairwise_cons.mpr ⟨fun z hz => ?_, h⟩
      rcases List.mem_cons.mp hz with e | hz
      · rw [e]
        exact hc
      · exact Int.le_trans hc (h'.1 z hz)
    · rename_i hc
      refine List.pairwise_cons.mpr ⟨fun z hz => ?_, insI_sorted x r h'.2⟩
      rcases List.mem_cons.mp ((insI_perm x r).mem_iff.mp hz) with e | hz
      · rw [e]
        omega
      · exact h'.1 z hz
theorem sortI_sorted : ∀ l : List Int, (sortI l).Pairwise (· ≤ ·)
  | [] => .nil
  | x :: r => insI_sorted x _ (sortI_sorted r)
/-- two sorted lists of the same numbers are one -/
theorem sorted_one : ∀ {l m : List Int}, l.Perm m → l.Pairwise (· ≤ ·) → m.Pairwise (· ≤ ·) → l = m
  | [], m, p, _, _ => (List.nil_perm.mp p).symm
  | x :: r, [], p, _, _ => absurd p.length_eq (by simp)
  | x :: r, y :: s, p, h1, h2 => by
    have a1 := List.pairwise_cons.mp h1
    have a2 := List.pairwise_cons.mp h2
    have e : x = y := by
      have m1 : x ∈ y :: s := p.mem_iff.mp List.mem_cons_self
      have m2 : y ∈ x :: r := p.mem_iff.mpr List.mem_cons_self
      rcases List.mem_cons.mp m1 with e | m1
      · exact e
      · rcases List.mem_cons.mp m2 with e | m2
        · exact e.symm
        · exact Int.le_antisymm (a1.1 y m2) (a2.1 x m1)
    subst e
    rw [sorted_one (p.cons_inv) a1.2 a2.2]
theorem map_int_rp {K : PySem.W.Frag} {H : Hp} (ns : List Int) : RpA K H (ns.map V.int) (ns.map PyData.int) := rpA_ints ns
section
variable {X : Cx}
def rSumT (K : PySem.W.Frag) : List V → Hp → VK → Prop := fun vs H Q => ∃ (a : Addr) (ns : List Int), vs = [V.ref a] ∧ SqT K H a (ns.map V.int) ∧ Q (.int ns.sum) H
theorem cr_sumT (hc : X.calm = true) : CallR X (.builtin "sum") (rSumT X.K) := by
  intro pins s σ H vs us Q I r h
  obtain ⟨a, ns, rfl, hs, q⟩ := h
  obtain ⟨its, rv, hl, _⟩ := I.tuple hs
  rw [Vals.ref1 r]
  obtain ⟨xs, e⟩ := rv.ints.allInts.items
  have hn : numsOf (intItems xs).toList = ns := by
    rw [← e]
    exact rv.ints.numsOf
  rw [nums_intItems] at hn
  rw [e] at hl
  refine PySem.W.ktm_sumG (I.ok.hd hc) hl fun h' tk t' hk => ?_
  rw [preSum_eq, List.take_of_length_le (by simp), hn]
  exact ⟨.int _, H, I.kept hk, ⟨_, rfl⟩, q⟩
theorem cb (hc : X.calm = true) (b : Blt) : CallR X (valB b) (rBl X.K b) := by
  intro pins s σ H vs us Q I r h
  obtain ⟨F, ds, rv, sb, hv, e, res⟩ := h
  cases b with
  | len =>
    match ds, e with
    | [.list xs], e =>
      cases e
      obtain ⟨v, rfl, h1⟩ := hv.one
      obtain ⟨a, ws, rfl, ha, ra⟩ := h1.list sb
      refine call_len_seq pins s σ H _ us Q I r ⟨a, ws, rfl, .inl (SqL.of ha), ?_⟩
      rw [ra.length]
      exact res.int sb
    | [.tuple xs], e =>
      cases e
      obtain ⟨v, rfl, h1⟩ := hv.one
      obtain ⟨a, ws, rfl, ha, _, ra⟩ := h1.tup sb
      refine call_len_seq pins s σ H _ us Q I r ⟨a, ws, rfl, .inr ha, ?_⟩
      rw [ra.length]
      exact res.int sb
  | abs =>
    match ds, e with
    | [.int a], e =>
      cases e
      obtain ⟨v, rfl, h1⟩ := hv.one
      exact call_abs pins s σ H _ us Q I r ⟨a, by rw [h1.int], res.int sb⟩
  | int =>
    match ds, e with
    | [.int a], e =>
      cases e
      obtain ⟨v, rfl, h1⟩ := hv.one
      exact call_int1 pins s σ H _ us Q I r (.inl ⟨a, by rw [h1.int], res.int sb⟩)
    | [.bool a], e =>
      cases e
      obtain ⟨v, rfl, h1⟩ := hv.one
      exact call_int1 pins s σ H _ us Q I r (.inr ⟨a, by rw [h1.bool], res.int sb⟩)
  | max =>
    match ds, e with
    | [.int a, .int b], e =>
      cases e
      obtain ⟨v, u, rfl, h1, h2⟩ := hv.two
      exact call_max2 hc pins s σ H _ us Q I r ⟨a, b, by rw [h1.int, h2.int], res.int sb⟩
    | [.list xs], e =>
      obtain ⟨v, rfl, h1⟩ := hv.one
      obtain ⟨a, ws, rfl, ha, ra⟩ := h1.list sb
      have e : (match intsOf xs with
        | some (x :: r) => some (Rv.d (.int (maxL x r)))
        | _ => none) = some rv := e
      cases q : intsOf xs with
      | none => rw [q] at e; cases e
      | some ns =>
        rw [q] at e
        cases ns with
        | nil => cases e
        | cons x r' =>
          cases e
          have hw := ra.ints q
          subst hw
          obtain ⟨m1, m2⟩ := maxL_mem r' x
          refine cr_max hc pins s σ H _ us Q I r ⟨a, x :: r', rfl, SqL.of ha, Nat.zero_lt_succ _, fun m h1 h2 => ?_⟩
          rw [Int.le_antisymm (m2 m h1) (h2 _ m1)]
          exact res.int sb
  | min =>
    match ds, e with
    | [.int a, .int b], e =>
      cases e
      obtain ⟨v, u, rfl, h1, h2⟩ := hv.two
      exact call_min2 hc pins s σ H _ us Q I r ⟨a, b, by rw [h1.int, h2.int], res.int sb⟩
    | [.list xs], e =>
      obtain ⟨v, rfl, h1⟩ := hv.one
      obtain ⟨a, ws, rfl, ha, ra⟩ := h1.list sb
      have e : (match intsOf xs with
        | some (x :: r) => some (Rv.d (.int (minL x r)))
        | _ => none) = some rv := e
      cases q : intsOf xs with
      | none => rw [q] at e; cases e
      | some ns =>
        rw [q] at e
        cases ns with
        | nil => cases e
        | cons x r' =>
          cases e
          have hw := ra.ints q
          subst hw
          obtain ⟨m1, m2⟩ := minL_mem r' x
          refine cr_min hc pins s σ H _ us Q I r ⟨a, x :: r', rfl, SqL.of ha, Nat.zero_lt_succ _, fun m h1 h2 => ?_⟩
          rw [Int.le_antisymm (h2 _ m1) (m2 m h1)]
          exact res.int sb
  | sum =>
    match ds, e with
    | [.list xs], e =>
      obtain ⟨v, rfl, h1⟩ := hv.one
      obtain ⟨a, ws, rfl, ha, ra⟩ := h1.list sb
      have e : (match intsOf xs with
        | some ns => some (Rv.d (.int ns.sum))
        | none => none) = some rv := e
      cases q : intsOf xs with
      | none => rw [q] at e; cases e
      | some ns =>
        rw [q] at e
        cases e
        have hw := ra.ints q
        subst hw
        exact cr_sum hc pins s σ H _ us Q I r ⟨a, ns, rfl, SqL.of ha, res.int sb⟩
    | [.tuple xs], e =>
      obtain ⟨v, rfl, h1⟩ := hv.one
      obtain ⟨a, ws, rfl, ha, _, ra⟩ := h1.tup sb
      have e : (match intsOf xs with
        | some ns => some (Rv.d (.int ns.sum))
        | none => none) = some rv := e
      cases q : intsOf xs with
      | none => rw [q] at e; cases e
      | some ns =>
        rw [q] at e
        cases e
        have hw := ra.ints q
        subst hw
        exact cr_sumT hc pins s σ H _ us Q I r ⟨a, ns, rfl, ha, res.int sb⟩
  | any =>
    match ds, e with
    | [.list xs], e =>
      obtain ⟨v, rfl, h1⟩ := hv.one
      obtain ⟨a, ws, rfl, ha, ra⟩ := h1.list sb
      have e : (match boolsOf xs with
        | some ns => some (Rv.d (.bool (ns.any id)))
        | none => none) = some rv := e
      cases q : boolsOf xs with
      | none => rw [q] at e; cases e
      | some ns =>
        rw [q] at e
        cases e
        have hw := ra.bools q
        subst hw
        exact cr_any hc pins s σ H _ us Q I r ⟨a, ns, rfl, SqL.of ha, res.bool sb⟩
  | all =>
    match ds, e with
    | [.list xs], e =>
      obtain ⟨v, rfl, h1⟩ := hv.one
      obtain ⟨a, ws, rfl, ha, ra⟩ := h1.list sb
      have e : (match boolsOf xs with
        | some ns => some (Rv.d (.bool (ns.all id)))
        | none => none) = some rv := e
      cases q : boolsOf xs with
      | none => rw [q] at e; cases e
      | some ns =>
        rw [q] at e
        cases e
        have hw := ra.bools q
        subst hw
        exact cr_all hc pins s σ H _ us Q I r ⟨a, ns, rfl, SqL.of ha, res.bool sb⟩
  | tuple =>
    match ds, e with
    | [.list xs], e =>
      cases e
      obtain ⟨v, rfl, h1⟩ := hv.one
      obtain ⟨a, ws, rfl, ha, ra⟩ := h1.list sb
      exact call_tuple_of pins s σ H _ us Q I r ⟨a, ws, rfl, .inl ⟨SqL.of ha, fun l hl => res.newT sb hl ra⟩⟩
    | [.tuple xs], e =>
      cases e
      obtain ⟨v, rfl, h1⟩ := hv.one
      obtain ⟨a, ws, rfl, ha, fa, ra⟩ := h1.tup sb
      exact call_tuple_of pins s σ H _ us Q I r ⟨a, ws, rfl, .inr ⟨ha, res _ _ _ (Gr.refl sb) (.tup fa ra)⟩⟩
  | list =>
    match ds, e with
    | [.list xs], e =>
      cases e
      obtain ⟨v, rfl, h1⟩ := hv.one
      obtain ⟨a, ws, rfl, ha, ra⟩ := h1.list sb
      exact call_list_of pins s σ H _ us Q I r ⟨a, ws, rfl, .inl (SqL.of ha), fun l hl => res l ws hl ra⟩
    | [.tuple xs], e =>
      cases e
      obtain ⟨v, rfl, h1⟩ := hv.one
      obtain ⟨a, ws, rfl, ha, fa, ra⟩ := h1.tup sb
      exact call_list_of pins s σ H _ us Q I r ⟨a, ws, rfl, .inr ha, fun l hl => res l ws hl ra⟩
    | [.dict [(.none, .list xs)]], e =>
      cases e
      obtain ⟨v, rfl, h1⟩ := hv.one
      obtain ⟨a, ws, rfl, ha, ra⟩ := h1.scr sb
      exact call_list_of pins s σ H _ us Q I r ⟨a, ws, rfl, .inl ha, fun l hl => res l ws hl ra⟩
  | sorted =>
    match ds, e with
    | [.list xs], e =>
      obtain ⟨v, rfl, h1⟩ := hv.one
      obtain ⟨a, ws, rfl, ha, ra⟩ := h1.list sb
      have e : (match intsOf xs with
        | some ns => some (Rv.own ((sortI ns).map .int))
        | none => none) = some rv := e
      cases q : intsOf xs with
      | none => rw [q] at e; cases e
      | some ns =>
        rw [q] at e
        cases e
        have hw := ra.ints q
        subst hw
        refine cr_sortedI pins s σ H _ us Q I r ⟨a, ns, rfl, SqL.of ha, fun ns' p h1 h2 hp => ?_⟩
        rw [sorted_one (h1.trans (sortI_perm ns).symm) h2 (sortI_sorted ns)]
        exact res p _ hp (rpA_ints _)
end
end De
end

section
set_option maxHeartbeats 4000000
namespace De
open PySem PySem.Spec PyProof.Rows L2

/-! ### either of two rules -/
section
variable {X : Cx}
theorem _root_.L2.PE.or {e : Expr} {t u : TE} (h : PE X e t) (g : PE X e u) : PE X e (fun σ H Q => t σ H Q ∨ u σ H Q) :=
  ⟨fun pins s σ H Q I q => q.elim (h.run pins s σ H Q I) (g.run pins s σ H Q I)⟩
theorem _root_.L2.PS.or {e : Stmt} {t u : TS} (h : PS X e t) (g : PS X e u) : PS X e (fun D σ H => t D σ H ∨ u D σ H) :=
  ⟨fun pins s σ H Q I q => q.elim (h.run pins s σ H Q I) (g.run pins s σ H Q I)⟩
theorem _root_.L2.PI.or {tg e : Expr} {t u : TI} (h : PI X tg e t) (g : PI X tg e u) : PI X tg e (fun σ H Q => t σ H Q ∨ u σ H Q) :=
  ⟨fun pins s σ H Q I q => q.elim (h.run pins s σ H Q I) (g.run pins s σ H Q I)⟩
theorem _root_.L2.PG.or {e : Expr} {t u : TG} (h : PG X e t) (g : PG X e u) : PG X e (fun v σ H Q => t v σ H Q ∨ u v σ H Q) :=
  ⟨fun pins s σ H v w Q I r q => q.elim (h.run pins s σ H v w Q I r) (g.run pins s σ H v w Q I r)⟩
end

/-! ### slots and heaps -/
/-- the slot i has the own list at p -/
def OwnAt (σ : L2.St) (e : En) (i : Nat) (p : Addr) : Prop := (∃ b xs, e[i]? = some (Sv.ow b xs)) ∧ σ[i]? = some (some (V.ref p))
/-- what stays the same through a def's run: heap and frozen part at the entry, the own lists passed in, and where they are -/
structure Fx where
  H0 : Hp
  F0 : Hp
  io : List Addr
  pn : Nat → Option V
structure Ok (K : PySem.W.Frag) (Y : Fx) (σ : L2.St) (e : En) (F H : Hp) : Prop where
  len : e.length = σ.length
  sub : Sub F H
  fz : ∀ (i : Nat) (d : PyData), e[i]? = some (Sv.fz d) → ∃ v, σ[i]? = some (some v) ∧ Rp K F v d
  ow : ∀ (i : Nat) (b : Bool) (xs : List PyData), e[i]? = some (Sv.ow b xs) → ∃ (p : Addr) (vs : List V), σ[i]? = some (some (V.ref p)) ∧ H p = some (.lst vs) ∧ F p = none ∧ RpA K F vs xs ∧ ((b = false ∧ Y.H0 p = none) ∨ (b = true ∧ p ∈ Y.io))
  inj : ∀ i j p, OwnAt σ e i p → OwnAt σ e j p → i = j
  grow0 : Sub Y.F0 F
  new0 : ∀ a, F a ≠ none → Y.F0 a ≠ none ∨ Y.H0 a = none
  keep0 : ∀ a o, Y.H0 a = some o → a ∉ Y.io → H a = some o
  stay0 : ∀ a, Y.H0 a ≠ none → H a ≠ none
  pin : ∀ i v, Y.pn i = some v → σ[i]? = some (some v) ∧ ∃ xs, e[i]? = some (Sv.ow true xs)
/-- from one state to the next within an expression -/
structure Step (σ : L2.St) (e : En) (F H : Hp) (e' : En) (F' H' : Hp) : Prop where
  len : e'.length = e.length
  grow : Sub F F'
  keep : ∀ a o, H a = some o → (∀ i, ¬ OwnAt σ e i a) → H' a = some o
  new : ∀ a, F' a ≠ none → F a ≠ none ∨ H a = none ∨ ∃ i, OwnAt σ e i a
  own : ∀ i a, OwnAt σ e' i a → OwnAt σ e i a
  stay : ∀ a, H a ≠ none → H' a ≠ none
/-- a result; Hs: the heap where the expression began -/
def RvOk (K : PySem.W.Frag) (Hs : Hp) (σ : L2.St) (e : En) (F H : Hp) (v : V) : Rv → Prop
  | .d d => Rp K F v d
  | .own xs => ∃ p vs, v = .ref p ∧ H p = some (.lst vs) ∧ F p = none ∧ Hs p = none ∧ (∀ i, ¬ OwnAt σ e i p) ∧ RpA K F vs xs
  | .loc i => σ[i]? = some (some v)
section
variable {K : PySem.W.Frag} {Y : Fx} {σ : L2.St} {e e' e'' : En} {F F' F'' H H' H'' Hs Ht : Hp} {v : V} {r : Rv} {d : PyData}
theorem not_none {α : Type} {x : Option α} {o : α} (h : x = some o) : x ≠ none := by
  rw [h]
  exact fun q => nomatch q
theorem none_of_not {α : Type} {x : Option α} (h : ¬ x ≠ none) : x = none := Classical.byContradiction h
theorem Step.refl : Step σ e F H e F H := ⟨rfl, Sub.refl _, fun _ _ h _ => h, fun _ h => .inl h, fun _ _ h => h, fun _ h => h⟩
theorem Step.trans (s : Step σ e F H e' F' H') (t : Step σ e' F' H' e'' F'' H'') : Step σ e F H e'' F'' H'' where
  len := t.len.trans s.len
  grow := s.grow.trans t.grow
  keep := fun a o h n => t.keep a o (s.keep a o h n) fun i q => n i (s.own i a q)
  new := fun a h => by
    rcases t.new a h with h | h | ⟨i, h⟩
    · exact s.new a h
    · exact .inr (.inl (Classical.byContradiction fun q => s.stay a q h))
    · exact .inr (.inr ⟨i, s.own i a h⟩)
  own := fun i a h => s.own i a (t.own i a h)
  stay := fun a h => t.stay a (s.stay a h)
/-- new frozen objects alone -/
theorem Gr.step (g : Gr F H F' H') : Step σ e F H e F' H' :=
  ⟨rfl, g.f, fun a o h _ => g.h a o h, fun a h => (g.new a h).elim .inl fun q => .inr (.inl q), fun _ _ h => h, fun a h q => by
    cases z : H a with
    | none => exact h z
    | some o => rw [g.h a o z] at q; cases q⟩
theorem Ok.gr (k : Ok K Y σ e F H) (g : Gr F H F' H') : Ok K Y σ e F' H' where
  len := k.len
  sub := g.sub
  fz := fun i d h => by
    obtain ⟨v, h1, h2⟩ := k.fz i d h
    exact ⟨v, h1, h2.mono g.f⟩
  ow := fun i b xs h => by
    obtain ⟨p, vs, h1, h2, h3, h4, h5⟩ := k.ow i b xs h
    refine ⟨p, vs, h1, g.h _ _ h2, Classical.byContradiction fun q => ?_, h4.mono g.f, h5⟩
    rcases g.new p q with z | z
    · exact z h3
    · rw [h2] at z
      cases z
  inj := k.inj
  grow0 := k.grow0.trans g.f
  new0 := fun a h => by
    rcases g.new a h with z | z
    · exact k.new0 a z
    · exact .inr (Classical.byContradiction fun q => k.stay0 a q z)
  keep0 := fun a o h n => g.h _ _ (k.keep0 a o h n)
  stay0 := fun a h => Step.stay (Gr.step (σ := σ) (e := e) g) a (k.stay0 a h)
  pin := k.pin
theorem OwnAt.of (k : Ok K Y σ e F H) {i : Nat} {b : Bool} {xs : List PyData} (h : e[i]? = some (.ow b xs)) : ∃ p, OwnAt σ e i p := by
  obtain ⟨p, vs, h1, _⟩ := k.ow i b xs h
  exact ⟨p, ⟨b, xs, h⟩, h1⟩
theorem RvOk.step (h : RvOk K Hs σ e F H v r) (s : Step σ e F H e' F' H') : RvOk K Hs σ e' F' H' v r := by
  cases r with
  | d d => exact Rp.mono s.grow h
  | loc i => exact h
  | own xs =>
    obtain ⟨p, vs, rfl, h1, h2, h3, h4, h5⟩ := h
    refine ⟨p, vs, rfl, s.keep p _ h1 h4, Classical.byContradiction fun q => ?_, h3, fun i q => h4 i (s.own i p q), h5.mono s.grow⟩
    rcases s.new p q with z | z | ⟨i, z⟩
    · exact z h2
    · rw [h1] at z
      cases z
    · exact h4 i z
/-- the same for an earlier beginning -/
theorem RvOk.from (h : RvOk K Hs σ e F H v r) (s : ∀ a, Ht a ≠ none → Hs a ≠ none) : RvOk K Ht σ e F H v r := by
  cases r with
  | d d => exact h
  | loc i => exact h
  | own xs =>
    obtain ⟨p, vs, rfl, h1, h2, h3, h4, h5⟩ := h
    exact ⟨p, vs, rfl, h1, h2, Classical.byContradiction fun q => s p q h3, h4, h5⟩
theorem RvOk.view (h : RvOk K Hs σ e F H v r) (k : Ok K Y σ e F H) (hd : deref e r = some d) : Vw K F H v d := by
  cases r with
  | d x =>
    cases hd
    exact .inl h
  | own xs =>
    cases hd
    obtain ⟨p, vs, rfl, h1, _, _, _, h5⟩ := h
    exact .inr ⟨p, vs, xs, rfl, rfl, h1, h5⟩
  | loc i =>
    have hd : (match e[i]? with
      | some (.fz d) => some d
      | some (.ow _ xs) => some (.list xs)
      | _ => none) = some d := hd
    have h : σ[i]? = some (some v) := h
    cases q : e[i]? with
    | none => rw [q] at hd; cases hd
    | some s =>
      rw [q] at hd
      cases s with
      | un => cases hd
      | fz x =>
        cases hd
        obtain ⟨u, h1, h2⟩ := k.fz i _ q
        rw [h] at h1
        cases h1
        exact .inl h2
      | ow b xs =>
        cases hd
        obtain ⟨p, vs, h1, h2, _, h4, _⟩ := k.ow i b xs q
        rw [h] at h1
        cases h1
        exact .inr ⟨p, vs, xs, rfl, rfl, h2, h4⟩
theorem getSet {e : En} {i j : Nat} {s t : Sv} (h : (e.set i s)[j]? = some t) : (i = j ∧ t = s) ∨ (i ≠ j ∧ e[j]? = some t) := by
  by_cases q : i = j
  · subst q
    rw [List.getElem?_set_self'] at h
    cases z : e[i]? with
    | none => rw [z] at h; cases h
    | some x => rw [z] at h; cases h; exact .inl ⟨rfl, rfl⟩
  · rw [List.getElem?_set_ne q] at h
    exact .inr ⟨q, h⟩
/-- an unpinned own list of a slot is frozen -/
theorem Ok.freeze (k : Ok K Y σ e F H) {i : Nat} {xs : List PyData} (h : e[i]? = some (.ow false xs)) :
    ∃ F' p vs, σ[i]? = some (some (.ref p)) ∧ F' p = some (.lst vs) ∧ RpA K F' vs xs ∧ Ok K Y σ (e.set i (.fz (.list xs))) F' H ∧ Step σ e F H (e.set i (.fz (.list xs))) F' H := by
  obtain ⟨p, vs, h1, h2, h3, h4, h5⟩ := k.ow i false xs h
  have hp : Y.H0 p = none := by
    rcases h5 with ⟨_, h5⟩ | ⟨h5, _⟩
    · exact h5
    · cases h5
  have g : Sub F (upd F p (.lst vs)) := sub_upd h3
  have own : ∀ j a, OwnAt σ (e.set i (.fz (.list xs))) j a → OwnAt σ e j a := fun j a ⟨⟨b, ys, q⟩, q2⟩ => by
    rcases getSet q with ⟨_, z⟩ | ⟨_, z⟩
    · cases z
    · exact ⟨⟨b, ys, z⟩, q2⟩
  have oi : OwnAt σ e i p := ⟨⟨_, _, h⟩, h1⟩
  refine ⟨upd F p (.lst vs), p, vs, h1, upd_same, h4.mono g, ⟨?_, ?_, ?_, ?_, ?_, ?_, ?_, ?_, ?_, ?_⟩, ⟨?_, ?_, ?_, ?_, ?_, ?_⟩⟩
  · rw [List.length_set]
    exact k.len
  · intro a o z
    by_cases q : a = p
    · subst q
      rw [upd_same] at z
      rw [← z]
      exact h2
    · rw [upd_ne q] at z
      exact k.sub a o z
  · intro j d z
    rcases getSet z with ⟨e1, e2⟩ | ⟨e1, e2⟩
    · subst e1
      cases e2
      exact ⟨_, h1, .lst upd_same (h4.mono g)⟩
    · obtain ⟨v, z1, z2⟩ := k.fz j d e2
      exact ⟨v, z1, z2.mono g⟩
  · intro j b ys z
    rcases getSet z with ⟨e1, e2⟩ | ⟨e1, e2⟩
    · cases e2
    · obtain ⟨q, ws, z1, z2, z3, z4, z5⟩ := k.ow j b ys e2
      refine ⟨q, ws, z1, z2, ?_, z4.mono g, z5⟩
      rw [upd_ne fun z => e1 (k.inj i j p oi ⟨⟨_, _, e2⟩, by rw [← z]; exact z1⟩)]
      exact z3
  · exact fun a b q z1 z2 => k.inj a b q (own a q z1) (own b q z2)
  · exact k.grow0.trans g
  · intro a z
    by_cases q : a = p
    · subst q
      exact .inr hp
    · rw [upd_ne q] at z
      exact k.new0 a z
  · exact k.keep0
  · exact k.stay0
  · intro j u z
    obtain ⟨z1, ys, z2⟩ := k.pin j u z
    refine ⟨z1, ys, ?_⟩
    rw [List.getElem?_set_ne fun q => ?_]
    · exact z2
    · subst q
      rw [h] at z2
      cases z2
  · rw [List.length_set]
  · exact g
  · exact fun a o z _ => z
  · intro a z
    by_cases q : a = p
    · subst q
      exact .inr (.inr ⟨i, oi⟩)
    · rw [upd_ne q] at z
      exact .inl z
  · exact own
  · exact fun a z => z
/-- freezing a result: from the expression's beginning (es, Fs, Hs) -/
theorem frz_ok {es : En} {Fs : Hp} (k : Ok K Y σ e F H) (s : Step σ es Fs Hs e F H) (h0 : ∀ a, Y.H0 a ≠ none → Hs a ≠ none) (h : RvOk K Hs σ e F H v r) (hf : frz r e = some (d, e')) :
    ∃ F', Ok K Y σ e' F' H ∧ Step σ es Fs Hs e' F' H ∧ Rp K F' v d := by
  cases r with
  | d x =>
    cases hf
    exact ⟨F, k, s, h⟩
  | own xs =>
    cases hf
    obtain ⟨p, vs, rfl, h1, h2, h3, h4, h5⟩ := h
    have g : Sub F (upd F p (.lst vs)) := sub_upd h2
    have hp : Y.H0 p = none := Classical.byContradiction fun q => h0 p q h3
    refine ⟨upd F p (.lst vs), ⟨k.len, ?_, ?_, ?_, k.inj, k.grow0.trans g, ?_, k.keep0, k.stay0, k.pin⟩, ⟨s.len, s.grow.trans g, s.keep, ?_, s.own, s.stay⟩, .lst upd_same (h5.mono g)⟩
    · intro a o z
      by_cases q : a = p
      · subst q
        rw [upd_same] at z
        rw [← z]
        exact h1
      · rw [upd_ne q] at z
        exact k.sub a o z
    · intro j d z
      obtain ⟨u, z1, z2⟩ := k.fz j d z
      exact ⟨u, z1, z2.mono g⟩
    · intro j b ys z
      obtain ⟨q, ws, z1, z2, z3, z4, z5⟩ := k.ow j b ys z
      refine ⟨q, ws, z1, z2, ?_, z4.mono g, z5⟩
      rw [upd_ne fun w => h4 j ⟨⟨_, _, z⟩, by rw [← w]; exact z1⟩]
      exact z3
    · intro a z
      by_cases q : a = p
      · subst q
        exact .inr hp
      · rw [upd_ne q] at z
        exact k.new0 a z
    · intro a z
      by_cases q : a = p
      · subst q
        exact .inr (.inl h3)
      · rw [upd_ne q] at z
        exact s.new a z
  | loc i =>
    have hf : (match e[i]? with
      | some (.fz d) => some (d, e)
      | some (.ow false xs) => some (.list xs, e.set i (.fz (.list xs)))
      | _ => none) = some (d, e') := hf
    have h : σ[i]? = some (some v) := h
    cases q : e[i]? with
    | none => rw [q] at hf; cases hf
    | some t =>
      rw [q] at hf
      cases t with
      | un => cases hf
      | fz x =>
        cases hf
        obtain ⟨u, h1, h2⟩ := k.fz i _ q
        rw [h] at h1
        cases h1
        exact ⟨F, k, s, h2⟩
      | ow b xs =>
        cases b with
        | true => cases hf
        | false =>
          cases hf
          obtain ⟨F', p, vs, z1, z2, z3, z4, z5⟩ := k.freeze q
          rw [h] at z1
          cases z1
          exact ⟨F', z4, s.trans z5, .lst z2 z3⟩
/-- a slot's own list is changed -/
theorem Ok.write (k : Ok K Y σ e F H) {i : Nat} {b : Bool} {xs ys : List PyData} {p : Addr} {ws : List V} (h : e[i]? = some (.ow b xs)) (hp : σ[i]? = some (some (.ref p))) (r : RpA K F ws ys) :
    Ok K Y σ (e.set i (.ow b ys)) F (upd H p (.lst ws)) ∧ Step σ e F H (e.set i (.ow b ys)) F (upd H p (.lst ws)) := by
  obtain ⟨p', vs, h1, h2, h3, h4, h5⟩ := k.ow i b xs h
  rw [hp] at h1
  cases h1
  have oi : OwnAt σ e i p := ⟨⟨_, _, h⟩, hp⟩
  have own : ∀ j a, OwnAt σ (e.set i (.ow b ys)) j a → OwnAt σ e j a := fun j a ⟨⟨c, zs, q⟩, q2⟩ => by
    rcases getSet q with ⟨e1, z⟩ | ⟨_, z⟩
    · subst e1
      exact ⟨⟨_, _, h⟩, q2⟩
    · exact ⟨⟨c, zs, z⟩, q2⟩
  have nf : ∀ a o, F a = some o → a ≠ p := fun a o z q => by
    subst q
    rw [h3] at z
    cases z
  refine ⟨⟨?_, ?_, ?_, ?_, ?_, k.grow0, k.new0, ?_, ?_, ?_⟩, ⟨?_, Sub.refl _, ?_, fun a z => .inl z, own, ?_⟩⟩
  · rw [List.length_set]
    exact k.len
  · intro a o z
    rw [upd_ne (nf a o z)]
    exact k.sub a o z
  · intro j d z
    rcases getSet z with ⟨e1, e2⟩ | ⟨e1, e2⟩
    · cases e2
    · exact k.fz j d e2
  · intro j c zs z
    rcases getSet z with ⟨e1, e2⟩ | ⟨e1, e2⟩
    · subst e1
      cases e2
      exact ⟨p, ws, hp, upd_same, h3, r, h5⟩
    · obtain ⟨q, us, z1, z2, z3, z4, z5⟩ := k.ow j c zs e2
      refine ⟨q, us, z1, ?_, z3, z4, z5⟩
      rw [upd_ne fun w => e1 (k.inj i j p oi ⟨⟨_, _, e2⟩, by rw [← w]; exact z1⟩)]
      exact z2
  · exact fun a c q z1 z2 => k.inj a c q (own a q z1) (own c q z2)
  · intro a o z n
    rw [upd_ne fun w => ?_]
    · exact k.keep0 a o z n
    · subst w
      rcases h5 with ⟨_, q⟩ | ⟨_, q⟩
      · rw [q] at z
        cases z
      · exact n q
  · intro a z w
    by_cases q : a = p
    · subst q
      rw [upd_same] at w
      cases w
    · rw [upd_ne q] at w
      exact k.stay0 a z w
  · intro j u z
    obtain ⟨z1, zs, z2⟩ := k.pin j u z
    refine ⟨z1, ?_⟩
    by_cases q : i = j
    · subst q
      rw [h] at z2
      cases z2
      exact ⟨ys, by rw [List.getElem?_set_self']; rw [h]; rfl⟩
    · exact ⟨zs, by rw [List.getElem?_set_ne q]; exact z2⟩
  · rw [List.length_set]
  · intro a o z n
    rw [upd_ne fun w => n i (by rw [w]; exact oi)]
    exact z
  · intro a z w
    by_cases q : a = p
    · subst q
      rw [upd_same] at w
      cases w
    · rw [upd_ne q] at w
      exact z w
end
end De
end

section
set_option maxHeartbeats 4000000
namespace De
open PySem PySem.Spec PyProof.Rows L2

/-! ### does a term match the text -/
/-- a program: its defs, the names by which they are called, its numbers -/
structure Pg where
  P : List Df
  nm : List Str
  gl : List (Str × Int)
  M : Nat
def glO (sc : Scope) (x : Str) : Bool := match sc.names.lookup x with
  | some .globalImplicit => !(x == ("__debug__" : Str))
  | _ => false
def visO (sc : Scope) (x : Str) : Bool := match sc.names.lookup x with
  | some .local => true
  | some .cell => true
  | some .free => true
  | _ => false
def locO (sc : Scope) (x : Str) : Bool := match sc.names.lookup x with
  | some .local => true
  | some .cell => true
  | _ => false
def plO (sc : Scope) (x : Str) : Bool := match sc.names.lookup x with
  | some .local => true
  | _ => false
def nmO (N : List Str) (sc : Scope) (i : Nat) (x : Str) : Bool := decide (N[i]? = some x) && visO sc x && !(x == ("__debug__" : Str)) && !(x == ("__classdict__" : Str))
def cstO : Dt → Const → Bool
  | .none, .none => true
  | .bool a, .bool b => a == b
  | .int a, .int b => decide (a = b)
  | .str a, .str b => decide (a = b)
  | _, _ => false
def notSl : Expr → Bool
  | .Slice .. => false
  | _ => true
def notStar : Expr → Bool
  | .Starred .. => false
  | _ => true
def notSet : Expr → Bool
  | .Set .. => false
  | _ => true
def notLc : Expr → Bool
  | .ListComp .. => false
  | .SetComp .. => false
  | .DictComp .. => false
  | _ => true
def notTup : Expr → Bool
  | .Tuple .. => false
  | _ => true
def notCall0 : Expr → Bool
  | .Call _ [] _ _ => false
  | _ => true
def plainT : Expr → Bool
  | .BoolOp .. => false
  | .UnaryOp .. => false
  | .IfExp .. => false
  | .Compare .. => false
  | _ => true
def isTup : Expr → Bool
  | .Tuple .. => true
  | _ => false
section
variable (G : Pg) (N : List Str)
mutual
def chkTg (sc : Scope) : Tg → Expr → Bool
  | .nm i, .Name x _ => decide (N[i]? = some x) && locO sc x
  | .tp t, .Tuple es _ _ => chkTs sc t es
  | _, _ => false
def chkTs (sc : Scope) : Tg → List Expr → Bool
  | .nil, [] => true
  | .cons t u, e :: es => chkTg sc t e && notStar e && chkTs sc u es
  | _, _ => false
end
def ownN (own : List Nat) : List (Str × Nat) := own.map fun i => (N.getD i Str.empty, i)
structure Ck where
  e : Scope → Expr → Bool
  t : Scope → Expr → Bool
  i : Scope → Expr → Expr → Bool
def ckV (f : Scope → Expr → Bool) : Ck := ⟨f, fun sc x => f sc x && plainT x, fun sc _ x => f sc x⟩
def ckN (f : Scope → Expr → Bool) : Ck := ⟨f, fun _ _ => false, fun _ _ _ => false⟩
def ckI (f : Scope → Expr → Expr → Bool) : Ck := ⟨fun _ _ => false, fun _ _ => false, f⟩
def cCst (d : Dt) (sc : Scope) : Expr → Bool
  | .Constant c _ _ => cstO d c
  | _ => false
def cGlob (x : Str) (d : Dt) (sc : Scope) : Expr → Bool
  | .Name y _ => (match d with
    | .int i => decide (x = y) && glO sc y && G.gl.any fun q => decide (q.1 = y) && decide (q.2 = i)
    | _ => false)
  | _ => false
def cNm (i : Nat) (sc : Scope) : Expr → Bool
  | .Name y _ => nmO N sc i y
  | _ => false
def cBin (op : Bop) (a b : Expr → Bool) : Expr → Bool
  | .BinOp l o r _ => decide (opB op = o) && a l && b r
  | _ => false
def cNeg (a : Expr → Bool) : Expr → Bool
  | .UnaryOp .USub x _ => a x
  | _ => false
def cNot (a : Expr → Bool) : Expr → Bool
  | .UnaryOp .Not x _ => a x
  | _ => false
def cBits (a : Expr → Bool) : Expr → Bool
  | .Call (.Attribute o m ap) [] [] cp => decide (m = ("bit_length" : Str)) && a o && (ap.endLine == cp.line) && notCall0 o
  | _ => false
def cCmp (op : Cop) (a b : Expr → Bool) : Expr → Bool
  | .Compare l [o] [r] _ => decide (opC op = o) && a l && b r && notSet r
  | _ => false
def cCmp2 (op op2 : Cop) (a b c : Expr → Bool) : Expr → Bool
  | .Compare l [o, o2] [m, r] _ => decide (opC op = o) && decide (opC op2 = o2) && a l && b m && c r && notSet m && notSet r
  | _ => false
def cBo (k : BoolOp) (a b : Expr → Bool) : Expr → Bool
  | .BoolOp o (x :: y :: r) p => decide (o = k) && a x && b (.BoolOp o (y :: r) p)
  | _ => false
def cOne (a : Expr → Bool) : Expr → Bool
  | .BoolOp _ [x] _ => a x
  | _ => false
def cIte (c a b : Expr → Bool) : Expr → Bool
  | .IfExp t x y _ => c t && a x && b y
  | _ => false
def cTup (es : List Expr → Bool) : Expr → Bool
  | .Tuple xs _ _ => es xs
  | _ => false
def cLst (es : List Expr → Bool) : Expr → Bool
  | .List xs _ => es xs
  | _ => false
def cIx (a i : Expr → Bool) : Expr → Bool
  | .Subscript x s _ => a x && i s && notSl s
  | _ => false
def cSlF (a lo : Expr → Bool) : Expr → Bool
  | .Subscript x (.Slice (some l) none none _) _ => a x && lo l
  | _ => false
def cSlT (a hi : Expr → Bool) : Expr → Bool
  | .Subscript x (.Slice none (some h) none _) _ => a x && hi h
  | _ => false
def cSl (a lo hi : Expr → Bool) : Expr → Bool
  | .Subscript x (.Slice (some l) (some h) none _) _ => a x && lo l && hi h
  | _ => false
def cRev (a : Expr → Bool) : Expr → Bool
  | .Subscript x (.Slice none none (some (.UnaryOp .USub (.Constant (.int 1) _ _) _)) _) _ => a x
  | _ => false
def cCall (f : Nat) (sc : Scope) (es : List Expr → Bool) : Expr → Bool
  | .Call (.Name x _) xs [] _ => decide (G.nm[f]? = some x) && glO sc x && es xs && (G.P[f]?).isSome
  | _ => false
def cBlt (b : Blt) (sc : Scope) (a : Expr → Bool) : Expr → Bool
  | .Call (.Name x _) [y] [] _ => decide (x = Str.ofString (nmB b)) && glO sc x && a y && notStar y
  | _ => false
def cBlt2 (b : Blt) (sc : Scope) (a c : Expr → Bool) : Expr → Bool
  | .Call (.Name x _) [y, z] [] _ => decide (x = Str.ofString (nmB b)) && glO sc x && a y && c z && notStar y && notStar z
  | _ => false
def nmI : Ist → String
  | .tuple => "tuple"
  | .list => "list"
  | .bool => "bool"
  | .int => "int"
  | .str => "str"
def cIsi (t : Ist) (sc : Scope) (a : Expr → Bool) : Expr → Bool
  | .Call (.Name x _) [y, .Name z _] [] _ => decide (x = ("isinstance" : Str)) && glO sc x && a y && decide (z = Str.ofString (nmI t)) && glO sc z && notStar y
  | _ => false
def cTupRev (sc : Scope) (a : Expr → Bool) : Expr → Bool
  | .Call (.Name x _) [.Call (.Name z _) [y] [] _] [] _ => decide (x = ("tuple" : Str)) && glO sc x && a y && decide (z = ("reversed" : Str)) && glO sc z && notStar y
  | _ => false
def cPop (i : Nat) (sc : Scope) : Expr → Bool
  | .Call (.Attribute (.Name y _) m ap) [] [] cp => decide (m = ("pop" : Str)) && nmO N sc i y && (ap.endLine == cp.line)
  | _ => false
def cPopAt (i : Nat) (sc : Scope) (a : Expr → Bool) : Expr → Bool
  | .Call (.Attribute (.Name y _) m ap) [x] [] cp => decide (m = ("pop" : Str)) && nmO N sc i y && (ap.endLine == cp.line) && a x && notStar x
  | _ => false
def cComp (own : List Nat) (t : Tg) (sc : Scope) (elt : Scope → Expr → Bool) (it : Expr → Expr → Bool) : Expr → Bool
  | .ListComp e [⟨tg, iter, [], 0⟩] s _ => elt (relS s sc) e && chkTg N s t tg && it tg iter && blkC N sc s (ownN N own) && notSet iter && (tgN t).all fun i => own.contains i
  | _ => false
def cCompIf (own : List Nat) (t : Tg) (sc : Scope) (elt c : Scope → Expr → Bool) (it : Expr → Expr → Bool) : Expr → Bool
  | .ListComp e [⟨tg, iter, [f], 0⟩] s _ => elt (relS s sc) e && chkTg N s t tg && it tg iter && blkC N sc s (ownN N own) && notSet iter && ((tgN t).all fun i => own.contains i) && c (relS s sc) f
  | _ => false
def cRng1 (sc : Scope) (a : Expr → Bool) : Expr → Bool
  | .Call (.Name x _) [y] [] _ => decide (x = ("range" : Str)) && glO sc x && a y && notStar y
  | _ => false
def cRng2 (sc : Scope) (a b : Expr → Bool) : Expr → Bool
  | .Call (.Name x _) [y, z] [] _ => decide (x = ("range" : Str)) && glO sc x && a y && b z && notStar y && notStar z
  | _ => false
def cRng3 (sc : Scope) (a b c : Expr → Bool) : Expr → Bool
  | .Call (.Name x _) [y, z, u] [] _ => decide (x = ("range" : Str)) && glO sc x && a y && b z && c u && notStar y && notStar z && notStar u
  | _ => false
def cEnum (sc : Scope) (a : Expr → Bool) (tg : Expr) : Expr → Bool
  | .Call (.Name x _) [y] [] _ => decide (x = ("enumerate" : Str)) && glO sc x && a y && notStar y && isTup tg
  | _ => false
def cZip (sc : Scope) (a b : Expr → Bool) (tg : Expr) : Expr → Bool
  | .Call (.Name x _) [y, z] [] _ => decide (x = ("zip" : Str)) && glO sc x && a y && b z && notStar y && notStar z && isTup tg
  | _ => false
def cRevd (sc : Scope) (a : Expr → Bool) : Expr → Bool
  | .Call (.Name x _) [y] [] _ => decide (x = ("reversed" : Str)) && glO sc x && a y && notStar y
  | _ => false
def aNilC : List Expr → Bool
  | [] => true
  | _ => false
def aConsC (a : Expr → Bool) (es : List Expr → Bool) : List Expr → Bool
  | x :: xs => a x && notStar x && es xs
  | _ => false
mutual
def ck : E → Ck
  | .cst d => ckV (cCst d)
  | .glob x d => ckV (cGlob G x d)
  | .nm i => ckV (cNm N i)
  | .bin op a b => ckV fun sc => cBin op ((ck a).e sc) ((ck b).e sc)
  | .neg a => ckN fun sc => cNeg ((ck a).e sc)
  | .bits a => ckV fun sc => cBits ((ck a).e sc)
  | .cmp op a b => ⟨fun sc => cCmp op ((ck a).e sc) ((ck b).e sc), fun sc => cCmp op ((ck a).e sc) ((ck b).e sc), fun _ _ _ => false⟩
  | .cmp2 op op2 a b c => ⟨fun sc => cCmp2 op op2 ((ck a).e sc) ((ck b).e sc) ((ck c).e sc), fun sc => cCmp2 op op2 ((ck a).e sc) ((ck b).e sc) ((ck c).e sc), fun _ _ _ => false⟩
  | .and a b => ⟨fun sc => cBo .And ((ck a).e sc) ((ck b).e sc), fun sc => cBo .And ((ck a).t sc) ((ck b).t sc), fun _ _ _ => false⟩
  | .or a b => ⟨fun sc => cBo .Or ((ck a).e sc) ((ck b).e sc), fun sc => cBo .Or ((ck a).t sc) ((ck b).t sc), fun _ _ _ => false⟩
  | .one a => ⟨fun sc => cOne ((ck a).e sc), fun sc => cOne ((ck a).t sc), fun _ _ _ => false⟩
  | .not a => ⟨fun sc => cNot ((ck a).e sc), fun sc => cNot ((ck a).t sc), fun _ _ _ => false⟩
  | .ite c a b => ckN fun sc => cIte ((ck c).t sc) ((ck a).e sc) ((ck b).e sc)
  | .tup es => ckV fun sc => cTup (cks es sc)
  | .lst es => ckV fun sc => cLst (cks es sc)
  | .ix a i => ckV fun sc => cIx ((ck a).e sc) ((ck i).e sc)
  | .slF a lo => ckV fun sc => cSlF ((ck a).e sc) ((ck lo).e sc)
  | .slT a hi => ckV fun sc => cSlT ((ck a).e sc) ((ck hi).e sc)
  | .sl a lo hi => ckV fun sc => cSl ((ck a).e sc) ((ck lo).e sc) ((ck hi).e sc)
  | .rev a => ckV fun sc => cRev ((ck a).e sc)
  | .call f es => ckV fun sc => cCall G f sc (cks es sc)
  | .blt b a => ckV fun sc => cBlt b sc ((ck a).e sc)
  | .blt2 b a c => ckV fun sc => cBlt2 b sc ((ck a).e sc) ((ck c).e sc)
  | .isi t a => ckV fun sc => cIsi t sc ((ck a).e sc)
  | .tupRev a => ckV fun sc => cTupRev sc ((ck a).e sc)
  | .pop i => ckV (cPop N i)
  | .popAt i a => ckV fun sc => cPopAt N i sc ((ck a).e sc)
  | .comp elt own t it => ckV fun sc => cComp N own t sc (ck elt).e ((ck it).i sc)
  | .compIf elt own t it c => ckV fun sc => cCompIf N own t sc (ck elt).e (ck c).t ((ck it).i sc)
  | .rng1 a => ckI fun sc _ => cRng1 sc ((ck a).e sc)
  | .rng2 a b => ckI fun sc _ => cRng2 sc ((ck a).e sc) ((ck b).e sc)
  | .rng3 a b c => ckI fun sc _ => cRng3 sc ((ck a).e sc) ((ck b).e sc) ((ck c).e sc)
  | .enum a => ckI fun sc tg => cEnum sc ((ck a).e sc) tg
  | .zip a b => ckI fun sc tg => cZip sc ((ck a).e sc) ((ck b).e sc) tg
  | .revd a => ckI fun sc _ => cRevd sc ((ck a).e sc)
  | .fz a => ckV fun sc => (ck a).e sc
def cks : Es → Scope → List Expr → Bool
  | .nil, _ => aNilC
  | .cons a es, sc => aConsC ((ck a).e sc) (cks es sc)
end
/-- the names that are stored -/
def nmF (sc : Scope) (line : Nat) : Expr → Option Str
  | .Name id pos => if sc.names.lookup id == some .local && pos.line == line then some id else none
  | _ => none
/-- the stores of a, b = .. are swapped -/
def swapO (sc : Scope) (ts vs : List Expr) : Option Bool :=
  if (ts.length == 2 || ts.length == 3) && vs.length == ts.length then
    if (ts.filterMap (nmF sc ((ts.head?.map (·.pos.line)).getD 0))).length != ts.length || (ts.filterMap (nmF sc ((ts.head?.map (·.pos.line)).getD 0))).eraseDups.length != (ts.filterMap (nmF sc ((ts.head?.map (·.pos.line)).getD 0))).length then some false
    else if vs.all (foldedForSure 8) then some false
    else if vs.all (constantsAlone 8) then none
    else some true
  else some false
/-- the stores of a comprehension's value are not swapped -/
def swNo (sc : Scope) (x : Str) (p : Pos) : Expr → Bool
  | .ListComp _ _ s cp => !(sc.names.lookup x == some .local && p.line == cp.line && !(s.names.any fun y => y.1 == x && (y.2 == .local || y.2 == .cell)))
  | _ => false
def isComp : E → Bool
  | .comp .. => true
  | .compIf .. => true
  | _ => false
def nms : Tg → List Nat
  | .cons (.nm i) u => i :: nms u
  | _ => []
mutual
def chkS (sc : Scope) : S → Stmt → Bool
  | .asg (.nm i) a, .Assign [.Name x p] v q => decide (N[i]? = some x) && locO sc x && (ck G N a).e sc v && (notLc v || swNo sc x p v || (isComp a && match v with
      | .ListComp _ _ s cp => plO sc x && (p.line == cp.line) && !(s.names.any fun y => y.1 == x && (y.2 == .local || y.2 == .cell))
      | _ => false))
  | .asg (.tp t) a, .Assign [.Tuple es _ _] v _ => chkTs N sc t es && (ck G N a).e sc v && notTup v
  | .par t es, .Assign [.Tuple ts _ _] (.Tuple vs _ _) _ => chkTs N sc t ts && cks G N es sc vs && (match swapO sc ts vs with
      | some true => true
      | some false => true
      | none => false)
  | .set i ix a, .Assign [.Subscript (.Name x _) s _] v _ => nmO N sc i x && (ck G N ix).e sc s && notSl s && (ck G N a).e sc v
  | .aug i op a, .AugAssign (.Name x _) o v _ => decide (opB op = o) && decide (N[i]? = some x) && locO sc x && (ck G N a).e sc v && (match op with | .add => true | .sub => true | _ => false)
  | .augS i ix op a, .AugAssign (.Subscript (.Name x _) s _) o v _ => decide (opB op = o) && nmO N sc i x && (ck G N ix).e sc s && notSl s && (ck G N a).e sc v && (match op with | .add => true | .sub => true | _ => false)
  | .app i a, .Expr (.Call (.Attribute (.Name y _) m ap) [x] [] cp) _ => decide (m = ("append" : Str)) && nmO N sc i y && (ap.endLine == cp.line) && (ck G N a).e sc x && notStar x
  | .ext i a, .Expr (.Call (.Attribute (.Name y _) m ap) [x] [] cp) _ => decide (m = ("extend" : Str)) && nmO N sc i y && (ap.endLine == cp.line) && (ck G N a).e sc x && notStar x
  | .ex a, .Expr v _ => (ck G N a).e sc v && notLc v
  | .ite c t f, .If x a b _ => (ck G N c).t sc x && chkB sc t a && chkB sc f b
  | .whl c b, .While x a [] _ => (ck G N c).t sc x && chkB sc b a
  | .for t it b, .For tg iter a [] _ => chkTg N sc t tg && (ck G N it).i sc tg iter && notSet iter && chkB sc b a
  | .ret a, .Return (some v) _ => (ck G N a).e sc v
  | .retN, .Return none _ => true
  | .brk, .Break _ => true
  | .cont, .Continue _ => true
  | .pass, .Pass _ => true
  | .never, _ => true
  | _, _ => false
def chkB (sc : Scope) : Ss → List Stmt → Bool
  | .nil, [] => true
  | .cons s ss, x :: xs => chkS sc s x && chkB sc ss xs
  | _, _ => false
end
end
/-- a def's scope: parameters, names -/
def scO (N ps : List Str) (sc : Scope) : Bool :=
  decide (sc.kind = .function) && !sc.isCoroutine && !sc.isGenerator && decide N.Nodup && decide (N.take ps.length = ps) && ps.all (locO sc) && sc.names.all fun y => match y.2 with
    | .free => false
    | _ => true
end De
end

section
set_option maxHeartbeats 4000000
namespace De
open PySem PySem.Spec PyProof.Rows L2

/-! ### what a def promises, by the evaluator -/
def pnOf (vs : List V) (svs : List Sv) : Nat → Option V := fun i => match svs[i]? with
  | some (.ow true _) => vs[i]?
  | _ => none
def spD (K : PySem.W.Frag) (G : Pg) (k f : Nat) : Sp := fun vs H Q _ => ∃ F io svs r ec, Ok K ⟨H, F, io, pnOf vs svs⟩ (vs.map some) svs F H ∧ run G.M G.P k f svs = some (r, ec) ∧ (∀ (i : Nat) (r : Sv), svs[i]? = some r → r ≠ Sv.un) ∧
  ∀ v F' H' σ', Ok K ⟨H, F, io, pnOf vs svs⟩ σ' ec F' H' → RvOk K H σ' ec F' H' v r → Q v H'
/-- the names of built-ins that are used -/
def bltNames : List Str := ["len", "abs", "int", "max", "min", "sum", "any", "all", "tuple", "list", "sorted", "range", "enumerate", "zip", "reversed", "isinstance", "bool", "str", "set"]
/-- what is known where a term is walked -/
structure Cy (G : Pg) (k : Nat) (N : List Str) (X : Cx) (sc : Scope) : Prop where
  calm : X.calm = true
  nn : X.N = N
  nd : N.Nodup
  sc : X.env.scope = sc
  free : ∀ x ∈ bltNames, X.mg x = none
  gl : ∀ q ∈ G.gl, ∃ t, X.mg q.1 = some (.int q.2 t)
  fn : ∀ f d, G.P[f]? = some d → ∃ x fa fd ps, G.nm[f]? = some x ∧ X.mg x = some (.ref fa) ∧ PySem.W.keepIn X.K (.ref fa) = true ∧ Binds X.K fd ps [] ∧ FnOk X.prog X.w X.K X.mg X.base CX0 k fa fd ps (spD X.K G k f)
  room : Room k X.A
/-! ### readings by the evaluator -/
inductive RvA (K : PySem.W.Frag) (F : Hp) (σ : L2.St) : List V → List Rv → Prop
  | nil : RvA K F σ [] []
  | d {v : V} {x : PyData} {vs : List V} {rs : List Rv} : Rp K F v x → RvA K F σ vs rs → RvA K F σ (v :: vs) (.d x :: rs)
  | loc {v : V} {i : Nat} {vs : List V} {rs : List Rv} : σ[i]? = some (some v) → RvA K F σ vs rs → RvA K F σ (v :: vs) (.loc i :: rs)
structure JOk (K : PySem.W.Frag) (F : Hp) (J : It) (ds : List PyData) : Prop where
  go : ∀ i H, i < ds.length → Sub F H → J.go i H
  stop : ∀ H, Sub F H → J.stop ds.length H
  yld : ∀ i Fc H x H', i < ds.length → Sub F Fc → Sub Fc H → J.yld i H x H' → ∃ d F', ds[i]? = some d ∧ Gr Fc H F' H' ∧ Rp K F' x d
section
variable (K : PySem.W.Frag)
def wV (f : FV) : TE := fun σ H Q => ∃ Y e F r e', Ok K Y σ e F H ∧ f e = some (r, e') ∧ ∀ v F' H', Ok K Y σ e' F' H' → Step σ e F H e' F' H' → RvOk K H σ e' F' H' v r → Q v H'
def wT (f : FT) : TT := fun σ H Q => ∃ Y e F r e', Ok K Y σ e F H ∧ f e = some (r, e') ∧ ∀ F' H', Ok K Y σ e' F' H' → Step σ e F H e' F' H' → Q r H'
def wA (f : FA) : TA := fun σ H Q => ∃ Y e F rs e', Ok K Y σ e F H ∧ f e = some (rs, e') ∧ ∀ vs F' H', Ok K Y σ e' F' H' → Step σ e F H e' F' H' → RvA K F' σ vs rs → Q vs H'
def wD (f : FI) : TA := fun σ H Q => ∃ Y e F ds e', Ok K Y σ e F H ∧ f e = some (ds, e') ∧ ∀ vs F' H', Ok K Y σ e' F' H' → Step σ e F H e' F' H' → RpA K F' vs ds → Q vs H'
def wI (f : FI) : TI := fun σ H R => ∃ Y e F ds e', Ok K Y σ e F H ∧ f e = some (ds, e') ∧ ∀ J F' H', Ok K Y σ e' F' H' → Step σ e F H e' F' H' → JOk K F' J ds → R J H'
end
section
variable {X : Cx}
theorem _root_.L2.PE.imp {e : Expr} {t u : TE} (h : PE X e t) (g : ∀ σ H Q, u σ H Q → t σ H Q) : PE X e u := ⟨fun pins s σ H Q I q => h.run pins s σ H Q I (g σ H Q q)⟩
theorem _root_.L2.PT.imp {e : Expr} {t u : TT} (h : PT X e t) (g : ∀ σ H Q, u σ H Q → t σ H Q) : PT X e u := ⟨fun pins s σ H Q I q => h.run pins s σ H Q I (g σ H Q q)⟩
theorem _root_.L2.PA.imp {e : List Expr} {t u : TA} (h : PA X e t) (g : ∀ σ H Q, u σ H Q → t σ H Q) : PA X e u := ⟨fun pos pins s σ H Q I q => h.run pos pins s σ H Q I (g σ H Q q)⟩
theorem _root_.L2.PI.imp {tg e : Expr} {t u : TI} (h : PI X tg e t) (g : ∀ σ H Q, u σ H Q → t σ H Q) : PI X tg e u := ⟨fun pins s σ H Q I q => h.run pins s σ H Q I (g σ H Q q)⟩
theorem _root_.L2.PG.imp {e : Expr} {t u : TG} (h : PG X e t) (g : ∀ v σ H Q, u v σ H Q → t v σ H Q) : PG X e u := ⟨fun pins s σ H v w Q I r q => h.run pins s σ H v w Q I r (g v σ H Q q)⟩
theorem _root_.L2.PS.imp {e : Stmt} {t u : TS} (h : PS X e t) (g : ∀ D σ H, u D σ H → t D σ H) : PS X e u := ⟨fun pins s σ H D I q => h.run pins s σ H D I (g D σ H q)⟩
theorem _root_.L2.PSs.imp {e : List Stmt} {t u : TS} (h : PSs X e t) (g : ∀ D σ H, u D σ H → t D σ H) : PSs X e u := ⟨fun pins s σ H D I q => h.run pins s σ H D I (g D σ H q)⟩
end
/-! ### small facts for the readings -/
section
variable {K : PySem.W.Frag} {Y : Fx} {σ : L2.St} {e e' e1 e2 : En} {F F' F1 F2 H H' H1 H2 Hs : Hp} {v : V} {r : Rv} {d : PyData} {Q : VK}
/-- a new list that no slot holds -/
theorem Ok.alloc (k : Ok K Y σ e F H) {p : Addr} {o : HO} (hp : H p = none) : Ok K Y σ e F (upd H p o) :=
  ⟨k.len, k.sub.trans (sub_upd hp), k.fz, fun i b xs h => by
    obtain ⟨q, vs, h1, h2, h3⟩ := k.ow i b xs h
    exact ⟨q, vs, h1, sub_upd hp _ _ h2, h3⟩, k.inj, k.grow0, k.new0, fun a o h n => sub_upd hp _ _ (k.keep0 a o h n), fun a h q => by
      have z := k.stay0 a h
      by_cases w : a = p
      · subst w
        exact z hp
      · rw [upd_ne w] at q
        exact z q, k.pin⟩
theorem Step.alloc (s : Step σ e F H e' F' H') {p : Addr} {o : HO} (hp : H' p = none) : Step σ e F H e' F' (upd H' p o) :=
  ⟨s.len, s.grow, fun a o h n => sub_upd hp _ _ (s.keep a o h n), s.new, s.own, fun a h q => by
    have z := s.stay a h
    by_cases w : a = p
    · subst w
      exact z hp
    · rw [upd_ne w] at q
      exact z q⟩
theorem Step.back (s : Step σ e F H e' F' H') {p : Addr} (hp : H' p = none) : H p = none := Classical.byContradiction fun q => s.stay p q hp
theorem Ok.noOwn (k : Ok K Y σ e F H) {p : Addr} (hp : H p = none) : ∀ i, ¬ OwnAt σ e i p := fun i ⟨⟨b, xs, h⟩, h2⟩ => by
  obtain ⟨q, vs, h1, h3, _⟩ := k.ow i b xs h
  rw [h2] at h1
  cases h1
  rw [hp] at h3
  cases h3
theorem res_of (k : Ok K Y σ e2 F2 H2) (s : Step σ e F H e2 F2 H2) (hl : ∀ i, r ≠ .loc i) (q : ∀ v F' H', Ok K Y σ e2 F' H' → Step σ e F H e2 F' H' → RvOk K H σ e2 F' H' v r → Q v H') : Res K F2 H2 Q r := by
  cases r with
  | d d => exact fun v F' H' g h => q v F' H' (k.gr g) (s.trans g.step) h
  | own xs => exact fun p vs hp h => q _ F2 _ (k.alloc hp) (s.alloc hp) ⟨p, vs, rfl, upd_same, sub_none k.sub hp, s.back hp, k.noOwn hp, h⟩
  | loc i => exact absurd rfl (hl i)
theorem bop_loc {op : Bop} {p q : PyData} {i : Nat} : bop op p q ≠ some (.loc i) := fun h => by
  cases op <;> cases p <;> cases q <;> first | (cases h; done) | (obtain ⟨_, z⟩ := iteS h; cases z)
end
section
variable {G : Pg} {k : Nat} {N : List Str} {X : Cx} {sc : Scope}
theorem Cy.gl' (C : Cy G k N X sc) {x : Str} (h : glO sc x = true) : Gl X x ∧ (x == ("__debug__" : Str)) = false := by
  unfold glO at h
  cases q : sc.names.lookup x with
  | none => rw [q] at h; cases h
  | some n =>
    rw [q] at h
    cases n with
    | globalImplicit =>
      have h : (!(x == ("__debug__" : Str))) = true := h
      refine ⟨?_, by simpa using h⟩
      unfold Gl Env.kindOf
      rw [C.sc]
      exact q
    | _ => cases h
theorem Cy.vis (C : Cy G k N X sc) {x : Str} (h : visO sc x = true) : Vis X.env.scope x := by
  unfold visO at h
  rw [C.sc]
  cases q : sc.names.lookup x with
  | none => rw [q] at h; cases h
  | some n =>
    rw [q] at h
    cases n with
    | «local» => exact .inl q
    | cell => exact .inr (.inl q)
    | free => exact .inr (.inr q)
    | _ => cases h
theorem Cy.loc (C : Cy G k N X sc) {x : Str} (h : locO sc x = true) : Loc X.env.scope x := by
  unfold locO at h
  rw [C.sc]
  cases q : sc.names.lookup x with
  | none => rw [q] at h; cases h
  | some n =>
    rw [q] at h
    cases n with
    | «local» => exact .inl q
    | cell => exact .inr q
    | _ => cases h
theorem Cy.pv (C : Cy G k N X sc) {i : Nat} {x : Str} {pos : Pos} (h : nmO N sc i x = true) : PE X (.Name x pos) (tVar i) := by
  unfold nmO at h
  rw [Bool.and_eq_true, Bool.and_eq_true, Bool.and_eq_true] at h
  obtain ⟨⟨⟨h1, h2⟩, h3⟩, h4⟩ := h
  refine pe_var (by rw [C.nn]; exact of_decide_eq_true h1) (C.vis h2) (by simpa using h3) (by simpa using h4)
theorem Cy.hu (C : Cy G k N X sc) : X.A.units + 65 < cLine := by
  have := C.room.un
  omega
end
theorem starPlain {x : Expr} {xs : List Expr} {env : Env} (h : notStar x = true) : starEach (x :: xs) env = (false, eval x env) :: starEach xs env := by
  cases x <;> first | rfl | cases h
theorem notStar_nil {env : Env} : starEach [] env = [] := rfl
theorem and2 {a b : Bool} (h : (a && b) = true) : a = true ∧ b = true := Bool.and_eq_true_iff.mp h
theorem setPlain {x : Expr} {env : Env} (h : notSet x = true) : ∀ v, foldedSetIterable x env v = pure v := fun v => by
  cases x <;> first | rfl | cases h
theorem truePlain {x : Expr} {env : Env} (h : plainT x = true) : ∀ whole, isTrue x env whole = (do let v ← whole; standAt x.pos; holding [v] (truthy v)) := fun whole => by
  cases x <;> first | rfl | cases h
theorem slPlain {x : Expr} (h : notSl x = true) : PlainIx x := fun o i => by
  cases x <;> first | rfl | cases h
theorem markPlain {x : Expr} {op : CmpOp} (h : notSet x = true) : behindInMarks op x = false := by
  cases x <;> first | rfl | cases h
theorem basePlain {x : Expr} {m : Str} {env : Env} {w : Sem Value} (h : notCall0 x = true) : attributeBase x m env w = w := by
  cases x with
  | Call f as ks p =>
    cases as with
    | nil => cases h
    | cons a as => cases f <;> rfl
  | _ => rfl
end De
end

section
set_option maxHeartbeats 4000000
namespace De
open PySem
section
variable {a b c : FV} {fc ft ff : FT} {fi fi2 : FI} {e e' : En} {r : Rv}
theorem inv_tOf {k : Bool} (h : tOf a e = some (k, e')) : ∃ x d, a e = some (x, e') ∧ deref e' x = some d ∧ truth d = some k := by
  unfold tOf at h
  repeat' split at h
  all_goals first | (cases h; done) | (cases h; exact ⟨_, _, by assumption, by assumption, by assumption⟩)
theorem inv_iOf {ds : List Dt} (h : iOf a e = some (ds, e')) : ∃ x e1, a e = some (x, e1) ∧ (frz x e1 = some (.list ds, e') ∨ frz x e1 = some (.tuple ds, e')) := by
  unfold iOf at h
  repeat' split at h
  all_goals first | (cases h; done) | (cases h; exact ⟨_, _, by assumption, .inl (by assumption)⟩) | (cases h; exact ⟨_, _, by assumption, .inr (by assumption)⟩)
theorem inv_bin {op : Bop} (h : vBin op a b e = some (r, e')) : ∃ x e1 y p q, a e = some (x, e1) ∧ b e1 = some (y, e') ∧ deref e' x = some p ∧ deref e' y = some q ∧ bop op p q = some r := by
  unfold vBin at h
  repeat' split at h
  all_goals first | (cases h; done) | (cases h; exact ⟨_, _, _, _, _, by assumption, by assumption, by assumption, by assumption, by assumption⟩)
theorem inv_cmp {op : Cop} (h : vCmp op a b e = some (r, e')) : ∃ x e1 y p q k, r = .d (.bool k) ∧ a e = some (x, e1) ∧ b e1 = some (y, e') ∧ deref e' x = some p ∧ deref e' y = some q ∧ cop op p q = some k := by
  unfold vCmp at h
  repeat' split at h
  all_goals first | (cases h; done) | (cases h; exact ⟨_, _, _, _, _, _, rfl, by assumption, by assumption, by assumption, by assumption, by assumption⟩)
theorem inv_cmp2 {op op2 : Cop} (h : vCmp2 op op2 a b c e = some (r, e')) : ∃ x e1 y e2 p q k, a e = some (x, e1) ∧ b e1 = some (y, e2) ∧ deref e2 x = some p ∧ deref e2 y = some q ∧ cop op p q = some k ∧
    ((k = false ∧ e2 = e' ∧ r = .d (.bool false)) ∨ (k = true ∧ ∃ z p' q' k', r = .d (.bool k') ∧ c e2 = some (z, e') ∧ deref e' y = some p' ∧ deref e' z = some q' ∧ cop op2 p' q' = some k')) := by
  unfold vCmp2 at h
  repeat' split at h
  all_goals first | (cases h; done) | (cases h; exact ⟨_, _, _, _, _, _, _, by assumption, by assumption, by assumption, by assumption, by assumption, .inr ⟨rfl, _, _, _, _, rfl, by assumption, by assumption, by assumption, by assumption⟩⟩) | (cases h; exact ⟨_, _, _, _, _, _, _, by assumption, by assumption, by assumption, by assumption, by assumption, .inl ⟨rfl, rfl, rfl⟩⟩)
theorem inv_neg (h : vNeg a e = some (r, e')) : ∃ i, r = .d (.int (-i)) ∧ a e = some (.d (.int i), e') := by
  unfold vNeg at h
  repeat' split at h
  all_goals first | (cases h; done) | (cases h; exact ⟨_, rfl, by assumption⟩)
theorem inv_bits (h : vBits a e = some (r, e')) : ∃ i, r = .d (.int (Builtin.Int.intBits i : Nat)) ∧ a e = some (.d (.int i), e') := by
  unfold vBits at h
  repeat' split at h
  all_goals first | (cases h; done) | (cases h; exact ⟨_, rfl, by assumption⟩)
theorem inv_and (h : vAnd a b e = some (r, e')) : ∃ e1 k, a e = some (.d (.bool k), e1) ∧ ((k = true ∧ b e1 = some (r, e')) ∨ (k = false ∧ e1 = e' ∧ r = .d (.bool false))) := by
  unfold vAnd at h
  repeat' split at h
  · exact ⟨_, _, by assumption, .inl ⟨rfl, h⟩⟩
  · cases h
    exact ⟨_, _, by assumption, .inr ⟨rfl, rfl, rfl⟩⟩
  · cases h
theorem inv_or (h : vOr a b e = some (r, e')) : ∃ e1 k, a e = some (.d (.bool k), e1) ∧ ((k = false ∧ b e1 = some (r, e')) ∨ (k = true ∧ e1 = e' ∧ r = .d (.bool true))) := by
  unfold vOr at h
  repeat' split at h
  · cases h
    exact ⟨_, _, by assumption, .inr ⟨rfl, rfl, rfl⟩⟩
  · exact ⟨_, _, by assumption, .inl ⟨rfl, h⟩⟩
  · cases h
theorem inv_not (h : vNot a e = some (r, e')) : ∃ k, r = .d (.bool (!k)) ∧ a e = some (.d (.bool k), e') := by
  unfold vNot at h
  repeat' split at h
  all_goals first | (cases h; done) | (cases h; exact ⟨_, rfl, by assumption⟩)
theorem inv_ite (h : vIte fc a b e = some (r, e')) : ∃ e1 k, fc e = some (k, e1) ∧ ((k = true ∧ a e1 = some (r, e')) ∨ (k = false ∧ b e1 = some (r, e'))) := by
  unfold vIte at h
  repeat' split at h
  · exact ⟨_, _, by assumption, .inl ⟨rfl, h⟩⟩
  · exact ⟨_, _, by assumption, .inr ⟨rfl, h⟩⟩
  · cases h
theorem inv_tup (h : vTup fi e = some (r, e')) : ∃ ds, r = .d (.tuple ds) ∧ fi e = some (ds, e') ∧ small ds = true := by
  unfold vTup at h
  repeat' split at h
  all_goals first | (cases h; done) | (cases h; exact ⟨_, rfl, by assumption, by assumption⟩)
theorem inv_lst (h : vLst fi e = some (r, e')) : ∃ ds, r = .own ds ∧ fi e = some (ds, e') ∧ small ds = true := by
  unfold vLst at h
  repeat' split at h
  all_goals first | (cases h; done) | (cases h; exact ⟨_, rfl, by assumption, by assumption⟩)
theorem inv_ix (h : vIx a b e = some (r, e')) : ∃ x e1 k xs d, r = .d d ∧ a e = some (x, e1) ∧ b e1 = some (.d (.int k), e') ∧ (deref e' x = some (.list xs) ∨ deref e' x = some (.tuple xs)) ∧ ixD xs k = some d := by
  unfold vIx at h
  repeat' split at h
  all_goals first | (cases h; done) | (cases h; exact ⟨_, _, _, _, _, rfl, by assumption, by assumption, .inl (by assumption), by assumption⟩) | (cases h; exact ⟨_, _, _, _, _, rfl, by assumption, by assumption, .inr (by assumption), by assumption⟩)
theorem inv_slF (h : vSlF a b e = some (r, e')) : ∃ x e1 k d, a e = some (x, e1) ∧ b e1 = some (.d (.int k), e') ∧ deref e' x = some d ∧ slice d (some k) none = some r := by
  unfold vSlF at h
  repeat' split at h
  all_goals first | (cases h; done) | (cases h; exact ⟨_, _, _, _, by assumption, by assumption, by assumption, by assumption⟩)
theorem inv_slT (h : vSlT a b e = some (r, e')) : ∃ x e1 k d, a e = some (x, e1) ∧ b e1 = some (.d (.int k), e') ∧ deref e' x = some d ∧ slice d none (some k) = some r := by
  unfold vSlT at h
  repeat' split at h
  all_goals first | (cases h; done) | (cases h; exact ⟨_, _, _, _, by assumption, by assumption, by assumption, by assumption⟩)
theorem inv_sl (h : vSl a b c e = some (r, e')) : ∃ x e1 k e2 l d, a e = some (x, e1) ∧ b e1 = some (.d (.int k), e2) ∧ c e2 = some (.d (.int l), e') ∧ deref e' x = some d ∧ slice d (some k) (some l) = some r := by
  unfold vSl at h
  repeat' split at h
  all_goals first | (cases h; done) | (cases h; exact ⟨_, _, _, _, _, _, by assumption, by assumption, by assumption, by assumption, by assumption⟩)
theorem inv_rev (h : vRev a e = some (r, e')) : ∃ x xs, a e = some (x, e') ∧ deref e' x = some (.list xs) ∧ r = .own xs.reverse := by
  unfold vRev at h
  repeat' split at h
  all_goals first | (cases h; done) | (cases h; exact ⟨_, _, by assumption, by assumption, rfl⟩)
theorem inv_call {c : List Sv → Option (Rv × En)} {fa : FA} (h : vCall c fa e = some (r, e')) : ∃ rs e1 svs ec, fa e = some (rs, e1) ∧ argsOf e1 rs = some svs ∧ (locs rs).Nodup ∧ c svs = some (r, ec) ∧ backs e1 rs ec = some e' := by
  unfold vCall at h
  repeat' split at h
  all_goals first | (cases h; done) | (cases h; exact ⟨_, _, _, _, by assumption, by assumption, of_decide_eq_true (by assumption), by assumption, by assumption⟩)
theorem inv_blt {bl : Blt} (h : vBlt bl a e = some (r, e')) : ∃ x d, a e = some (x, e') ∧ deref e' x = some d ∧ blt bl [d] = some r := by
  unfold vBlt at h
  repeat' split at h
  all_goals first | (cases h; done) | (cases h; exact ⟨_, _, by assumption, by assumption, by assumption⟩)
theorem inv_blt2 {bl : Blt} (h : vBlt2 bl a b e = some (r, e')) : ∃ x e1 y, a e = some (.d x, e1) ∧ b e1 = some (.d y, e') ∧ blt bl [x, y] = some r := by
  unfold vBlt2 at h
  repeat' split at h
  all_goals first | (cases h; done) | (cases h; exact ⟨_, _, _, by assumption, by assumption, by assumption⟩)
theorem inv_isi {t : Ist} (h : vIsi t a e = some (r, e')) : ∃ x d k, r = .d (.bool k) ∧ a e = some (x, e') ∧ deref e' x = some d ∧ isT t d = some k := by
  unfold vIsi at h
  repeat' split at h
  all_goals first | (cases h; done) | (cases h; exact ⟨_, _, _, rfl, by assumption, by assumption, by assumption⟩)
theorem inv_tupRev (h : vTupRev a e = some (r, e')) : ∃ x xs, a e = some (x, e') ∧ deref e' x = some (.list xs) ∧ r = .d (.tuple xs.reverse) := by
  unfold vTupRev at h
  repeat' split at h
  all_goals first | (cases h; done) | (cases h; exact ⟨_, _, by assumption, by assumption, rfl⟩)
theorem inv_pop {i : Nat} (h : vPop i e = some (r, e')) : ∃ b xs d, r = .d d ∧ e[i]? = some (Sv.ow b xs) ∧ xs[xs.length - 1]? = some d ∧ e' = e.set i (.ow b xs.dropLast) := by
  unfold vPop at h
  repeat' split at h
  all_goals first | (cases h; done) | (cases h; exact ⟨_, _, _, rfl, by assumption, by assumption, rfl⟩)
theorem inv_popAt {i : Nat} (h : vPopAt i a e = some (r, e')) : ∃ k e1 b xs j d, r = .d d ∧ a e = some (.d (.int k), e1) ∧ e1[i]? = some (Sv.ow b xs) ∧ L2.ixN xs.length k = some j ∧ xs[j]? = some d ∧ (rngOk k && isOw e i) = true ∧ e' = e1.set i (.ow b (xs.eraseIdx j)) := by
  unfold vPopAt at h
  repeat' split at h
  all_goals first | (cases h; done) | (cases h; exact ⟨_, _, _, _, _, _, rfl, by assumption, by assumption, by assumption, by assumption, by assumption, rfl⟩)
theorem inv_isOw {i : Nat} (h : isOw e i = true) : ∃ b xs, e[i]? = some (Sv.ow b xs) := by
  unfold isOw at h
  split at h
  · exact ⟨_, _, by assumption⟩
  · cases h
theorem inv_comp {own : List Nat} {t : Tg} (h : vComp a own t fi fc e = some (r, e')) : ∃ ds e1 ys e2, r = .own ys ∧ fi e = some (ds, e1) ∧ compL (turnC a own t fc) ds (wipeE e1 own) = some (ys, e2) ∧ small ys = true ∧ ownOk e1 own = true ∧ e' = back e1 e2 own := by
  unfold vComp at h
  repeat' split at h
  all_goals first | (cases h; done) | (cases h; rename_i hc; rw [Bool.and_eq_true] at hc; exact ⟨_, _, _, _, rfl, by assumption, by assumption, hc.1, hc.2, rfl⟩)
theorem inv_turn {own : List Nat} {t : Tg} {d : Dt} {ys : List Dt} (h : turnC a own t fc d e = some (ys, e')) : ∃ e1 k e2, tgt t d e = some e1 ∧ fc e1 = some (k, e2) ∧
    ((k = false ∧ ys = [] ∧ e' = wipeE e2 own) ∨ (k = true ∧ ∃ x e3 y e4, a e2 = some (x, e3) ∧ frz x e3 = some (y, e4) ∧ ys = [y] ∧ e' = wipeE e4 own)) := by
  unfold turnC at h
  repeat' split at h
  all_goals first | (cases h; done) | (cases h; exact ⟨_, _, _, by assumption, by assumption, .inr ⟨rfl, _, _, _, _, by assumption, by assumption, rfl, rfl⟩⟩) | (cases h; exact ⟨_, _, _, by assumption, by assumption, .inl ⟨rfl, rfl, rfl⟩⟩)
theorem inv_fz (h : vFz a e = some (r, e')) : ∃ x e1 d, r = .d d ∧ a e = some (x, e1) ∧ frz x e1 = some (d, e') := by
  unfold vFz at h
  repeat' split at h
  all_goals first | (cases h; done) | (cases h; exact ⟨_, _, _, rfl, by assumption, by assumption⟩)
theorem inv_tAnd {k : Bool} (h : tAnd ft ff e = some (k, e')) : ∃ e1 c, ft e = some (c, e1) ∧ ((c = true ∧ ff e1 = some (k, e')) ∨ (c = false ∧ e1 = e' ∧ k = false)) := by
  unfold tAnd at h
  repeat' split at h
  · exact ⟨_, _, by assumption, .inl ⟨rfl, h⟩⟩
  · cases h
    exact ⟨_, _, by assumption, .inr ⟨rfl, rfl, rfl⟩⟩
  · cases h
theorem inv_tOr {k : Bool} (h : tOr ft ff e = some (k, e')) : ∃ e1 c, ft e = some (c, e1) ∧ ((c = false ∧ ff e1 = some (k, e')) ∨ (c = true ∧ e1 = e' ∧ k = true)) := by
  unfold tOr at h
  repeat' split at h
  · cases h
    exact ⟨_, _, by assumption, .inr ⟨rfl, rfl, rfl⟩⟩
  · exact ⟨_, _, by assumption, .inl ⟨rfl, h⟩⟩
  · cases h
theorem inv_tNot {k : Bool} (h : tNot ft e = some (k, e')) : ∃ c, ft e = some (c, e') ∧ k = !c := by
  unfold tNot at h
  repeat' split at h
  all_goals first | (cases h; done) | (cases h; exact ⟨_, by assumption, rfl⟩)
theorem inv_rng1 {ds : List Dt} (h : iRng1 a e = some (ds, e')) : ∃ n, a e = some (.d (.int n), e') ∧ rngOk n = true ∧ ds = rngL 0 1 0 n.toNat := by
  unfold iRng1 at h
  repeat' split at h
  all_goals first | (cases h; done) | (cases h; exact ⟨_, by assumption, by assumption, rfl⟩)
theorem inv_rng2 {ds : List Dt} (h : iRng2 a b e = some (ds, e')) : ∃ m e1 n, a e = some (.d (.int m), e1) ∧ b e1 = some (.d (.int n), e') ∧ (rngOk m && rngOk n) = true ∧ ds = rngL m 1 0 (n - m).toNat := by
  unfold iRng2 at h
  repeat' split at h
  all_goals first | (cases h; done) | (cases h; exact ⟨_, _, _, by assumption, by assumption, by assumption, rfl⟩)
theorem inv_rng3 {ds : List Dt} (h : iRng3 a b c e = some (ds, e')) : ∃ m e1 n e2 k, a e = some (.d (.int m), e1) ∧ b e1 = some (.d (.int n), e2) ∧ c e2 = some (.d (.int k), e') ∧ rng3Ok m n k = true ∧ ds = rngL m k 0 (Builtin.Range.rangeSize m n k).toNat := by
  unfold iRng3 at h
  repeat' split at h
  all_goals first | (cases h; done) | (cases h; exact ⟨_, _, _, _, _, by assumption, by assumption, by assumption, by assumption, rfl⟩)
theorem inv_enum {ds : List Dt} (h : iEnum a e = some (ds, e')) : ∃ x e1 xs, a e = some (x, e1) ∧ ds = enumL 0 xs ∧ (frz x e1 = some (.list xs, e') ∨ frz x e1 = some (.tuple xs, e')) := by
  unfold iEnum at h
  repeat' split at h
  all_goals first | (cases h; done) | (cases h; exact ⟨_, _, _, by assumption, rfl, .inl (by assumption)⟩) | (cases h; exact ⟨_, _, _, by assumption, rfl, .inr (by assumption)⟩)
theorem inv_zip {ds : List Dt} (h : iZip a b e = some (ds, e')) : ∃ x e1 p e2 y e3 q xs ys, a e = some (x, e1) ∧ frz x e1 = some (p, e2) ∧ b e2 = some (y, e3) ∧ frz y e3 = some (q, e') ∧ ds = zipL xs ys ∧ ((p = .list xs ∧ q = .list ys) ∨ (p = .tuple xs ∧ q = .tuple ys)) := by
  unfold iZip at h
  repeat' split at h
  all_goals first | (cases h; done) | (cases h; exact ⟨_, _, _, _, _, _, _, _, _, by assumption, by assumption, by assumption, by assumption, rfl, .inl ⟨rfl, rfl⟩⟩) | (cases h; exact ⟨_, _, _, _, _, _, _, _, _, by assumption, by assumption, by assumption, by assumption, rfl, .inr ⟨rfl, rfl⟩⟩)
theorem inv_revd {ds : List Dt} (h : iRevd a e = some (ds, e')) : ∃ x e1 xs, a e = some (x, e1) ∧ ds = xs.reverse ∧ (frz x e1 = some (.list xs, e') ∨ frz x e1 = some (.tuple xs, e')) := by
  unfold iRevd at h
  repeat' split at h
  all_goals first | (cases h; done) | (cases h; exact ⟨_, _, _, by assumption, rfl, .inl (by assumption)⟩) | (cases h; exact ⟨_, _, _, by assumption, rfl, .inr (by assumption)⟩)
theorem inv_aCons {fa : FA} {rs : List Rv} (h : aCons a fa e = some (rs, e')) : ∃ x e1 rs', a e = some (x, e1) ∧ fa e1 = some (rs', e') ∧ ((∃ i, x = .loc i ∧ rs = .loc i :: rs') ∨ (∃ d, x = .d d ∧ rs = .d d :: rs') ∨ ∃ xs, x = .own xs ∧ rs = .d (.list xs) :: rs') := by
  unfold aCons at h
  repeat' split at h
  all_goals first | (cases h; done) | (cases h; exact ⟨_, _, _, by assumption, by assumption, .inl ⟨_, rfl, rfl⟩⟩) | (cases h; exact ⟨_, _, _, by assumption, by assumption, .inr (.inl ⟨_, rfl, rfl⟩)⟩) | (cases h; exact ⟨_, _, _, by assumption, by assumption, .inr (.inr ⟨_, rfl, rfl⟩)⟩)
theorem inv_dCons {ds : List Dt} (h : dCons a fi e = some (ds, e')) : ∃ x e1 d e2 ds', a e = some (x, e1) ∧ frz x e1 = some (d, e2) ∧ fi e2 = some (ds', e') ∧ ds = d :: ds' := by
  unfold dCons at h
  repeat' split at h
  all_goals first | (cases h; done) | (cases h; exact ⟨_, _, _, _, _, by assumption, by assumption, by assumption, rfl⟩)
end
end De
end

section
set_option maxHeartbeats 4000000
namespace De
open PySem PySem.Spec PyProof.Rows L2

section
variable {X : Cx} {l x y z m : Expr} {a b c : FV} {fc ft ff : FT} {fi fi2 : FI} {fa : FA} {pos p p2 : Pos}
/-! ### a test by a value; walked by a value -/
theorem r_test (h : PE X x (wV X.K a)) (hp : plainT x = true) : PT X x (wT X.K (tOf a)) := by
  refine (pt_truth h (truePlain hp)).imp fun σ H Q ⟨Y, e, F, k, e', ok, ev, q⟩ => ?_
  obtain ⟨r, d, e1, e3, e4⟩ := inv_tOf ev
  refine ⟨Y, e, F, r, e', ok, e1, fun v F' H' ok' st rv => ?_⟩
  have vw := rv.view ok' e3
  have qb := q F' H' ok' st
  cases d with
  | none =>
    cases e4
    rcases vw with vw | ⟨_, _, _, _, z, _⟩
    · cases vw
      exact ⟨false, rfl, qb⟩
    · cases z
  | bool c' =>
    cases e4
    have ev := vw.bool
    subst ev
    exact ⟨_, rfl, qb⟩
  | int i =>
    cases e4
    have ev := vw.int
    subst ev
    exact ⟨_, rfl, qb⟩
  | str x => cases e4
  | list xs =>
    cases e4
    obtain ⟨p, vs, rfl, hp, ra⟩ := vw.list ok'.sub
    have hl : (!xs.isEmpty) = !vs.isEmpty := by
      cases ra <;> rfl
    rw [hl] at qb
    exact ⟨_, .inl ⟨vs, SqL.of hp, rfl⟩, qb⟩
  | tuple xs =>
    cases e4
    obtain ⟨p, vs, rfl, hp, _, ra⟩ := vw.tup ok'.sub
    have hl : (!xs.isEmpty) = !vs.isEmpty := by
      cases ra <;> rfl
    rw [hl] at qb
    exact ⟨_, .inr (.inl ⟨vs, hp, rfl⟩), qb⟩
  | dict _ => cases e4
theorem jok_list {K : PySem.W.Frag} {F : Hp} {p : Addr} {vs : List V} {ds : List PyData} (hp : F p = some (.lst vs)) (ra : RpA K F vs ds) : JOk K F (Itl K p) ds where
  go := fun i H hi sb => by
    obtain ⟨v, hv⟩ : ∃ v, vs[i]? = some v := ⟨_, List.getElem?_eq_getElem (by rw [ra.length]; exact hi)⟩
    exact ⟨vs, v, SqL.of (sb _ _ hp), hv⟩
  stop := fun H sb => ⟨vs, SqL.of (sb _ _ hp), Nat.le_of_eq ra.length⟩
  yld := fun i Fc H x H' hi s1 s2 y => by
    obtain ⟨e, y⟩ := y
    subst e
    obtain ⟨d, h1, h2⟩ := ra.getV (y _ (SqL.of (s2 _ _ (s1 _ _ hp))))
    exact ⟨d, Fc, h1, Gr.refl s2, h2.mono s1⟩
theorem jok_tup {K : PySem.W.Frag} {F : Hp} {p : Addr} {vs : List V} {ds : List PyData} (hp : SqT K F p vs) (ra : RpA K F vs ds) : JOk K F (Itt K p) ds where
  go := fun i H hi sb => by
    obtain ⟨v, hv⟩ : ∃ v, vs[i]? = some v := ⟨_, List.getElem?_eq_getElem (by rw [ra.length]; exact hi)⟩
    exact ⟨vs, v, sb.sqT hp, hv⟩
  stop := fun H sb => ⟨vs, sb.sqT hp, Nat.le_of_eq ra.length⟩
  yld := fun i Fc H x H' hi s1 s2 y => by
    obtain ⟨e, y⟩ := y
    subst e
    obtain ⟨d, h1, h2⟩ := ra.getV (y _ (s2.sqT (s1.sqT hp)))
    exact ⟨d, Fc, h1, Gr.refl s2, h2.mono s1⟩
/-- a value, frozen -/
theorem frzd {K : PySem.W.Frag} {Y : Fx} {σ : L2.St} {e e1 e2 : En} {F H F1 H1 : Hp} {v : V} {r : Rv} {d : PyData} (ok : Ok K Y σ e F H) (ok1 : Ok K Y σ e1 F1 H1) (st : Step σ e F H e1 F1 H1) (rv : RvOk K H σ e1 F1 H1 v r) (h : frz r e1 = some (d, e2)) :
    ∃ F2, Ok K Y σ e2 F2 H1 ∧ Step σ e F H e2 F2 H1 ∧ Rp K F2 v d := frz_ok ok1 st ok.stay0 rv h
theorem r_iter {tg : Expr} (h : PE X x (wV X.K a)) : PI X tg x (wI X.K (iOf a)) := by
  refine ((pi_list h).or (pi_tup h)).imp fun σ H R ⟨Y, e, F, ds, e', ok, ev, q⟩ => ?_
  obtain ⟨r, e2, e1, e3 | e3⟩ := inv_iOf ev
  · refine .inl ⟨Y, e, F, r, e2, ok, e1, fun v F' H' ok' st rv => ?_⟩
    obtain ⟨F2, ok2, st2, rp⟩ := frzd ok ok' st rv e3
    cases rp with
    | lst hp ra => exact ⟨_, rfl, ⟨_, SqL.of (ok2.sub _ _ hp)⟩, q _ F2 _ ok2 st2 (jok_list hp ra)⟩
  · refine .inr ⟨Y, e, F, r, e2, ok, e1, fun v F' H' ok' st rv => ?_⟩
    obtain ⟨F2, ok2, st2, rp⟩ := frzd ok ok' st rv e3
    cases rp with
    | tup hp ra => exact ⟨_, rfl, ⟨_, ok2.sub.sqT hp⟩, q _ F2 _ ok2 st2 (jok_tup hp ra)⟩

/-! ### constants, names, operators -/
theorem r_cst {v : V} {d : PyData} (hr : ∀ F, Rp X.K F v d) {e : Expr} (h : PE X e (tC v)) : PE X e (wV X.K (vCst d)) :=
  h.imp fun σ H Q ⟨Y, e, F, r, e', ok, ev, q⟩ => by
    cases ev
    exact q v F H ok .refl (hr F)
theorem r_nm {i : Nat} (h : PE X x (tVar i)) : PE X x (wV X.K (vNm i)) := h.imp fun σ H Q ⟨Y, e, F, r, e', ok, ev, q⟩ => by
  unfold vNm at ev
  cases e1 : e[i]? with
  | none => rw [e1] at ev; cases ev
  | some s =>
    rw [e1] at ev
    cases s with
    | un => cases ev
    | fz d =>
      cases ev
      obtain ⟨v, h1, h2⟩ := ok.fz i d e1
      exact ⟨v, h1, q v F H ok .refl h2⟩
    | ow b xs =>
      cases ev
      obtain ⟨p, vs, h1, _⟩ := ok.ow i b xs e1
      exact ⟨_, h1, q _ F H ok .refl h1⟩
theorem r_bin {op : Bop} (ha : PE X x (wV X.K a)) (hb : PE X y (wV X.K b)) : PE X (.BinOp x (opB op) y pos) (wV X.K (vBin op a b)) := by
  refine (pe_op (ob op) ha hb).imp fun σ H Q ⟨Y, e, F, r, e', ok, ev, q⟩ => ?_
  obtain ⟨r1, e1, r2, p, p', h1, h2, d1, d2, hb⟩ := inv_bin ev
  exact ⟨Y, e, F, r1, e1, ok, h1, fun v F1 H1 ok1 st1 rv1 => ⟨Y, e1, F1, r2, e', ok1, h2, fun u F2 H2 ok2 st2 rv2 =>
    ⟨F2, p, p', r, ok2.sub, (rv1.step st2).view ok2 d1, rv2.view ok2 d2, hb, res_of ok2 (st1.trans st2) (fun i z => bop_loc (z ▸ hb)) q⟩⟩⟩
theorem r_neg (ha : PE X x (wV X.K a)) : PE X (.UnaryOp .USub x pos) (wV X.K (vNeg a)) := by
  refine (pe_un un_neg ha).imp fun σ H Q ⟨Y, e, F, r, e', ok, ev, q⟩ => ?_
  obtain ⟨i, rfl, h⟩ := inv_neg ev
  refine ⟨Y, e, F, _, _, ok, h, fun v F1 H1 ok1 st1 rv1 => ?_⟩
  cases rv1
  exact ⟨i, rfl, q _ F1 H1 ok1 st1 (.int _)⟩
theorem r_bits {ap : Pos} (ha : PE X x (wV X.K a)) (hb : notCall0 x = true) (hl : (ap.endLine == pos.line) = true) : PE X (.Call (.Attribute x "bit_length" ap) [] [] pos) (wV X.K (vBits a)) := by
  refine (pe_bits ha (basePlain hb) hl).imp fun σ H Q ⟨Y, e, F, r, e', ok, ev, q⟩ => ?_
  obtain ⟨i, rfl, h⟩ := inv_bits ev
  refine ⟨Y, e, F, _, _, ok, h, fun v F1 H1 ok1 st1 rv1 => ?_⟩
  cases rv1
  exact ⟨i, rfl, q _ F1 H1 ok1 st1 (.int _)⟩
/-- a comparison, as a reading of both -/
theorem cmp_reads {K : PySem.W.Frag} {op : Cop} {σ : L2.St} {H : Hp} {Q : VK} (h : wV K (vCmp op a b) σ H Q) : tOp (rC K op) (wV K a) (wV K b) σ H Q := by
  obtain ⟨Y, e, F, r, e', ok, ev, q⟩ := h
  obtain ⟨r1, e1, r2, p, p', k, rfl, h1, h2, d1, d2, hb⟩ := inv_cmp ev
  exact ⟨Y, e, F, r1, e1, ok, h1, fun v F1 H1 ok1 st1 rv1 => ⟨Y, e1, F1, r2, e', ok1, h2, fun u F2 H2 ok2 st2 rv2 =>
    ⟨F2, p, p', k, ok2.sub, (rv1.step st2).view ok2 d1, rv2.view ok2 d2, hb, q _ F2 H2 ok2 (st1.trans st2) (.bl k)⟩⟩⟩
theorem r_cmp {op : Cop} (hu : X.A.units + 65 < cLine) (ha : PE X x (wV X.K a)) (hb : PE X y (wV X.K b)) (hm : notSet y = true) : PE X (.Compare x [opC op] [y] pos) (wV X.K (vCmp op a b)) :=
  (pe_cmpR (oc hu op) ha hb (markPlain hm)).imp fun _ _ _ h => cmp_reads h
/-- a reading of a True or False, as a test -/
theorem test_reads {K : PySem.W.Frag} {f : FV} {t : TE} {σ : L2.St} {H : Hp} {Q : Bool → Hp → Prop} (hf : ∀ e r e', f e = some (r, e') → ∃ k, r = .d (.bool k)) (ht : ∀ σ H Q, wV K f σ H Q → t σ H Q) (h : wT K (tOf f) σ H Q) : tTest t σ H Q := by
  refine ht _ _ _ ?_
  obtain ⟨Y, e, F, k, e', ok, ev, q⟩ := h
  obtain ⟨r, d, e1, e2, e3⟩ := inv_tOf ev
  obtain ⟨k', rfl⟩ := hf e r e' e1
  cases e2
  cases e3
  refine ⟨Y, e, F, _, _, ok, e1, fun v F1 H1 ok1 st1 rv1 => ?_⟩
  cases rv1
  exact ⟨_, rfl, q F1 H1 ok1 st1⟩
theorem vCmp_bool {op : Cop} (e : En) (r : Rv) (e' : En) (h : vCmp op a b e = some (r, e')) : ∃ k, r = .d (.bool k) := by
  obtain ⟨r1, e1, r2, p, p', k, h, _⟩ := inv_cmp h
  exact ⟨k, h⟩
theorem r_cmpT {op : Cop} (hu : X.A.units + 65 < cLine) (ha : PE X x (wV X.K a)) (hb : PE X y (wV X.K b)) (hm : notSet y = true) : PT X (.Compare x [opC op] [y] pos) (wT X.K (tOf (vCmp op a b))) :=
  (pt_cmpR (oc hu op) ha hb (markPlain hm)).imp fun _ _ _ h => test_reads vCmp_bool (fun _ _ _ => cmp_reads) h
theorem cmp2_reads {K : PySem.W.Frag} {op op2 : Cop} {σ : L2.St} {H : Hp} {Q : VK} (h : wV K (vCmp2 op op2 a b c) σ H Q) : tChain (rC K op) (rC K op2) (wV K a) (wV K b) (wV K c) σ H Q := by
  obtain ⟨Y, e, F, r, e', ok, ev, q⟩ := h
  obtain ⟨r1, e1, r2, e2, p, p', k, h1, h2, d1, d2, hb, hk⟩ := inv_cmp2 ev
  refine ⟨Y, e, F, r1, e1, ok, h1, fun v F1 H1 ok1 st1 rv1 => ⟨Y, e1, F1, r2, e2, ok1, h2, fun u F2 H2 ok2 st2 rv2 =>
    ⟨F2, p, p', k, ok2.sub, (rv1.step st2).view ok2 d1, rv2.view ok2 d2, hb, k, rfl, ?_⟩⟩⟩
  rcases hk with ⟨rfl, rfl, rfl⟩ | ⟨rfl, r3, q1, q2, k2, rfl, h3, d3, d4, hc⟩
  · exact q _ F2 H2 ok2 (st1.trans st2) (.bl _)
  · exact ⟨Y, e2, F2, r3, e', ok2, h3, fun w F3 H3 ok3 st3 rv3 =>
      ⟨F3, q1, q2, k2, ok3.sub, (rv2.step st3).view ok3 d3, rv3.view ok3 d4, hc, q _ F3 H3 ok3 ((st1.trans st2).trans st3) (.bl _)⟩⟩
theorem vCmp2_bool {op op2 : Cop} (e : En) (r : Rv) (e' : En) (h : vCmp2 op op2 a b c e = some (r, e')) : ∃ k, r = .d (.bool k) := by
  obtain ⟨r1, e1, r2, e2, p, p', k, h1, h2, d1, d2, hb, hk⟩ := inv_cmp2 h
  rcases hk with ⟨_, _, h⟩ | ⟨_, _, _, _, k', h, _⟩
  · exact ⟨_, h⟩
  · exact ⟨_, h⟩
theorem r_cmp2 {op op2 : Cop} (hu : X.A.units + 65 < cLine) (ha : PE X x (wV X.K a)) (hb : PE X y (wV X.K b)) (hc : PE X z (wV X.K c)) (hm : notSet y = true) (hm2 : notSet z = true) : PE X (.Compare x [opC op, opC op2] [y, z] pos) (wV X.K (vCmp2 op op2 a b c)) :=
  (pe_chain (oc hu op) (oc hu op2) ha hb hc (markPlain hm2)).imp fun _ _ _ h => cmp2_reads h
theorem r_cmp2T {op op2 : Cop} (hu : X.A.units + 65 < cLine) (ha : PE X x (wV X.K a)) (hb : PE X y (wV X.K b)) (hc : PE X z (wV X.K c)) (hm : notSet y = true) (hm2 : notSet z = true) : PT X (.Compare x [opC op, opC op2] [y, z] pos) (wT X.K (tOf (vCmp2 op op2 a b c))) :=
  (pt_chain (oc hu op) (oc hu op2) ha hb hc (markPlain hm2)).imp fun _ _ _ h => test_reads vCmp2_bool (fun _ _ _ => cmp2_reads) h
/-! ### and, or, not -/
theorem r_and {r : List Expr} (ha : PE X x (wV X.K a)) (hb : PE X (.BoolOp .And (y :: r) pos) (wV X.K b)) : PE X (.BoolOp .And (x :: y :: r) pos) (wV X.K (vAnd a b)) := by
  refine (pe_and ha hb).imp fun σ H Q ⟨Y, e, F, r, e', ok, ev, q⟩ => ?_
  obtain ⟨e1, k, h1, hk⟩ := inv_and ev
  refine ⟨Y, e, F, _, e1, ok, h1, fun v F1 H1 ok1 st1 rv1 => ?_⟩
  cases rv1
  refine ⟨k, rfl, ?_⟩
  rcases hk with ⟨rfl, h2⟩ | ⟨rfl, rfl, rfl⟩
  · rw [if_pos rfl]
    exact ⟨Y, e1, F1, r, e', ok1, h2, fun u F2 H2 ok2 st2 rv2 => q u F2 H2 ok2 (st1.trans st2) (rv2.from st1.stay)⟩
  · rw [if_neg Bool.false_ne_true]
    exact q _ F1 H1 ok1 st1 (.bl _)
theorem r_or {r : List Expr} (ha : PE X x (wV X.K a)) (hb : PE X (.BoolOp .Or (y :: r) pos) (wV X.K b)) : PE X (.BoolOp .Or (x :: y :: r) pos) (wV X.K (vOr a b)) := by
  refine (pe_or ha hb).imp fun σ H Q ⟨Y, e, F, r, e', ok, ev, q⟩ => ?_
  obtain ⟨e1, k, h1, hk⟩ := inv_or ev
  refine ⟨Y, e, F, _, e1, ok, h1, fun v F1 H1 ok1 st1 rv1 => ?_⟩
  cases rv1
  refine ⟨k, rfl, ?_⟩
  rcases hk with ⟨rfl, h2⟩ | ⟨rfl, rfl, rfl⟩
  · rw [if_neg Bool.false_ne_true]
    exact ⟨Y, e1, F1, r, e', ok1, h2, fun u F2 H2 ok2 st2 rv2 => q u F2 H2 ok2 (st1.trans st2) (rv2.from st1.stay)⟩
  · rw [if_pos rfl]
    exact q _ F1 H1 ok1 st1 (.bl _)
theorem r_not (ha : PE X x (wV X.K a)) : PE X (.UnaryOp .Not x pos) (wV X.K (vNot a)) := by
  refine (pe_not ha).imp fun σ H Q ⟨Y, e, F, r, e', ok, ev, q⟩ => ?_
  obtain ⟨k, rfl, h⟩ := inv_not ev
  refine ⟨Y, e, F, _, _, ok, h, fun v F1 H1 ok1 st1 rv1 => ?_⟩
  cases rv1
  exact ⟨k, rfl, q _ F1 H1 ok1 st1 (.bl _)⟩
theorem r_andT {r : List Expr} (ha : PT X x (wT X.K ft)) (hb : PW X (.BoolOp .And (y :: r) pos) (wT X.K ff)) : PW X (.BoolOp .And (x :: y :: r) pos) (wT X.K (tAnd ft ff)) := by
  refine ⟨fun wh pins s σ H Q I h => (pw_and ha hb).run wh pins s σ H Q I ?_⟩
  obtain ⟨Y, e, F, k, e', ok, ev, q⟩ := h
  obtain ⟨e1, c, h1, hk⟩ := inv_tAnd ev
  refine ⟨Y, e, F, c, e1, ok, h1, fun F1 H1 ok1 st1 => ?_⟩
  rcases hk with ⟨rfl, h2⟩ | ⟨rfl, rfl, rfl⟩
  · rw [if_pos rfl]
    exact ⟨Y, e1, F1, k, e', ok1, h2, fun F2 H2 ok2 st2 => q F2 H2 ok2 (st1.trans st2)⟩
  · rw [if_neg Bool.false_ne_true]
    exact q F1 H1 ok1 st1
theorem r_orT {r : List Expr} (ha : PT X x (wT X.K ft)) (hb : PW X (.BoolOp .Or (y :: r) pos) (wT X.K ff)) : PW X (.BoolOp .Or (x :: y :: r) pos) (wT X.K (tOr ft ff)) := by
  refine ⟨fun wh pins s σ H Q I h => (pw_or ha hb).run wh pins s σ H Q I ?_⟩
  obtain ⟨Y, e, F, k, e', ok, ev, q⟩ := h
  obtain ⟨e1, c, h1, hk⟩ := inv_tOr ev
  refine ⟨Y, e, F, c, e1, ok, h1, fun F1 H1 ok1 st1 => ?_⟩
  rcases hk with ⟨rfl, h2⟩ | ⟨rfl, rfl, rfl⟩
  · rw [if_neg Bool.false_ne_true]
    exact ⟨Y, e1, F1, k, e', ok1, h2, fun F2 H2 ok2 st2 => q F2 H2 ok2 (st1.trans st2)⟩
  · rw [if_pos rfl]
    exact q F1 H1 ok1 st1
theorem r_notT (ha : PT X x (wT X.K ft)) : PT X (.UnaryOp .Not x pos) (wT X.K (tNot ft)) := by
  refine (pt_not ha).imp fun σ H Q ⟨Y, e, F, k, e', ok, ev, q⟩ => ?_
  obtain ⟨c, h, rfl⟩ := inv_tNot ev
  exact ⟨Y, e, F, c, e', ok, h, fun F1 H1 ok1 st1 => q F1 H1 ok1 st1⟩
theorem r_ite (hc : PT X z (wT X.K fc)) (ha : PE X x (wV X.K a)) (hb : PE X y (wV X.K b)) : PE X (.IfExp z x y pos) (wV X.K (vIte fc a b)) := by
  refine (pe_ifExp hc ha hb).imp fun σ H Q ⟨Y, e, F, r, e', ok, ev, q⟩ => ?_
  obtain ⟨e1, k, h1, hk⟩ := inv_ite ev
  refine ⟨Y, e, F, k, e1, ok, h1, fun F1 H1 ok1 st1 => ?_⟩
  rcases hk with ⟨rfl, h2⟩ | ⟨rfl, h2⟩
  · rw [if_pos rfl]
    exact ⟨Y, e1, F1, r, e', ok1, h2, fun u F2 H2 ok2 st2 rv2 => q u F2 H2 ok2 (st1.trans st2) (rv2.from st1.stay)⟩
  · rw [if_neg Bool.false_ne_true]
    exact ⟨Y, e1, F1, r, e', ok1, h2, fun u F2 H2 ok2 st2 rv2 => q u F2 H2 ok2 (st1.trans st2) (rv2.from st1.stay)⟩
/-! ### displays, items, slices -/
theorem small_le {ds : List PyData} {vs : List V} {K : PySem.W.Frag} {F : Hp} (h : small ds = true) (r : RpA K F vs ds) : vs.length ≤ sizeLine := by
  rw [r.length]
  exact Nat.le_trans (of_decide_eq_true h) lim_le
theorem r_tup {es : List Expr} {kk : Nat} (h : PA X es (wD X.K fi)) : PE X (.Tuple es kk pos) (wV X.K (vTup fi)) := by
  refine (pe_tup h).imp fun σ H Q ⟨Y, e, F, r, e', ok, ev, q⟩ => ?_
  obtain ⟨ds, rfl, h1, h2⟩ := inv_tup ev
  exact ⟨Y, e, F, ds, e', ok, h1, fun vs F1 H1 ok1 st1 ra => ⟨small_le h2 ra, fun p hp => (res_of (r := .d (.tuple ds)) ok1 st1 (fun _ z => nomatch z) q).newT ok1.sub hp ra⟩⟩
theorem r_lst {es : List Expr} (h : PA X es (wD X.K fi)) : PE X (.List es pos) (wV X.K (vLst fi)) := by
  refine (pe_lst h).imp fun σ H Q ⟨Y, e, F, r, e', ok, ev, q⟩ => ?_
  obtain ⟨ds, rfl, h1, h2⟩ := inv_lst ev
  exact ⟨Y, e, F, ds, e', ok, h1, fun vs F1 H1 ok1 st1 ra => ⟨small_le h2 ra, fun p hp => res_of (r := .own ds) ok1 st1 (fun _ z => nomatch z) q p vs hp ra⟩⟩
theorem atI_rp {K : PySem.W.Frag} {F : Hp} {vs : List V} {xs : List PyData} {k : Int} {d : PyData} (r : RpA K F vs xs) (h : ixD xs k = some d) : ∃ v, atI vs k = some v ∧ Rp K F v d := by
  unfold ixD atI at h
  unfold atI
  rw [r.length]
  cases q : ixN xs.length k with
  | none => rw [q] at h; cases h
  | some j =>
    rw [q] at h
    exact r.get h
theorem r_ix (ha : PE X x (wV X.K a)) (hb : PE X y (wV X.K b)) (hs : notSl y = true) : PE X (.Subscript x y pos) (wV X.K (vIx a b)) := by
  refine ((pe_ix ix_list ha hb (slPlain hs)).or (pe_ix ix_tup ha hb (slPlain hs))).imp fun σ H Q ⟨Y, e, F, r, e', ok, ev, q⟩ => ?_
  obtain ⟨r1, e1, k, xs, d, rfl, h1, h2, d1 | d1, hi⟩ := inv_ix ev
  · refine .inl ⟨Y, e, F, r1, e1, ok, h1, fun v F1 H1 ok1 st1 rv1 => ⟨Y, e1, F1, _, e', ok1, h2, fun u F2 H2 ok2 st2 rv2 => ?_⟩⟩
    cases rv2
    obtain ⟨p, vs, rfl, hp, ra⟩ := ((rv1.step st2).view ok2 d1).list ok2.sub
    obtain ⟨w, h3, h4⟩ := atI_rp ra hi
    exact ⟨p, vs, k, w, rfl, rfl, SqL.of hp, h3, q w F2 H2 ok2 (st1.trans st2) h4⟩
  · refine .inr ⟨Y, e, F, r1, e1, ok, h1, fun v F1 H1 ok1 st1 rv1 => ⟨Y, e1, F1, _, e', ok1, h2, fun u F2 H2 ok2 st2 rv2 => ?_⟩⟩
    cases rv2
    obtain ⟨p, vs, rfl, hp, _, ra⟩ := ((rv1.step st2).view ok2 d1).tup ok2.sub
    obtain ⟨w, h3, h4⟩ := atI_rp ra hi
    exact ⟨p, vs, k, w, rfl, rfl, hp, h3, q w F2 H2 ok2 (st1.trans st2) h4⟩
/-- a slice, by values -/
def rSlc (K : PySem.W.Frag) : V → Option Int → Option Int → Hp → VK → Prop := fun x lo hi H Q => rSlL K x lo hi H Q ∨ rSlA K x lo hi H Q
theorem sl_both : SlR X (rSlc X.K) := sl_list.or sl_tupA
theorem cut_rp {K : PySem.W.Frag} {F : Hp} {vs : List V} {xs : List PyData} {lo hi : Option Int} (r : RpA K F vs xs) : RpA K F (cutV vs lo hi) (cut xs lo hi) := by
  unfold cutV cut
  rw [r.length]
  exact (r.drop _).take _
theorem cut_all {xs : List PyData} {lo hi : Option Int} (h : HT.sIx xs.length 0 lo = 0 ∧ HT.sIx xs.length xs.length hi = xs.length) : cut xs lo hi = xs := by
  unfold cut
  rw [h.1, h.2, List.drop_zero, Nat.sub_zero, List.take_length]
theorem slice_reads {K : PySem.W.Frag} {F H : Hp} {v : V} {d : PyData} {lo hi : Option Int} {r : Rv} {Q : VK} (sb : Sub F H) (vw : Vw K F H v d) (h : slice d lo hi = some r) (q : Res K F H Q r) : rSlc K v lo hi H Q := by
  cases d with
  | list xs =>
    cases h
    obtain ⟨p, vs, rfl, hp, ra⟩ := vw.list sb
    exact .inl ⟨p, vs, rfl, SqL.of hp, fun p' hp' => q p' _ hp' (cut_rp ra)⟩
  | tuple xs =>
    cases h
    obtain ⟨p, vs, rfl, hp, fp, ra⟩ := vw.tup sb
    refine .inr ⟨p, vs, rfl, hp, fun hw => ?_, fun _ p' hp' => q.newT sb hp' (cut_rp ra)⟩
    rw [ra.length] at hw
    rw [cut_all hw] at q
    exact q _ _ _ (Gr.refl sb) (.tup fp ra)
  | _ => cases h
theorem slice_loc {d : PyData} {lo hi : Option Int} {r : Rv} (h : slice d lo hi = some r) : ∀ i, r ≠ .loc i := fun i z => by
  subst z
  cases d <;> cases h
theorem r_slF (ha : PE X x (wV X.K a)) (hb : PE X y (wV X.K b)) : PE X (.Subscript x (.Slice (some y) none none p2) pos) (wV X.K (vSlF a b)) := by
  refine (pe_slice sl_both ha (po_some hb) po_none).imp fun σ H Q ⟨Y, e, F, r, e', ok, ev, q⟩ => ?_
  obtain ⟨r1, e1, k, d, h1, h2, d1, hs⟩ := inv_slF ev
  refine ⟨Y, e, F, r1, e1, ok, h1, fun v F1 H1 ok1 st1 rv1 => ⟨Y, e1, F1, _, e', ok1, h2, fun u F2 H2 ok2 st2 rv2 => ?_⟩⟩
  cases rv2
  exact ⟨k, rfl, slice_reads ok2.sub ((rv1.step st2).view ok2 d1) hs (res_of ok2 (st1.trans st2) (slice_loc hs) q)⟩
theorem r_slT (ha : PE X x (wV X.K a)) (hb : PE X y (wV X.K b)) : PE X (.Subscript x (.Slice none (some y) none p2) pos) (wV X.K (vSlT a b)) := by
  refine (pe_slice sl_both ha po_none (po_some hb)).imp fun σ H Q ⟨Y, e, F, r, e', ok, ev, q⟩ => ?_
  obtain ⟨r1, e1, k, d, h1, h2, d1, hs⟩ := inv_slT ev
  refine ⟨Y, e, F, r1, e1, ok, h1, fun v F1 H1 ok1 st1 rv1 => ⟨Y, e1, F1, _, e', ok1, h2, fun u F2 H2 ok2 st2 rv2 => ?_⟩⟩
  cases rv2
  exact ⟨k, rfl, slice_reads ok2.sub ((rv1.step st2).view ok2 d1) hs (res_of ok2 (st1.trans st2) (slice_loc hs) q)⟩
theorem r_sl (ha : PE X x (wV X.K a)) (hb : PE X y (wV X.K b)) (hc : PE X z (wV X.K c)) : PE X (.Subscript x (.Slice (some y) (some z) none p2) pos) (wV X.K (vSl a b c)) := by
  refine (pe_slice sl_both ha (po_some hb) (po_some hc)).imp fun σ H Q ⟨Y, e, F, r, e', ok, ev, q⟩ => ?_
  obtain ⟨r1, e1, k, e2, l, d, h1, h2, h3, d1, hs⟩ := inv_sl ev
  refine ⟨Y, e, F, r1, e1, ok, h1, fun v F1 H1 ok1 st1 rv1 => ⟨Y, e1, F1, _, e2, ok1, h2, fun u F2 H2 ok2 st2 rv2 => ?_⟩⟩
  cases rv2
  refine ⟨k, rfl, Y, e2, F2, _, e', ok2, h3, fun w F3 H3 ok3 st3 rv3 => ?_⟩
  cases rv3
  exact ⟨l, rfl, slice_reads ok3.sub ((rv1.step (st2.trans st3)).view ok3 d1) hs (res_of ok3 ((st1.trans st2).trans st3) (slice_loc hs) q)⟩
/-! ### arguments -/
theorem r_aNil : PA X [] (wA X.K aNil) := pa_nil.imp fun σ H Q ⟨Y, e, F, rs, e', ok, ev, q⟩ => by
  cases ev
  exact q [] F H ok .refl .nil
theorem r_dNil : PA X [] (wD X.K dNil) := pa_nil.imp fun σ H Q ⟨Y, e, F, rs, e', ok, ev, q⟩ => by
  cases ev
  exact q [] F H ok .refl .nil
theorem r_aCons {es : List Expr} (ha : PE X x (wV X.K a)) (hr : PA X es (wA X.K fa)) (hs : notStar x = true) : PA X (x :: es) (wA X.K (aCons a fa)) := by
  refine (pa_cons ha hr (starPlain hs)).imp fun σ H Q ⟨Y, e, F, rs, e', ok, ev, q⟩ => ?_
  obtain ⟨r1, e1, rs', h1, h2, hk⟩ := inv_aCons ev
  refine ⟨Y, e, F, r1, e1, ok, h1, fun v F1 H1 ok1 st1 rv1 => ?_⟩
  rcases hk with ⟨i, rfl, rfl⟩ | ⟨d, rfl, rfl⟩ | ⟨xs, rfl, rfl⟩
  · exact ⟨Y, e1, F1, rs', e', ok1, h2, fun vs F2 H2 ok2 st2 ra => q _ F2 H2 ok2 (st1.trans st2) (.loc rv1 ra)⟩
  · exact ⟨Y, e1, F1, rs', e', ok1, h2, fun vs F2 H2 ok2 st2 ra => q _ F2 H2 ok2 (st1.trans st2) (.d (Rp.mono st2.grow rv1) ra)⟩
  · obtain ⟨F2, ok2, st2, rp⟩ := frzd (d := .list xs) (e2 := e1) ok ok1 st1 rv1 rfl
    exact ⟨Y, e1, F2, rs', e', ok2, h2, fun vs F3 H3 ok3 st3 ra => q _ F3 H3 ok3 (st2.trans st3) (.d (Rp.mono st3.grow rp) ra)⟩
theorem r_dCons {es : List Expr} (ha : PE X x (wV X.K a)) (hr : PA X es (wD X.K fi)) (hs : notStar x = true) : PA X (x :: es) (wD X.K (dCons a fi)) := by
  refine (pa_cons ha hr (starPlain hs)).imp fun σ H Q ⟨Y, e, F, rs, e', ok, ev, q⟩ => ?_
  obtain ⟨r1, e1, d, e2, ds', h1, h2, h3, rfl⟩ := inv_dCons ev
  refine ⟨Y, e, F, r1, e1, ok, h1, fun v F1 H1 ok1 st1 rv1 => ?_⟩
  obtain ⟨F2, ok2, st2, rp⟩ := frzd ok ok1 st1 rv1 h2
  exact ⟨Y, e2, F2, ds', e', ok2, h3, fun vs F3 H3 ok3 st3 ra => q _ F3 H3 ok3 (st2.trans st3) (.cons (Rp.mono st3.grow rp) ra)⟩
theorem r_fz (ha : PE X x (wV X.K a)) : PE X x (wV X.K (vFz a)) := by
  refine ha.imp fun σ H Q ⟨Y, e, F, r, e', ok, ev, q⟩ => ?_
  obtain ⟨r1, e1, d, rfl, h1, h2⟩ := inv_fz ev
  refine ⟨Y, e, F, r1, e1, ok, h1, fun v F1 H1 ok1 st1 rv1 => ?_⟩
  obtain ⟨F2, ok2, st2, rp⟩ := frzd ok ok1 st1 rv1 h2
  exact q v F2 H1 ok2 st2 rp
end
end De
end

section
set_option maxHeartbeats 4000000
namespace De
open PySem PySem.Spec PyProof.Rows L2

/-! ### plain argument lists -/
theorem starAll {env : Env} : ∀ {xs : List Expr}, xs.all notStar = true → starEach xs env = xs.map fun e => (false, eval e env)
  | [], _ => rfl
  | x :: xs, h => by
    rw [List.all_cons, Bool.and_eq_true] at h
    rw [starPlain h.1, starAll h.2]
    rfl
theorem backAll {env : Env} {pos : Pos} {xs : List Expr} (h : xs.all notStar = true) : (backTo pos (starEach xs env)).any (·.1) = false := by
  rw [starAll h]
  unfold backTo
  rw [List.map_map]
  induction xs with
  | nil => rfl
  | cons x xs ih =>
    rw [List.all_cons, Bool.and_eq_true] at h
    rw [List.map_cons, List.any_cons, ih h.2]
    rfl

/-! ### a call: the callee's state from the caller's -/
section
variable {K : PySem.W.Frag} {Y : Fx} {σ : L2.St} {e e' : En} {F H : Hp}
theorem argAt : ∀ {vs : List V} {rs : List Rv} {svs : List Sv}, RvA K F σ vs rs → argsOf e rs = some svs → svs.length = vs.length ∧ ∀ (i : Nat) (s : Sv), svs[i]? = some s →
    ∃ v r, vs[i]? = some v ∧ rs[i]? = some r ∧ argOf e r = some s ∧ ((∃ x, r = .d x ∧ Rp K F v x) ∨ ∃ j, r = .loc j ∧ σ[j]? = some (some v))
  | [], [], svs, .nil, h => by
    rw [argsOf] at h
    cases h
    exact ⟨rfl, fun i s h => by simp at h⟩
  | v :: vs, r :: rs, svs, q, h => by
    rw [argsOf] at h
    cases h1 : argOf e r with
    | none => rw [h1] at h; cases h
    | some s =>
      rw [h1] at h
      cases h2 : argsOf e rs with
      | none => rw [h2] at h; cases h
      | some l =>
        rw [h2] at h
        cases h
        have key : RvA K F σ vs rs ∧ ((∃ x, r = .d x ∧ Rp K F v x) ∨ ∃ j, r = .loc j ∧ σ[j]? = some (some v)) := by
          cases q with
          | d a b => exact ⟨b, .inl ⟨_, rfl, a⟩⟩
          | loc a b => exact ⟨b, .inr ⟨_, rfl, a⟩⟩
        obtain ⟨l1, l2⟩ := argAt key.1 h2
        refine ⟨congrArg Nat.succ l1, fun i t ht => ?_⟩
        cases i with
        | zero =>
          simp at ht
          subst ht
          exact ⟨v, r, rfl, rfl, h1, key.2⟩
        | succ i =>
          obtain ⟨v', r', a, b, c⟩ := l2 i t (by simpa using ht)
          exact ⟨v', r', by simpa using a, by simpa using b, c⟩
theorem locs_mem : ∀ {rs : List Rv} {k j : Nat}, rs[k]? = some (.loc j) → j ∈ locs rs
  | [], _, _, h => by simp at h
  | .loc i :: rs, 0, j, h => by
    simp at h
    subst h
    exact List.mem_cons_self
  | .loc i :: rs, k + 1, j, h => List.mem_cons_of_mem _ (locs_mem (k := k) (by simpa using h))
  | .d _ :: rs, 0, j, h => by simp at h
  | .own _ :: rs, 0, j, h => by simp at h
  | .d _ :: rs, k + 1, j, h => locs_mem (rs := rs) (k := k) (by simpa using h)
  | .own _ :: rs, k + 1, j, h => locs_mem (rs := rs) (k := k) (by simpa using h)
theorem locs_at : ∀ {rs : List Rv} {j : Nat}, j ∈ locs rs → ∃ k : Nat, rs[k]? = some (Rv.loc j)
  | [], _, h => by cases h
  | .loc i :: rs, j, h => by
    rcases List.mem_cons.mp h with e | h
    · exact ⟨0, by rw [e]; rfl⟩
    · obtain ⟨k, q⟩ := locs_at h
      exact ⟨k + 1, by simpa using q⟩
  | .d _ :: rs, j, h => by
    obtain ⟨k, q⟩ := locs_at (rs := rs) h
    exact ⟨k + 1, by simpa using q⟩
  | .own _ :: rs, j, h => by
    obtain ⟨k, q⟩ := locs_at (rs := rs) h
    exact ⟨k + 1, by simpa using q⟩
theorem locs_inj : ∀ {rs : List Rv} {k l j : Nat}, (locs rs).Nodup → rs[k]? = some (.loc j) → rs[l]? = some (.loc j) → k = l
  | [], _, _, _, _, h, _ => by simp at h
  | r :: rs, 0, 0, _, _, _, _ => rfl
  | .loc i :: rs, 0, l + 1, j, n, h, g => by
    simp at h
    subst h
    exact absurd (locs_mem (rs := rs) (k := l) (by simpa using g)) (List.nodup_cons.mp n).1
  | .loc i :: rs, k + 1, 0, j, n, h, g => by
    simp at g
    subst g
    exact absurd (locs_mem (rs := rs) (k := k) (by simpa using h)) (List.nodup_cons.mp n).1
  | .d _ :: rs, 0, l + 1, j, n, h, g => by simp at h
  | .own _ :: rs, 0, l + 1, j, n, h, g => by simp at h
  | .d _ :: rs, k + 1, 0, j, n, h, g => by simp at g
  | .own _ :: rs, k + 1, 0, j, n, h, g => by simp at g
  | .loc i :: rs, k + 1, l + 1, j, n, h, g => congrArg Nat.succ (locs_inj (rs := rs) (List.nodup_cons.mp n).2 (by simpa using h) (by simpa using g))
  | .d _ :: rs, k + 1, l + 1, j, n, h, g => congrArg Nat.succ (locs_inj (rs := rs) n (by simpa using h) (by simpa using g))
  | .own _ :: rs, k + 1, l + 1, j, n, h, g => congrArg Nat.succ (locs_inj (rs := rs) n (by simpa using h) (by simpa using g))
/-- what backs does -/
structure Bk (e : En) (rs : List Rv) (ss : En) (e' : En) : Prop where
  len : e'.length = e.length
  out : ∀ j, j ∉ locs rs → e'[j]? = e[j]?
  fz : ∀ (j : Nat) (d : Dt), e[j]? = some (Sv.fz d) → e'[j]? = some (Sv.fz d)
  ow : ∀ (k j : Nat) (b : Bool) (xs : List Dt), rs[k]? = some (Rv.loc j) → e[j]? = some (Sv.ow b xs) → ∃ c ys, ss[k]? = some (Sv.ow c ys) ∧ e'[j]? = some (Sv.ow b ys)
  un : ∀ (j : Nat), e[j]? = some Sv.un → e'[j]? = some Sv.un
theorem backs_ok : ∀ {rs : List Rv} {ss e e' : En}, backs e rs ss = some e' → (locs rs).Nodup → Bk e rs ss e'
  | [], ss, e, e', h, _ => by
    rw [backs] at h
    cases h
    exact ⟨rfl, fun _ _ => rfl, fun _ _ h => h, fun k j b xs h => by simp at h, fun _ h => h⟩
  | .d _ :: rs, s :: ss, e, e', h, n => by
    rw [backs] at h
    have q := backs_ok (rs := rs) h n
    refine ⟨q.len, q.out, q.fz, fun k j b xs hk hj => ?_, q.un⟩
    cases k with
    | zero => simp at hk
    | succ k =>
      obtain ⟨c, ys, a, b'⟩ := q.ow k j b xs (by simpa using hk) hj
      exact ⟨c, ys, by simpa using a, b'⟩
  | .own _ :: rs, s :: ss, e, e', h, n => by
    rw [backs] at h
    have q := backs_ok (rs := rs) h n
    refine ⟨q.len, q.out, q.fz, fun k j b xs hk hj => ?_, q.un⟩
    cases k with
    | zero => simp at hk
    | succ k =>
      obtain ⟨c, ys, a, b'⟩ := q.ow k j b xs (by simpa using hk) hj
      exact ⟨c, ys, by simpa using a, b'⟩
  | .d _ :: rs, [], e, e', h, n => by simp [backs] at h
  | .own _ :: rs, [], e, e', h, n => by simp [backs] at h
  | .loc i :: rs, [], e, e', h, n => by simp [backs] at h
  | .loc i :: rs, s :: ss, e, e', h, n => by
    obtain ⟨n1, n2⟩ := List.nodup_cons.mp n
    have hh : (∃ b xs c ys, e[i]? = some (Sv.ow b xs) ∧ s = .ow c ys ∧ backs (e.set i (.ow b ys)) rs ss = some e') ∨ ((∀ b xs, e[i]? ≠ some (Sv.ow b xs)) ∧ backs e rs ss = some e') := by
      rw [backs] at h
      cases q : e[i]? with
      | none => rw [q] at h; exact .inr ⟨fun _ _ z => (nomatch z), h⟩
      | some t =>
        rw [q] at h
        cases t with
        | un => exact .inr ⟨fun _ _ z => (nomatch z), h⟩
        | fz d => exact .inr ⟨fun _ _ z => (nomatch z), h⟩
        | ow b xs =>
          cases s with
          | un => cases h
          | fz d => cases h
          | ow c ys => exact .inl ⟨b, xs, c, ys, rfl, rfl, h⟩
    rcases hh with ⟨b, xs, c, ys, hi, rfl, h'⟩ | ⟨hi, h⟩
    · have q := backs_ok (rs := rs) h' n2
      have ne : ∀ {j : Nat} {t : Sv}, e[j]? = some t → (∀ b xs, t ≠ .ow b xs) → i ≠ j := fun {j t} h1 h2 z => by
        subst z
        rw [hi] at h1
        cases h1
        exact h2 _ _ rfl
      refine ⟨by rw [q.len, List.length_set], fun j hj => ?_, fun j d hj => ?_, fun k j b' xs' hk hj => ?_, fun j hj => ?_⟩
      · have h1 : i ≠ j := fun z => hj (by rw [z]; exact List.mem_cons_self)
        rw [q.out j fun z => hj (List.mem_cons_of_mem _ z), List.getElem?_set_ne h1]
      · refine q.fz j d ?_
        rw [List.getElem?_set_ne (ne hj fun _ _ z => nomatch z)]
        exact hj
      · cases k with
        | zero =>
          simp at hk
          subst hk
          rw [hi] at hj
          cases hj
          refine ⟨c, ys, rfl, ?_⟩
          rw [q.out i n1, List.getElem?_set_self', hi]
          rfl
        | succ k =>
          have hk : rs[k]? = some (.loc j) := by simpa using hk
          have h1 : i ≠ j := fun z => n1 (by rw [z]; exact locs_mem hk)
          obtain ⟨c', ys', a, b''⟩ := q.ow k j b' xs' hk (by rw [List.getElem?_set_ne h1]; exact hj)
          exact ⟨c', ys', by simpa using a, b''⟩
      · refine q.un j ?_
        rw [List.getElem?_set_ne (ne hj fun _ _ z => nomatch z)]
        exact hj
    · have q := backs_ok (rs := rs) h n2
      refine ⟨q.len, fun j hj => q.out j fun z => hj (List.mem_cons_of_mem _ z), q.fz, fun k j b xs hk hj => ?_, q.un⟩
      cases k with
      | zero =>
        simp at hk
        subst hk
        exact absurd hj (hi _ _)
      | succ k =>
        obtain ⟨c, ys, a, b'⟩ := q.ow k j b xs (by simpa using hk) hj
        exact ⟨c, ys, by simpa using a, b'⟩
/-- the addresses that are passed -/
def ioOf : List V → List Sv → List Addr
  | .ref p :: vs, .ow _ _ :: ss => p :: ioOf vs ss
  | _ :: vs, _ :: ss => ioOf vs ss
  | _, _ => []
theorem ioOf_mem : ∀ {vs : List V} {ss : List Sv} {p : Addr}, p ∈ ioOf vs ss ↔ ∃ (i : Nat) (b : Bool) (xs : List Dt), vs[i]? = some (V.ref p) ∧ ss[i]? = some (Sv.ow b xs)
  | [], ss, p => ⟨fun h => by simp [ioOf] at h, fun ⟨i, b, xs, h, _⟩ => by simp at h⟩
  | v :: vs, [], p => ⟨fun h => by simp [ioOf] at h, fun ⟨i, b, xs, _, h⟩ => by simp at h⟩
  | v :: vs, s :: ss, p => by
    have ih := @ioOf_mem vs ss p
    have shift : (∃ (i : Nat) (b : Bool) (xs : List Dt), vs[i]? = some (V.ref p) ∧ ss[i]? = some (Sv.ow b xs)) → ∃ (i : Nat) (b : Bool) (xs : List Dt), (v :: vs)[i]? = some (V.ref p) ∧ (s :: ss)[i]? = some (Sv.ow b xs) := fun ⟨i, b, xs, h1, h2⟩ => ⟨i + 1, b, xs, by simpa using h1, by simpa using h2⟩
    constructor
    · intro h
      have : (p ∈ ioOf vs ss) ∨ ∃ b xs, v = .ref p ∧ s = .ow b xs := by
        cases v <;> cases s <;> first
          | exact .inl h
          | (rcases List.mem_cons.mp h with e | h
             · exact .inr ⟨_, _, by rw [e], rfl⟩
             · exact .inl h)
      rcases this with h | ⟨b, xs, rfl, rfl⟩
      · exact shift (ih.mp h)
      · exact ⟨0, b, xs, rfl, rfl⟩
    · rintro ⟨i, b, xs, h1, h2⟩
      have sub : p ∈ ioOf vs ss → p ∈ ioOf (v :: vs) (s :: ss) := fun h => by
        cases v <;> cases s <;> first
          | exact h
          | exact List.mem_cons_of_mem _ h
      cases i with
      | zero =>
        simp at h1 h2
        subst h1 h2
        exact List.mem_cons_self
      | succ i => exact sub (ih.mpr ⟨i, b, xs, by simpa using h1, by simpa using h2⟩)
theorem RvA.length : ∀ {vs : List V} {rs : List Rv}, RvA K F σ vs rs → vs.length = rs.length
  | _, _, .nil => rfl
  | _, _, .d _ r => congrArg Nat.succ (RvA.length r)
  | _, _, .loc _ r => congrArg Nat.succ (RvA.length r)
theorem entry_ok (k : Ok K Y σ e F H) {vs : List V} {rs : List Rv} {svs : List Sv} (ra : RvA K F σ vs rs) (ha : argsOf e rs = some svs) (hn : (locs rs).Nodup) :
    Ok K ⟨H, F, ioOf vs svs, pnOf vs svs⟩ (vs.map some) svs F H ∧ (∀ (i : Nat) (r : Sv), svs[i]? = some r → r ≠ Sv.un) ∧
    (∀ p ∈ ioOf vs svs, ∃ (i j : Nat) (b : Bool) (xs : List Dt), rs[i]? = some (Rv.loc j) ∧ svs[i]? = some (Sv.ow true xs) ∧ vs[i]? = some (V.ref p) ∧ e[j]? = some (Sv.ow b xs) ∧ σ[j]? = some (some (V.ref p))) ∧
    (∀ (i j : Nat) (b : Bool) (xs : List Dt), rs[i]? = some (Rv.loc j) → e[j]? = some (Sv.ow b xs) → svs[i]? = some (Sv.ow true xs) ∧ ∃ v, vs[i]? = some v ∧ σ[j]? = some (some v)) := by
  obtain ⟨hl, at'⟩ := argAt ra ha
  -- an own argument's slot
  have own : ∀ (i : Nat) (b : Bool) (xs : List Dt), svs[i]? = some (Sv.ow b xs) → ∃ v j b', vs[i]? = some v ∧ rs[i]? = some (Rv.loc j) ∧ b = true ∧ e[j]? = some (Sv.ow b' xs) ∧ σ[j]? = some (some v) := fun i b xs h => by
    obtain ⟨v, r, h1, h2, h3, h4⟩ := at' i _ h
    rcases h4 with ⟨x, rfl, _⟩ | ⟨j, rfl, h5⟩
    · cases h3
    · have h3 : (match e[j]? with
        | some (.fz d) => some (.fz d)
        | some (.ow _ xs) => some (.ow true xs)
        | _ => none) = some (Sv.ow b xs) := h3
      cases q : e[j]? with
      | none => rw [q] at h3; cases h3
      | some t =>
        rw [q] at h3
        cases t with
        | un => cases h3
        | fz d => cases h3
        | ow b' ys =>
          cases h3
          exact ⟨v, j, b', h1, h2, rfl, q, h5⟩
  have mp : ∀ (i : Nat) (v : V), vs[i]? = some v → (vs.map some)[i]? = some (some v) := fun i v h => by simp [h]
  have mp' : ∀ (i : Nat) (v : V), (vs.map some)[i]? = some (some v) → vs[i]? = some v := fun i v h => by
    rw [List.getElem?_map] at h
    cases q : vs[i]? with
    | none => rw [q] at h; cases h
    | some w => rw [q] at h; cases h; rfl
  refine ⟨⟨by rw [List.length_map]; exact hl, k.sub, fun i d h => ?_, fun i b xs h => ?_, fun i j p ⟨⟨b, xs, h1⟩, h2⟩ ⟨⟨b', xs', h3⟩, h4⟩ => ?_, Sub.refl _, fun a h => .inl h, fun a o h _ => h, fun a h => h, fun i v h => ?_⟩, fun i r h z => ?_, fun p hp => ?_, fun i j b xs h1 h2 => ?_⟩
  · obtain ⟨v, r, h1, h2, h3, h4⟩ := at' i _ h
    refine ⟨v, mp i v h1, ?_⟩
    rcases h4 with ⟨x, rfl, h5⟩ | ⟨j, rfl, h5⟩
    · cases h3
      exact h5
    · have h3 : (match e[j]? with
        | some (.fz d) => some (.fz d)
        | some (.ow _ xs) => some (.ow true xs)
        | _ => none) = some (Sv.fz d) := h3
      cases q : e[j]? with
      | none => rw [q] at h3; cases h3
      | some t =>
        rw [q] at h3
        cases t with
        | un => cases h3
        | fz d' =>
          cases h3
          obtain ⟨u, h6, h7⟩ := k.fz j _ q
          rw [h5] at h6
          cases h6
          exact h7
        | ow b' ys => cases h3
  · obtain ⟨v, j, b', h1, h2, rfl, h3, h4⟩ := own i b xs h
    obtain ⟨p, ws, h5, h6, h7, h8, _⟩ := k.ow j b' xs h3
    rw [h4] at h5
    cases h5
    exact ⟨p, ws, mp i _ h1, h6, h7, h8, .inr ⟨rfl, ioOf_mem.mpr ⟨i, _, _, h1, h⟩⟩⟩
  · obtain ⟨v, a, c, h5, h6, rfl, h7, h8⟩ := own i b xs h1
    obtain ⟨v', a', c', h5', h6', rfl, h7', h8'⟩ := own j b' xs' h3
    have e1 := mp' i _ h2
    have e2 := mp' j _ h4
    rw [h5] at e1
    rw [h5'] at e2
    cases e1
    cases e2
    have := k.inj a a' p ⟨⟨_, _, h7⟩, h8⟩ ⟨⟨_, _, h7'⟩, h8'⟩
    subst this
    exact locs_inj hn h6 h6'
  · have h : (match svs[i]? with
      | some (.ow true _) => vs[i]?
      | _ => none) = some v := h
    cases q : svs[i]? with
    | none => rw [q] at h; cases h
    | some t =>
      rw [q] at h
      cases t with
      | un => cases h
      | fz d => cases h
      | ow b xs =>
        cases b with
        | false => cases h
        | true => exact ⟨mp i v h, xs, rfl⟩
  · subst z
    obtain ⟨v, r, h1, h2, h3, h4⟩ := at' i _ h
    rcases h4 with ⟨x, rfl, h5⟩ | ⟨j, rfl, h5⟩
    · cases h3
    · have h3 : (match e[j]? with
        | some (.fz d) => some (.fz d)
        | some (.ow _ xs) => some (.ow true xs)
        | _ => none) = some Sv.un := h3
      split at h3 <;> cases h3
  · obtain ⟨i, b, xs, h1, h2⟩ := ioOf_mem.mp hp
    obtain ⟨v, j, b', h3, h4, rfl, h5, h6⟩ := own i b xs h2
    rw [h1] at h3
    cases h3
    exact ⟨i, j, b', xs, h4, h2, h1, h5, h6⟩
  · have hlen : i < svs.length := by
      rw [hl, ra.length]
      obtain ⟨q, _⟩ := List.getElem?_eq_some_iff.mp h1
      exact q
    obtain ⟨v, r, h3, h4, h5, h6⟩ := at' i _ (List.getElem?_eq_getElem hlen)
    rw [h1] at h4
    cases h4
    have h5 : (match e[j]? with
        | some (.fz d) => some (.fz d)
        | some (.ow _ xs) => some (.ow true xs)
        | _ => none) = some svs[i] := h5
    rw [h2] at h5
    injection h5 with h5
    refine ⟨by rw [List.getElem?_eq_getElem hlen, ← h5], v, h3, ?_⟩
    rcases h6 with ⟨x, z, _⟩ | ⟨j', z, h6⟩
    · cases z
    · cases z
      exact h6
theorem call_ok (k : Ok K Y σ e F H) {vs : List V} {rs : List Rv} {svs : List Sv} {σ' : L2.St} {ec : En} {F' H' : Hp} {v : V} {r : Rv} (ra : RvA K F σ vs rs) (ha : argsOf e rs = some svs) (hn : (locs rs).Nodup)
    (hb : backs e rs ec = some e') (hr : ∀ i, r ≠ .loc i) (kc : Ok K ⟨H, F, ioOf vs svs, pnOf vs svs⟩ σ' ec F' H') (rv : RvOk K H σ' ec F' H' v r) :
    Ok K Y σ e' F' H' ∧ Step σ e F H e' F' H' ∧ RvOk K H σ e' F' H' v r := by
  obtain ⟨_, _, io, inw⟩ := entry_ok k ra ha hn
  have bk := backs_ok hb hn
  -- own slots are the same
  have own : ∀ i p, OwnAt σ e' i p → OwnAt σ e i p := fun i p ⟨⟨b, xs, h1⟩, h2⟩ => by
    refine ⟨?_, h2⟩
    by_cases hi : i ∈ locs rs
    · cases q : e[i]? with
      | none =>
        have h3 := (List.getElem?_eq_none_iff.mp q)
        rw [← bk.len] at h3
        rw [List.getElem?_eq_none_iff.mpr h3] at h1
        cases h1
      | some t =>
        cases t with
        | un => rw [bk.un i q] at h1; cases h1
        | fz d => rw [bk.fz i d q] at h1; cases h1
        | ow b ys => exact ⟨_, _, rfl⟩
    · rw [bk.out i hi] at h1
      exact ⟨_, _, h1⟩
  have ioown : ∀ p ∈ ioOf vs svs, ∃ j b xs, e[j]? = some (Sv.ow b xs) ∧ OwnAt σ e j p ∧ j ∈ locs rs := fun p hp => by
    obtain ⟨i, j, b, xs, h1, _, _, h4, h5⟩ := io p hp
    exact ⟨j, b, xs, h4, ⟨⟨_, _, h4⟩, h5⟩, locs_mem h1⟩
  have grow : Sub F F' := kc.grow0
  have new : ∀ a, F' a ≠ none → F a ≠ none ∨ H a = none := fun a h => kc.new0 a h
  have keep : ∀ a o, H a = some o → (∀ i, ¬ OwnAt σ e i a) → H' a = some o := fun a o h n => kc.keep0 a o h fun hp => by
    obtain ⟨j, _, _, _, q, _⟩ := ioown a hp
    exact n j q
  have noF : ∀ {p : Addr} {ws : List V}, H p = some (.lst ws) → F p = none → F' p = none := fun {p ws} h1 h2 => by
    refine Classical.byContradiction fun q => ?_
    rcases new p q with z | z
    · exact z h2
    · rw [h1] at z; cases z
  refine ⟨⟨bk.len.trans k.len, kc.sub, fun i d h => ?_, fun i b xs h => ?_, fun i j p h1 h2 => k.inj i j p (own i p h1) (own j p h2), k.grow0.trans grow, fun a h => ?_, fun a o h n => ?_, fun a h => kc.stay0 a (k.stay0 a h), fun i v h => ?_⟩,
    ⟨bk.len, grow, keep, fun a h => (new a h).elim .inl fun z => .inr (.inl z), own, kc.stay0⟩, ?_⟩
  · have hz : e[i]? = some (.fz d) := by
      cases q : e[i]? with
      | none =>
        have h3 := (List.getElem?_eq_none_iff.mp q)
        rw [← bk.len] at h3
        rw [List.getElem?_eq_none_iff.mpr h3] at h
        cases h
      | some t =>
        cases t with
        | un => rw [bk.un i q] at h; cases h
        | fz d' => rw [bk.fz i d' q] at h; cases h; rfl
        | ow b ys =>
          by_cases hi : i ∈ locs rs
          · obtain ⟨kk, hk⟩ := locs_at hi
            obtain ⟨_, _, _, q2⟩ := bk.ow kk i b ys hk q
            rw [q2] at h
            cases h
          · rw [bk.out i hi, q] at h
            cases h
    obtain ⟨v, h1, h2⟩ := k.fz i d hz
    exact ⟨v, h1, h2.mono grow⟩
  · by_cases hi : i ∈ locs rs
    · obtain ⟨kk, hk⟩ := locs_at hi
      obtain ⟨p, hp⟩ : ∃ p, σ[i]? = some (some (V.ref p)) ∧ ∃ b ys, e[i]? = some (Sv.ow b ys) := by
        cases q : e[i]? with
        | none =>
          have h3 := (List.getElem?_eq_none_iff.mp q)
          rw [← bk.len] at h3
          rw [List.getElem?_eq_none_iff.mpr h3] at h
          cases h
        | some t =>
          cases t with
          | un => rw [bk.un i q] at h; cases h
          | fz d' => rw [bk.fz i d' q] at h; cases h
          | ow b ys =>
            obtain ⟨p, ws, h1, _⟩ := k.ow i b ys q
            exact ⟨p, h1, _, _, rfl⟩
      obtain ⟨hp, b0, ys, he⟩ := hp
      obtain ⟨q1, v, q2, q3⟩ := inw kk i b0 ys hk he
      rw [hp] at q3
      cases q3
      obtain ⟨c, zs, q4, q5⟩ := bk.ow kk i b0 ys hk he
      rw [q5] at h
      cases h
      obtain ⟨q6, us, q7⟩ := kc.pin kk (.ref p) (show (match svs[kk]? with
        | some (.ow true _) => vs[kk]?
        | _ => none) = some (V.ref p) from by rw [q1]; exact q2)
      rw [q4] at q7
      cases q7
      obtain ⟨p', ws, r1, r2, r3, r4, _⟩ := kc.ow kk true _ q4
      rw [q6] at r1
      cases r1
      obtain ⟨p'', ws', s1, _, _, _, s5⟩ := k.ow i _ _ he
      rw [hp] at s1
      cases s1
      exact ⟨p, ws, hp, r2, r3, r4, s5⟩
    · rw [bk.out i hi] at h
      obtain ⟨p, ws, h1, h2, h3, h4, h5⟩ := k.ow i b xs h
      refine ⟨p, ws, h1, ?_, noF h2 h3, h4.mono grow, h5⟩
      refine kc.keep0 p _ h2 fun hp => ?_
      obtain ⟨j, _, _, _, q, hj⟩ := ioown p hp
      have := k.inj i j p ⟨⟨_, _, h⟩, h1⟩ q
      subst this
      exact hi hj
  · rcases new a h with z | z
    · exact k.new0 a z
    · exact .inr (Classical.byContradiction fun q => k.stay0 a q z)
  · refine kc.keep0 a o (k.keep0 a o h n) fun hp => ?_
    obtain ⟨j, b, xs, q, q2, _⟩ := ioown a hp
    obtain ⟨p, ws, h1, _, _, _, h5⟩ := k.ow j b xs q
    rw [q2.2] at h1
    cases h1
    rcases h5 with ⟨_, h5⟩ | ⟨_, h5⟩
    · rw [h] at h5; cases h5
    · exact n h5
  · obtain ⟨h1, xs, h2⟩ := k.pin i v h
    refine ⟨h1, ?_⟩
    by_cases hi : i ∈ locs rs
    · obtain ⟨kk, hk⟩ := locs_at hi
      obtain ⟨_, ys, _, q⟩ := bk.ow kk i _ _ hk h2
      exact ⟨ys, q⟩
    · exact ⟨xs, by rw [bk.out i hi]; exact h2⟩
  · cases r with
    | d d => exact rv
    | loc i => exact absurd rfl (hr i)
    | own xs =>
      obtain ⟨p, ws, h1, h2, h3, h4, h5, h6⟩ := rv
      exact ⟨p, ws, h1, h2, h3, h4, fun i q => k.noOwn h4 i (own i p q), h6⟩
end
theorem run_noloc {M : Nat} {P : List Df} {k f : Nat} {svs : List Sv} {r : Rv} {ec : En} (h : run M P k f svs = some (r, ec)) : ∀ i, r ≠ .loc i := fun i z => by
  subst z
  cases k with
  | zero => cases h
  | succ k =>
    rw [run] at h
    split at h
    · unfold runD at h
      repeat' split at h
      all_goals cases h
    · cases h
section
variable {X : Cx} {G : Pg} {k : Nat} {N : List Str} {sc : Scope} {f : Nat} {x : Str} {p pos : Pos} {es : List Expr} {fa : FA}
theorem call_reads {σ : L2.St} {H : Hp} {Q : VK} {E : XK} (h : wV X.K (vCall (run G.M G.P k f) fa) σ H Q) : tCall (spD X.K G k f) [] E (wA X.K fa) σ H Q := by
  obtain ⟨Y, e, F, r, e', ok, ev, q⟩ := h
  obtain ⟨rs, e1, svs, ec, h1, h2, h3, h4, h5⟩ := inv_call ev
  refine ⟨Y, e, F, rs, e1, ok, h1, fun vs F1 H1 ok1 st1 ra => ?_⟩
  show spD X.K G k f (vs ++ []) H1 Q E
  rw [List.append_nil]
  obtain ⟨en, nu, _, _⟩ := entry_ok ok1 ra h2 h3
  refine ⟨F1, _, svs, r, ec, en, h4, nu, fun v F' H' σ' kc rv => ?_⟩
  obtain ⟨a, b, c⟩ := call_ok ok1 ra h2 h3 h5 (run_noloc h4) kc rv
  exact q v F' H' a (st1.trans b) (c.from st1.stay)
theorem r_call {y : Expr} (C : Cy G k N X sc) (ha : PA X (y :: es) (wA X.K fa)) (hs : (y :: es).all notStar = true) (hn : G.nm[f]? = some x) (hg : glO sc x = true) (hf : (G.P[f]?).isSome = true) :
    PE X (.Call (.Name x p) (y :: es) [] pos) (wV X.K (vCall (run G.M G.P k f) fa)) := by
  cases hd : G.P[f]? with
  | none => rw [hd] at hf; cases hf
  | some d =>
    obtain ⟨x', fa', fd, ps, h1, h2, h3, h4, h5⟩ := C.fn f d hd
    rw [hn] at h1
    cases h1
    obtain ⟨g1, g2⟩ := C.gl' hg
    rw [List.all_cons, Bool.and_eq_true] at hs
    exact (pe_call (E := fun _ _ _ => False) h5 C.room g1 h2 h3 h4 .nil (fun _ _ _ _ _ _ _ z => False.elim z) ha g2 (starPlain hs.1) (backAll hs.2)).imp fun _ _ _ h => call_reads h
theorem r_call0 (C : Cy G k N X sc) (hn : G.nm[f]? = some x) (hg : glO sc x = true) (hf : (G.P[f]?).isSome = true) :
    PE X (.Call (.Name x p) [] [] pos) (wV X.K (vCall (run G.M G.P k f) aNil)) := by
  cases hd : G.P[f]? with
  | none => rw [hd] at hf; cases hf
  | some d =>
    obtain ⟨x', fa', fd, ps, h1, h2, h3, h4, h5⟩ := C.fn f d hd
    rw [hn] at h1
    cases h1
    obtain ⟨g1, g2⟩ := C.gl' hg
    refine (pe_call0 (E := fun _ _ _ => False) h5 C.room g1 h2 h3 h4 .nil (fun _ _ _ _ _ _ _ z => False.elim z) g2).imp fun σ H Q h => ?_
    obtain ⟨Y, e, F, rs, e', ok, ev, q⟩ := call_reads (E := fun _ _ _ => False) h
    cases ev
    exact q [] F H ok .refl .nil
end
end De
end

section
set_option maxHeartbeats 4000000
namespace De
open PySem PySem.Spec PyProof.Rows L2
open PySem.AutoSeq1 (wpAny_loadPart')
theorem meets_enumT (l : Addr) (items : Array Value) (n : Nat) (dct : Option Addr) (sl : Array (Option Value)) :
    Meets (Builtin.«enumerate.__new__» ⟨[.type "enumerate", .ref l], []⟩) (fun _ R s => s.heap.get? l = some { cls := .type "tuple", dict := dct, data := .seq items n, slots := sl } ∧
      R (.ok (.ret (.ref (s.heap.push { cls := .type "tuple_iterator", data := .fields #[.ref l, .int 0 0] }).objs.size)))
        { s with heap := (s.heap.push { cls := .type "tuple_iterator", data := .fields #[.ref l, .int 0 0] }).push { cls := .type "enumerate", data := .fields #[.none, .bool false, .ref s.heap.objs.size, rawInt 0, .none, .none] } }) :=
  .of_wp fun prog w A R s h => by
    obtain ⟨hp, g, d, tk, os⟩ := s; obtain ⟨hl, h⟩ := h
    have hsub := sub_enumerate
    have hL : Heap.IsTuple (Shared.heap ⟨hp, g, d, tk, os⟩) l items := ⟨_, hl, rfl, n, rfl⟩
    wp_walk using wpAny_loadPart' hl
    refine wpAny_stack_any fun st => wpAny_pure ?_
    split
    · rename_i c _ _ _ _ _
      cases (c == Value.type "enumerate")
      · wp_walk using wpAny_loadPart' hl, wpAny_pyIter_tuple hL
        exact ⟨_, rfl, h⟩
      · wp_walk using wpAny_loadPart' hl, wpAny_pyIter_tuple hL
        exact ⟨_, rfl, h⟩
    · wp_walk using wpAny_loadPart' hl, wpAny_pyIter_tuple hL
      exact ⟨_, rfl, h⟩
section
variable {prog : Program} {w : World} {A : Around} {E : Value → Shared → Prop} {s : Shared}
theorem call_enumT {l : Addr} {items : Array Value} {Q : Value → Shared → Prop} (hL : s.heap.IsTuple l items)
    (h : ∀ h', IsEnum h' (s.heap.objs.size + 1) s.heap.objs.size 0 .none → h'.IsTupleIter s.heap.objs.size l 0 → h'.objs.size = s.heap.objs.size + 2 →
      (∀ b o, s.heap.get? b = some o → h'.get? b = some o) → Q (.ref (s.heap.objs.size + 1)) { s with heap := h' }) :
    wpAny (model prog w) A (call (.type "enumerate") [.ref l]) Q E s := by
  obtain ⟨⟨c, dct, dt, sl⟩, hl, hc, n, hd⟩ := hL
  replace hc : c = .type "tuple" := hc
  replace hd : dt = .seq items n := hd
  subst hc hd
  refine callType_new F.called_enumerate (by decide) (F.typeCall_enumerate_1 _) (F.newCall_enumerate_1 _) (fun obj => F.args_object_init_2 obj _) F.entry_enumerate_new
    (meets_enumT l items n dct sl) ⟨hl, ?_⟩
  have hz : (s.heap.push { cls := .type "tuple_iterator", data := .fields #[.ref l, .int 0 0] }).objs.size = s.heap.objs.size + 1 := Heap.size_push ..
  show _ ∧ _
  rw [hz]
  have he : IsEnum ((s.heap.push { cls := .type "tuple_iterator", data := .fields #[.ref l, .int 0 0] }).push
      { cls := .type "enumerate", data := .fields #[.none, .bool false, .ref s.heap.objs.size, rawInt 0, .none, .none] }) (s.heap.objs.size + 1) s.heap.objs.size 0 .none := by
    have := Heap.get?_push_size (s.heap.push { cls := .type "tuple_iterator", data := .fields #[.ref l, .int 0 0] })
      (o := { cls := .type "enumerate", data := .fields #[.none, .bool false, .ref s.heap.objs.size, rawInt 0, .none, .none] }) rfl
    rw [hz] at this; exact this
  refine ⟨⟨_, he, rfl⟩, h _ he ⟨_, Heap.get?_push_of_some _ (Heap.get?_push_size _ rfl), rfl, rfl⟩ (by rw [Heap.size_push, hz]) fun b o x => Heap.get?_push_of_some _ (Heap.get?_push_of_some _ x)⟩
end
/-- the tuple at a, each item in a new pair -/
def IteT (K : PySem.W.Frag) (a : Addr) : It :=
  ⟨fun i H => ∃ (xs : List V) (x : V), SqT K H a xs ∧ xs[i]? = some x, fun i H v H' => ∃ T x, v = .ref T ∧ H T = none ∧ H' = upd H T (.tup [.int (i : Nat), x]) ∧ ∀ xs, SqT K H a xs → xs[i]? = some x, fun i H => ∃ xs : List V, SqT K H a xs ∧ xs.length = i⟩
theorem turn_enumT {P : Program} {w : World} {K : PySem.W.Frag} {elts : List Expr} {kk : Nat} {tpos : Pos} (a e it : Addr) (hae : a ≠ e) (hai : a ≠ it) :
    Turn P w K (.Tuple elts kk tpos) (IteT K a) [e, it] e (fun i h => (∃ old, IsEnum h e it ((i : Nat) : Int) old) ∧ h.IsTupleIter it a i ∧ e ≠ it) where
  mem := by simp
  obj := fun i h st b hb => by
    obtain ⟨⟨old, he⟩, ⟨o, ho, hc, hd⟩, _⟩ := st
    have e' : b = e ∨ b = it := by simpa using hb
    rcases e' with z | z
    · rw [z]; exact ⟨_, he, fun v q => nomatch q⟩
    · rw [z]; exact ⟨o, ho, fun v q => by rw [hd] at q; cases q⟩
  keep := fun i h h' st k => let ⟨⟨old, he⟩, hi, hne⟩ := st; ⟨⟨old, k e (by simp) _ he⟩, hi.at fun o q => k it (by simp) o q, hne⟩
  item := by
    intro X hP hw hK hc i pins s σ H E I hf st hg
    subst hP hw hK
    obtain ⟨⟨old, he⟩, hit, hne⟩ := st
    obtain ⟨xs, x, hq, hx⟩ := hg
    obtain ⟨its, rv, p, hz⟩ := I.tuple hq
    obtain ⟨u, hu, ru⟩ := rv.get hx
    have hel : e < s.heap.objs.size := Heap.lt_size he
    have hil : it < s.heap.objs.size := by obtain ⟨_, q, _⟩ := hit; exact Heap.lt_size q
    have hh : X.A.in1.handled = none := I.ok.hd hc
    have D := Draws.tuple (prog := X.prog) (w := X.w) (A := X.A.in1) hh it a hai its.toArray
    have hlt : i < its.toArray.size := by
      rw [List.size_toArray]
      exact (List.getElem?_eq_some_iff.mp hu).1
    refine wpAny_pyNext_enum_itemD D he ⟨hit, p⟩ hlt hne (by simp [hne, Ne.symm hae]) fun y h' tk hy ho hit' hT hsz hk => ?_
    obtain rfl : u = y := by
      have hy : its.toArray[i]? = some y := hy
      have : its[i]? = some y := by simpa using hy
      rw [hu] at this
      exact Option.some.inj this
    refine ⟨_, rfl, wpAny_letOwnedTupleGo_enum (s := { s with heap := h', toks := tk + 1 }) ho fun h'' he' sb => ?_⟩
    have hT2 : h''.get? s.heap.objs.size = some { cls := .type "tuple", data := .seq #[.int i tk, u] } := (sb.2 _ (Nat.ne_of_gt hel)).trans hT
    have new : ObjOk X.prog X.w (upd H s.heap.objs.size (.tup [.int (i : Nat), x])) h'' s.heap.objs.size (.tup [.int (i : Nat), x]) :=
      ⟨by show 2 ≤ sizeLine; decide, [.int i tk, u], .cons ⟨_, rfl⟩ (.cons ru .nil), ⟨_, hT2, rfl, _, rfl⟩⟩
    have I1 : Inv X pins σ (upd H s.heap.objs.size (.tup [.int (i : Nat), x])) { s with heap := h'', toks := tk + 1 } :=
      I.turnedNew (ch := [e, it]) (fun b ob hb q => (sb.2 b (fun z => hb (by simp [z]))).trans (hk b ob (fun z => hb (by simp [z])) (fun z => hb (by simp [z])) q)) hf (Nat.le_refl _) new
    refine ⟨.ref s.heap.objs.size, _, I1, rfl, ⟨_, x, rfl, I.hok.fresh (Nat.le_refl _), rfl, fun ys hy => by rw [I.tuple_inj hy hq]; exact hx⟩, ⟨⟨u, ?_⟩, hit'.1.at fun o q => (sb.2 it (Ne.symm hne)).trans q, hne⟩, fun b hb => ?_⟩
    · have e1 : ((i + 1 : Nat) : Int) = (i : Int) + 1 := by omega
      rw [e1]; exact he'
    · have hb' : b < s.heap.objs.size := by
        have e' : b = e ∨ b = it := by simpa using hb
        rcases e' with z | z
        · rw [z]; exact hel
        · rw [z]; exact hil
      rw [upd_ne (Nat.ne_of_lt hb')]
      exact (hf b hb).1
  done := by
    intro X hP hw hK hc i pins s σ H E I hf st hg
    subst hP hw hK
    obtain ⟨⟨old, he⟩, hit, hne⟩ := st
    obtain ⟨xs, hq, hx⟩ := hg
    obtain ⟨its, rv, p, hz⟩ := I.tuple hq
    obtain ⟨f0, f1, f2, f3, f4, f5⟩ := hf it (by simp)
    have hl := rv.length
    have hh : X.A.in1.handled = none := I.ok.hd hc
    have D := Draws.tuple (prog := X.prog) (w := X.w) (A := X.A.in1) hh it a hai its.toArray
    have hs : i = its.toArray.size := by
      rw [List.size_toArray]
      omega
    subst hs
    exact wpAny_pyNext_enum_endD D he ⟨hit, p⟩ fun h' eb => ⟨rfl, I.turned (t' := s.toks) (fun b o hb q => eb b o hb q) f0 f1 f3 f4 f5⟩
  self := fun A i s Q E st h => let ⟨⟨_, he⟩, _⟩ := st; wpAny_pyIter_enum he h
def iEnT (K : PySem.W.Frag) (ta : TA) : TI := fun σ H R => ta σ H fun vs H1 => ∃ a xs, vs = [.ref a] ∧ SqT K H1 a xs ∧ R (IteT K a) H1
theorem pi_enumT {X : Cx} {e : Expr} {ta : TA} {p pos tpos : Pos} {elts : List Expr} {kk : Nat} (hg : Gl X "enumerate") (hm : X.mg "enumerate" = none) (ha : PA X [e] ta) (hs : starEach [e] X.env = [(false, eval e X.env)] := by rfl) :
    PI X (.Tuple elts kk tpos) (.Call (.Name "enumerate" p) [e] [] pos) (iEnT X.K ta) := by
  refine ⟨fun pins s σ H R I h => ?_⟩
  refine Call_ (ld_blt I hg hm boot_enumerate (PyProof.Rows.callWith_type1 (thn (ha.run pos pins s σ H _ I h) fun us s1 ⟨vs, H1, I1, r1, q1⟩ => ?_) hs rfl))
  obtain ⟨a, xs, ex, hq, q⟩ := q1
  subst ex
  cases r1 with
  | cons r rr =>
    cases rr
    cases r
    obtain ⟨its, rv, p', hz⟩ := I1.tuple hq
    have hlt : a < s1.heap.objs.size := by
      obtain ⟨o, ho, _⟩ := id p'
      exact Heap.lt_size ho
    refine call_enumT (show s1.heap.IsTuple a its.toArray from p') fun h' he hit hsz hk => wpAny_pyIter_enum he ?_
    have I2 : Inv X pins σ H1 { s1 with heap := h' } := I1.kept (t' := s1.toks) hk
    refine ⟨s1.heap.objs.size + 1, [s1.heap.objs.size + 1, s1.heap.objs.size], _, _, H1, rfl, I2, turn_enumT a (s1.heap.objs.size + 1) s1.heap.objs.size (Nat.ne_of_lt (Nat.lt_succ_of_lt hlt)) (Nat.ne_of_lt hlt), ⟨⟨.none, he⟩, hit, Nat.succ_ne_self _⟩, fun b hb => ?_, q⟩
    have e' : b = s1.heap.objs.size + 1 ∨ b = s1.heap.objs.size := by simpa using hb
    have hle : s1.heap.objs.size ≤ b := by
      rcases e' with z | z
      · rw [z]; exact Nat.le_add_right _ _
      · rw [z]; exact Nat.le_refl _
    exact I1.fpOk hle (I1.hok.fresh hle)
end De
end

section
set_option maxHeartbeats 4000000
namespace De
open PySem PySem.Spec PyProof.Rows L2

section
variable {X : Cx} {G : Pg} {k : Nat} {N : List Str} {sc : Scope} {x y z : Expr} {a b c : FV} {fi fi2 : FI} {p pos ap p1 p2 p3 : Pos}
theorem r_rev {j : Nat} (ha : PE X x (wV X.K a)) : PE X (.Subscript x (.Slice none none (some (.UnaryOp .USub (.Constant (.int 1) j p1) p2)) p3) pos) (wV X.K (vRev a)) := by
  refine (pe_revL ha).imp fun σ H Q ⟨Y, e, F, r, e', ok, ev, q⟩ => ?_
  obtain ⟨r1, xs, h1, h2, rfl⟩ := inv_rev ev
  refine ⟨Y, e, F, r1, e', ok, h1, fun v F1 H1 ok1 st1 rv1 => ?_⟩
  obtain ⟨p, vs, rfl, hp, ra⟩ := (rv1.view ok1 h2).list ok1.sub
  exact ⟨p, vs, rfl, SqL.of hp, fun p' hp' => res_of (r := .own xs.reverse) ok1 st1 (fun _ z => nomatch z) q p' _ hp' ra.reverse⟩
/-! ### built-ins -/
theorem boot_bl (b : Blt) : bootBuiltins (Str.ofString (nmB b)) = some (valB b) := by
  cases b <;> decide +kernel
theorem nm_in (b : Blt) : Str.ofString (nmB b) ∈ bltNames := by
  cases b <;> decide +kernel
theorem nm_ne (b : Blt) : Str.ofString (nmB b) ≠ ("__name__" : Str) := by
  cases b <;> decide +kernel
/-- a call of a built-in, function or type -/
theorem pe_blt (C : Cy G k N X sc) {bl : Blt} {e : Expr} {es : List Expr} {t : TA} (hg : glO sc (Str.ofString (nmB bl)) = true) (ha : PA X (e :: es) t) (hs : (e :: es).all notStar = true) :
    PE X (.Call (.Name (Str.ofString (nmB bl)) p) (e :: es) [] pos) (tCB (rBl X.K bl) t) := by
  obtain ⟨g1, g2⟩ := C.gl' hg
  have hc := cb C.calm bl (X := X)
  have hb := boot_bl bl
  rw [List.all_cons, Bool.and_eq_true] at hs
  unfold valB at hc hb
  by_cases q : isTy bl = true
  · rw [if_pos q] at hc hb
    exact pe_callTy hc g1 (C.free _ (nm_in bl)) hb ha (nm_ne bl) g2 (starPlain hs.1) (backAll hs.2)
  · rw [if_neg q] at hc hb
    exact pe_callB hc g1 (C.free _ (nm_in bl)) hb ha (nm_ne bl) g2 (starPlain hs.1) (backAll hs.2)
theorem blt_loc {bl : Blt} {ds : List PyData} {i : Nat} : blt bl ds ≠ some (.loc i) := fun h => by
  unfold blt at h
  repeat' split at h
  all_goals cases h
theorem r_blt (C : Cy G k N X sc) {bl : Blt} (hg : glO sc (Str.ofString (nmB bl)) = true) (ha : PE X x (wV X.K a)) (hs : notStar x = true) :
    PE X (.Call (.Name (Str.ofString (nmB bl)) p) [x] [] pos) (wV X.K (vBlt bl a)) := by
  refine (pe_blt C hg (pa_cons ha pa_nil (starPlain hs)) (by rw [List.all_cons, hs]; rfl)).imp fun σ H Q ⟨Y, e, F, r, e', ok, ev, q⟩ => ?_
  obtain ⟨r1, d, h1, h2, h3⟩ := inv_blt ev
  refine ⟨Y, e, F, r1, e', ok, h1, fun v F1 H1 ok1 st1 rv1 => ?_⟩
  exact ⟨F1, [d], r, ok1.sub, .cons (rv1.view ok1 h2) .nil, h3, res_of ok1 st1 (fun i z => blt_loc (z ▸ h3)) q⟩
theorem r_blt2 (C : Cy G k N X sc) {bl : Blt} (hg : glO sc (Str.ofString (nmB bl)) = true) (ha : PE X x (wV X.K a)) (hb : PE X y (wV X.K b)) (hs : notStar x = true) (hs2 : notStar y = true) :
    PE X (.Call (.Name (Str.ofString (nmB bl)) p) [x, y] [] pos) (wV X.K (vBlt2 bl a b)) := by
  refine (pe_blt C hg (pa_cons ha (pa_cons hb pa_nil (starPlain hs2)) (starPlain hs)) (by rw [List.all_cons, List.all_cons, hs, hs2]; rfl)).imp fun σ H Q ⟨Y, e, F, r, e', ok, ev, q⟩ => ?_
  obtain ⟨d1, e1, d2, h1, h2, h3⟩ := inv_blt2 ev
  refine ⟨Y, e, F, _, e1, ok, h1, fun v F1 H1 ok1 st1 rv1 => ⟨Y, e1, F1, _, e', ok1, h2, fun u F2 H2 ok2 st2 rv2 => ?_⟩⟩
  exact ⟨F2, [d1, d2], r, ok2.sub, .cons (.inl (Rp.mono st2.grow rv1)) (.cons (.inl rv2) .nil), h3, res_of ok2 (st1.trans st2) (fun i z => blt_loc (z ▸ h3)) q⟩
/-! ### isinstance, tuple(reversed(..)) -/
theorem boot_isT (t : Ist) : bootBuiltins (Str.ofString (nmI t)) = some (.type (nmI t)) := by
  cases t <;> decide +kernel
theorem nm_inI (t : Ist) : Str.ofString (nmI t) ∈ bltNames := by
  cases t <;> decide +kernel
theorem nm_neI (t : Ist) : Str.ofString (nmI t) ≠ ("__name__" : Str) := by
  cases t <;> decide +kernel
theorem isi_view {K : PySem.W.Frag} {F H : Hp} {v : V} {d : PyData} {t : Ist} {k : Bool} (sb : Sub F H) (vw : Vw K F H v d) (h : isT t d = some k) : ∃ T : String, TyX K H v (.type T) ∧ kitB T (nmI t) = some k := by
  have rp := vw.rp sb
  cases d with
  | none =>
    cases rp
    refine ⟨"NoneType", .base .non, ?_⟩
    cases t <;> (cases h; decide +kernel)
  | bool b =>
    cases rp
    refine ⟨"bool", .base (.bl _), ?_⟩
    cases t <;> (cases h; decide +kernel)
  | int b =>
    cases rp
    refine ⟨"int", .base (.int _), ?_⟩
    cases t <;> (cases h; decide +kernel)
  | str b =>
    cases rp
    refine ⟨"str", .base (.str _), ?_⟩
    cases t <;> (cases h; decide +kernel)
  | list xs =>
    obtain ⟨p, vs, rfl, hp, _⟩ := vw.list sb
    refine ⟨"list", .base (.lst hp), ?_⟩
    cases t <;> (cases h; decide +kernel)
  | tuple xs =>
    obtain ⟨p, vs, rfl, hp, _⟩ := vw.tup sb
    refine ⟨"tuple", ?_, ?_⟩
    · rcases hp with (hp | ⟨o, hp⟩) | ⟨o, its, n, hk, hc, _⟩
      · exact .base (.tup hp)
      · exact .fTuple hp
      · exact .kTuple hk hc
    · cases t <;> (cases h; decide +kernel)
  | dict xs => cases t <;> cases h
theorem r_isi (C : Cy G k N X sc) {t : Ist} (hg : glO sc ("isinstance" : Str) = true) (hg2 : glO sc (Str.ofString (nmI t)) = true) (ha : PE X x (wV X.K a)) (hs : notStar x = true) :
    PE X (.Call (.Name "isinstance" p) [x, .Name (Str.ofString (nmI t)) p2] [] pos) (wV X.K (vIsi t a)) := by
  obtain ⟨g1, g2⟩ := C.gl' hg
  obtain ⟨g3, g4⟩ := C.gl' hg2
  have hn : PE X (.Name (Str.ofString (nmI t)) p2) (tC (.ty (nmI t))) := pe_bltn g3 (C.free _ (nm_inI t)) (boot_isT t) rfl (nm_neI t) g4
  refine (pe_callB call_isi g1 (C.free _ (by decide +kernel)) PyProof.Rows.boot_isinstance (pa_cons ha (pa_cons hn pa_nil) (starPlain hs)) (by decide) g2 (starPlain hs) (backAll rfl)).imp fun σ H Q ⟨Y, e, F, r, e', ok, ev, q⟩ => ?_
  obtain ⟨r1, d, kk, rfl, h1, h2, h3⟩ := inv_isi ev
  refine ⟨Y, e, F, r1, e', ok, h1, fun v F1 H1 ok1 st1 rv1 => ?_⟩
  obtain ⟨T, ty, kt⟩ := isi_view ok1.sub (rv1.view ok1 h2) h3
  exact ⟨v, .ty (nmI t), .type T, .type (nmI t), kk, rfl, .ty _, ty, kit_ty kt, q _ F1 H1 ok1 st1 (.bl _)⟩
theorem r_tupRev (C : Cy G k N X sc) (hg : glO sc ("tuple" : Str) = true) (hg2 : glO sc ("reversed" : Str) = true) (ha : PE X x (wV X.K a)) (hs : notStar x = true) :
    PE X (.Call (.Name "tuple" p) [.Call (.Name "reversed" p2) [x] [] p3] [] pos) (wV X.K (vTupRev a)) := by
  refine (RT.pe_tupRev C.calm (C.gl' hg).1 (C.free _ (by decide +kernel)) (C.gl' hg2).1 (C.free _ (by decide +kernel)) ha (starPlain hs) rfl).imp fun σ H Q ⟨Y, e, F, r, e', ok, ev, q⟩ => ?_
  obtain ⟨r1, xs, h1, h2, rfl⟩ := inv_tupRev ev
  refine ⟨Y, e, F, r1, e', ok, h1, fun v F1 H1 ok1 st1 rv1 => ?_⟩
  obtain ⟨p, vs, rfl, hp, ra⟩ := (rv1.view ok1 h2).list ok1.sub
  exact ⟨p, vs, rfl, SqL.of hp, fun p' hp' => (res_of (r := .d (.tuple xs.reverse)) ok1 st1 (fun _ z => nomatch z) q).newT ok1.sub hp' ra.reverse⟩
/-! ### pop -/
theorem last_rp {K : PySem.W.Frag} {F : Hp} {vs : List V} {xs : List PyData} {d : PyData} (r : RpA K F vs xs) (h : xs[xs.length - 1]? = some d) : ∃ v, vs[vs.length - 1]? = some v ∧ Rp K F v d := by
  rw [r.length]
  exact r.get h
theorem few0 {env : Env} {cpos : Pos} {e : Expr} (h : notStar e = true) : ((backTo cpos (starEach [e] env)).all (fun x => !x.1) && (backToKw cpos (keywordEach [] env)).all (fun x => x.1.isSome)
      && decide ([e].length + ([] : List Keyword).length + (if ([] : List Keyword).isEmpty then 0 else 1) < 30)) = true := by
  rw [starPlain h]
  rfl
theorem r_pop {i : Nat} (ho : PE X x (tVar i)) (hb : notCall0 x = true) (hl : (ap.endLine == pos.line) = true) : PE X (.Call (.Attribute x "pop" ap) [] [] pos) (wV X.K (vPop i)) := by
  refine (pe_bm0 PySem.F.plainAttrs_list PySem.F.slot_list_pop PySem.F.type_list_pop mt_pop ho (basePlain hb) hl).imp fun σ H Q ⟨Y, e, F, r, e', ok, ev, q⟩ => ?_
  obtain ⟨bb, xs, d, rfl, h1, h2, rfl⟩ := inv_pop ev
  obtain ⟨p, vs, h3, h4, h5, h6, h7⟩ := ok.ow i bb xs h1
  obtain ⟨v, h8, h9⟩ := last_rp h6 h2
  obtain ⟨w1, w2⟩ := ok.write h1 h3 h6.dropLast
  exact ⟨_, h3, .inl ⟨rfl, vs, SqL.of h4⟩, p, vs, v, rfl, rfl, h4, h8, q v F _ w1 w2 h9⟩
theorem ixN_seqN {n : Nat} {k : Int} {j : Nat} (h : ixN n k = some j) : seqIndex? k n = some j := (ixN_seq h).1
theorem r_popAt {i : Nat} (ho : PE X x (tVar i)) (ha : PE X y (wV X.K a)) (hb : notCall0 x = true) (hl : (ap.endLine == pos.line) = true) (hs : notStar y = true) : PE X (.Call (.Attribute x "pop" ap) [y] [] pos) (wV X.K (vPopAt i a)) := by
  refine (pe_bm PySem.F.plainAttrs_list PySem.F.slot_list_pop PySem.F.type_list_pop mt_popAt ho (pa_cons ha pa_nil (starPlain hs)) (basePlain hb) (few0 hs) hl (starPlain hs) rfl).imp fun σ H Q ⟨Y, e, F, r, e', ok, ev, q⟩ => ?_
  obtain ⟨kk, e1, bb, xs, j, d, rfl, h1, h2, h3, h4, h5, rfl⟩ := inv_popAt ev
  rw [Bool.and_eq_true] at h5
  have hown : ∃ b0 xs0, e[i]? = some (Sv.ow b0 xs0) ∧ ∃ p, σ[i]? = some (some (V.ref p)) ∧ ∃ vs, H p = some (.lst vs) := by
    obtain ⟨b0, xs0, g⟩ := inv_isOw h5.2
    obtain ⟨p, vs, g1, g2, _⟩ := ok.ow i _ _ g
    exact ⟨b0, xs0, g, p, g1, vs, g2⟩
  replace h5 := h5.1
  obtain ⟨b0, xs0, g1, p, g2, vs0, g3⟩ := hown
  refine ⟨_, g2, .inl ⟨rfl, vs0, SqL.of g3⟩, Y, e, F, _, e1, ok, h1, fun u F1 H1 ok1 st1 rv1 => ?_⟩
  cases rv1
  obtain ⟨p', vs, q3, q4, q5, q6, q7⟩ := ok1.ow i bb xs h2
  rw [g2] at q3
  cases q3
  obtain ⟨v, h8, h9⟩ := q6.get h4
  obtain ⟨w1, w2⟩ := ok1.write h2 g2 (q6.eraseIdx j)
  have hk := ixN_seqN h3
  rw [← q6.length] at hk
  unfold rngOk at h5
  simp only [decide_eq_true_eq] at h5
  exact ⟨p, vs, kk, j, v, rfl, rfl, q4, by omega, by omega, hk, h8, q v F1 _ w1 (st1.trans w2) h9⟩
/-! ### ranges -/
theorem rngL_get (lo c : Int) : ∀ (n i j : Nat), j < n → (rngL lo c i n)[j]? = some (.int (lo + ((i + j : Nat) : Int) * c))
  | 0, _, _, h => absurd h (Nat.not_lt_zero _)
  | n + 1, i, 0, _ => rfl
  | n + 1, i, j + 1, h => by
    show (rngL lo c (i + 1) n)[j]? = _
    rw [rngL_get lo c n (i + 1) j (Nat.lt_of_succ_lt_succ h)]
    congr 5
    omega
theorem rngL_len (lo c : Int) : ∀ (n i : Nat), (rngL lo c i n).length = n
  | 0, _ => rfl
  | n + 1, i => congrArg Nat.succ (rngL_len lo c n (i + 1))
theorem jok_rng {K : PySem.W.Frag} {F : Hp} {lo : Int} {n : Nat} : JOk K F (Itr lo n) (rngL lo 1 0 n) where
  go := fun i H h _ => by
    rw [rngL_len] at h
    exact h
  stop := fun H _ => by
    rw [rngL_len]
    exact Nat.le_refl _
  yld := fun i Fc H x H' hi s1 s2 y => by
    obtain ⟨e, y⟩ := y
    subst e y
    rw [rngL_len] at hi
    refine ⟨_, Fc, rngL_get lo 1 n 0 i hi, Gr.refl s2, ?_⟩
    rw [Int.mul_one, Nat.zero_add]
    exact .int _
theorem jok_rngC {K : PySem.W.Frag} {F : Hp} {lo c : Int} {n : Nat} : JOk K F (Itc lo c n) (rngL lo c 0 n) where
  go := fun i H h _ => by
    rw [rngL_len] at h
    exact h
  stop := fun H _ => by
    rw [rngL_len]
    exact Nat.le_refl _
  yld := fun i Fc H x H' hi s1 s2 y => by
    obtain ⟨e, y⟩ := y
    subst e y
    rw [rngL_len] at hi
    refine ⟨_, Fc, rngL_get lo c n 0 i hi, Gr.refl s2, ?_⟩
    rw [Nat.zero_add]
    exact .int _
theorem r_rng1 (C : Cy G k N X sc) {tg : Expr} (hg : glO sc "range" = true) (ha : PE X x (wV X.K a)) (hs : notStar x = true) : PI X tg (.Call (.Name "range" p) [x] [] pos) (wI X.K (De.iRng1 a)) := by
  refine (pi_range1 (C.gl' hg).1 (C.free _ (by decide +kernel)) (pa_cons ha pa_nil (starPlain hs)) (starPlain hs)).imp fun σ H R ⟨Y, e, F, ds, e', ok, ev, q⟩ => ?_
  obtain ⟨n, h1, h2, rfl⟩ := inv_rng1 ev
  refine ⟨Y, e, F, _, e', ok, h1, fun v F1 H1 ok1 st1 rv1 => ?_⟩
  cases rv1
  unfold rngOk at h2
  simp only [decide_eq_true_eq] at h2
  exact ⟨n, rfl, by omega, by omega, q _ F1 H1 ok1 st1 jok_rng⟩
theorem r_rng2 (C : Cy G k N X sc) {tg : Expr} (hg : glO sc "range" = true) (ha : PE X x (wV X.K a)) (hb : PE X y (wV X.K b)) (hs : notStar x = true) (hs2 : notStar y = true) : PI X tg (.Call (.Name "range" p) [x, y] [] pos) (wI X.K (De.iRng2 a b)) := by
  refine (pi_range2 (C.gl' hg).1 (C.free _ (by decide +kernel)) (pa_cons ha (pa_cons hb pa_nil (starPlain hs2)) (starPlain hs)) (by rw [starPlain hs, starPlain hs2]; rfl) (by rw [starPlain hs2]; rfl)).imp fun σ H R ⟨Y, e, F, ds, e', ok, ev, q⟩ => ?_
  obtain ⟨m, e1, n, h1, h2, h3, rfl⟩ := inv_rng2 ev
  refine ⟨Y, e, F, _, e1, ok, h1, fun v F1 H1 ok1 st1 rv1 => ⟨Y, e1, F1, _, e', ok1, h2, fun u F2 H2 ok2 st2 rv2 => ?_⟩⟩
  cases rv1
  cases rv2
  unfold rngOk at h3
  simp only [Bool.and_eq_true, decide_eq_true_eq] at h3
  exact ⟨m, n, rfl, by omega, q _ F2 H2 ok2 (st1.trans st2) jok_rng⟩
theorem r_rng3 (C : Cy G k N X sc) {tg : Expr} (hg : glO sc "range" = true) (ha : PE X x (wV X.K a)) (hb : PE X y (wV X.K b)) (hc : PE X z (wV X.K c)) (hs : notStar x = true) (hs2 : notStar y = true) (hs3 : notStar z = true) :
    PI X tg (.Call (.Name "range" p) [x, y, z] [] pos) (wI X.K (De.iRng3 a b c)) := by
  refine (pi_range3 (C.gl' hg).1 (C.free _ (by decide +kernel)) (pa_cons ha (pa_cons hb (pa_cons hc pa_nil (starPlain hs3)) (starPlain hs2)) (starPlain hs)) (starPlain hs) (backAll (by rw [List.all_cons, List.all_cons, hs2, hs3]; rfl))).imp fun σ H R ⟨Y, e, F, ds, e', ok, ev, q⟩ => ?_
  obtain ⟨m, e1, n, e2, kk, h1, h2, h3, h4, rfl⟩ := inv_rng3 ev
  refine ⟨Y, e, F, _, e1, ok, h1, fun v F1 H1 ok1 st1 rv1 => ⟨Y, e1, F1, _, e2, ok1, h2, fun u F2 H2 ok2 st2 rv2 => ⟨Y, e2, F2, _, e', ok2, h3, fun w F3 H3 ok3 st3 rv3 => ?_⟩⟩⟩
  cases rv1
  cases rv2
  cases rv3
  unfold rng3Ok at h4
  simp only [Bool.and_eq_true, decide_eq_true_eq] at h4
  obtain ⟨⟨⟨g1, g2⟩, g3⟩, g4⟩ := h4
  exact ⟨m, n, kk, _, rfl, ⟨g1, g2, g3, (Int.toNat_of_nonneg g4).symm⟩, q _ F3 H3 ok3 ((st1.trans st2).trans st3) jok_rngC⟩
/-! ### enumerate, zip, reversed -/
theorem enumL_len : ∀ (xs : List Dt) (i : Nat), (enumL i xs).length = xs.length
  | [], _ => rfl
  | _ :: xs, i => congrArg Nat.succ (enumL_len xs (i + 1))
theorem enumL_get : ∀ (xs : List Dt) (i j : Nat) (d : Dt), xs[j]? = some d → (enumL i xs)[j]? = some (.tuple [.int ((i + j : Nat) : Int), d])
  | [], _, _, _, h => by simp at h
  | _ :: xs, i, 0, d, h => by
    simp at h
    subst h
    rfl
  | _ :: xs, i, j + 1, d, h => by
    show (enumL (i + 1) xs)[j]? = _
    rw [enumL_get xs (i + 1) j d (by simpa using h), show i + 1 + j = i + (j + 1) by omega]
theorem zipL_len : ∀ (xs ys : List Dt), (zipL xs ys).length = min xs.length ys.length
  | [], ys => by simp [zipL]
  | _ :: xs, [] => by simp [zipL]
  | _ :: xs, _ :: ys => by
    show (zipL xs ys).length + 1 = _
    rw [zipL_len xs ys]
    simp only [List.length_cons]
    omega
theorem zipL_get : ∀ (xs ys : List Dt) (j : Nat) (d d' : Dt), xs[j]? = some d → ys[j]? = some d' → (zipL xs ys)[j]? = some (.tuple [d, d'])
  | [], _, _, _, _, h, _ => by simp at h
  | _ :: _, [], _, _, _, _, h => by simp at h
  | _ :: xs, _ :: ys, 0, d, d', h, h' => by
    simp at h h'
    subst h h'
    rfl
  | _ :: xs, _ :: ys, j + 1, d, d', h, h' => zipL_get xs ys j d d' (by simpa using h) (by simpa using h')
/-- a new pair, as data -/
theorem new_pair {K : PySem.W.Frag} {Fc H : Hp} {T : Addr} {v w : V} {d d' : PyData} (s : Sub Fc H) (hT : H T = none) (h1 : Rp K Fc v d) (h2 : Rp K Fc w d') :
    Gr Fc H (upd Fc T (.tup [v, w])) (upd H T (.tup [v, w])) ∧ Rp K (upd Fc T (.tup [v, w])) (.ref T) (.tuple [d, d']) :=
  have g := sub_upd (o := .tup [v, w]) (sub_none s hT)
  ⟨Gr.both s hT, .tup (.inl (.inl upd_same)) (.cons (h1.mono g) (.cons (h2.mono g) .nil))⟩
theorem jok_enum {K : PySem.W.Frag} {F : Hp} {p : Addr} {vs : List V} {ds : List PyData} (hp : F p = some (.lst vs)) (ra : RpA K F vs ds) : JOk K F (Ite K p) (enumL 0 ds) where
  go := fun i H hi sb => by
    rw [enumL_len] at hi
    obtain ⟨v, hv⟩ : ∃ v, vs[i]? = some v := ⟨_, List.getElem?_eq_getElem (by rw [ra.length]; exact hi)⟩
    exact ⟨vs, v, SqL.of (sb _ _ hp), hv⟩
  stop := fun H sb => ⟨vs, SqL.of (sb _ _ hp), by rw [enumL_len]; exact Nat.le_of_eq ra.length⟩
  yld := fun i Fc H x H' hi s1 s2 y => by
    obtain ⟨T, v, rfl, hT, rfl, y⟩ := y
    obtain ⟨d, h1, h2⟩ := ra.getV (y _ (SqL.of (s2 _ _ (s1 _ _ hp))))
    obtain ⟨g1, g2⟩ := new_pair s2 hT (.int (i : Nat)) (h2.mono s1)
    have h3 := enumL_get ds 0 i d h1
    rw [Nat.zero_add] at h3
    exact ⟨_, _, h3, g1, g2⟩
theorem jok_enumT {K : PySem.W.Frag} {F : Hp} {p : Addr} {vs : List V} {ds : List PyData} (hp : SqT K F p vs) (ra : RpA K F vs ds) : JOk K F (IteT K p) (enumL 0 ds) where
  go := fun i H hi sb => by
    rw [enumL_len] at hi
    obtain ⟨v, hv⟩ : ∃ v, vs[i]? = some v := ⟨_, List.getElem?_eq_getElem (by rw [ra.length]; exact hi)⟩
    exact ⟨vs, v, sb.sqT hp, hv⟩
  stop := fun H sb => ⟨vs, sb.sqT hp, by rw [enumL_len]; exact ra.length⟩
  yld := fun i Fc H x H' hi s1 s2 y => by
    obtain ⟨T, v, rfl, hT, rfl, y⟩ := y
    obtain ⟨d, h1, h2⟩ := ra.getV (y _ (s2.sqT (s1.sqT hp)))
    obtain ⟨g1, g2⟩ := new_pair s2 hT (.int (i : Nat)) (h2.mono s1)
    have h3 := enumL_get ds 0 i d h1
    rw [Nat.zero_add] at h3
    exact ⟨_, _, h3, g1, g2⟩
theorem jok_zip {K : PySem.W.Frag} {F : Hp} {p q : Addr} {vs ws : List V} {ds es : List PyData} (hp : F p = some (.lst vs)) (ra : RpA K F vs ds) (hq : F q = some (.lst ws)) (rb : RpA K F ws es) : JOk K F (Itz K p q) (zipL ds es) where
  go := fun i H hi sb => by
    rw [zipL_len] at hi
    have l1 := ra.length
    have l2 := rb.length
    exact ⟨vs, ws, vs[i]'(by omega), ws[i]'(by omega), SqL.of (sb _ _ hp), SqL.of (sb _ _ hq), List.getElem?_eq_getElem _, List.getElem?_eq_getElem _⟩
  stop := fun H sb => ⟨vs, ws, SqL.of (sb _ _ hp), SqL.of (sb _ _ hq), by
    rw [zipL_len]
    have l1 := ra.length
    have l2 := rb.length
    omega⟩
  yld := fun i Fc H x H' hi s1 s2 y => by
    obtain ⟨T, v, w, rfl, hT, rfl, y1, y2⟩ := y
    obtain ⟨d, h1, h2⟩ := ra.getV (y1 _ (SqL.of (s2 _ _ (s1 _ _ hp))))
    obtain ⟨d', h1', h2'⟩ := rb.getV (y2 _ (SqL.of (s2 _ _ (s1 _ _ hq))))
    obtain ⟨g1, g2⟩ := new_pair s2 hT (h2.mono s1) (h2'.mono s1)
    exact ⟨_, _, zipL_get ds es i d d' h1 h1', g1, g2⟩
theorem jok_zipT {K : PySem.W.Frag} {F : Hp} {p q : Addr} {vs ws : List V} {ds es : List PyData} (hp : SqT K F p vs) (ra : RpA K F vs ds) (hq : SqT K F q ws) (rb : RpA K F ws es) : JOk K F (RZ.ItzT K p q) (zipL ds es) where
  go := fun i H hi sb => by
    rw [zipL_len] at hi
    have l1 := ra.length
    have l2 := rb.length
    exact ⟨vs, ws, vs[i]'(by omega), ws[i]'(by omega), sb.sqT hp, sb.sqT hq, List.getElem?_eq_getElem _, List.getElem?_eq_getElem _⟩
  stop := fun H sb => ⟨vs, ws, sb.sqT hp, sb.sqT hq, by
    rw [zipL_len]
    have l1 := ra.length
    have l2 := rb.length
    omega⟩
  yld := fun i Fc H x H' hi s1 s2 y => by
    obtain ⟨T, v, w, rfl, hT, rfl, y1, y2⟩ := y
    obtain ⟨d, h1, h2⟩ := ra.getV (y1 _ (s2.sqT (s1.sqT hp)))
    obtain ⟨d', h1', h2'⟩ := rb.getV (y2 _ (s2.sqT (s1.sqT hq)))
    obtain ⟨g1, g2⟩ := new_pair s2 hT (h2.mono s1) (h2'.mono s1)
    exact ⟨_, _, zipL_get ds es i d d' h1 h1', g1, g2⟩
theorem jok_rev {K : PySem.W.Frag} {F : Hp} {p : Addr} {vs : List V} {ds : List PyData} (hp : F p = some (.lst vs)) (ra : RpA K F vs ds) : JOk K F (Itv K p vs.length) ds.reverse where
  go := fun i H hi sb => by
    rw [List.length_reverse, ← ra.length] at hi
    exact ⟨hi, vs, vs[vs.length - 1 - i]'(by omega), SqL.of (sb _ _ hp), List.getElem?_eq_getElem _⟩
  stop := fun H sb => by
    show vs.length ≤ _
    rw [List.length_reverse]
    exact Nat.le_of_eq ra.length
  yld := fun i Fc H x H' hi s1 s2 y => by
    obtain ⟨rfl, y⟩ := y
    rw [List.length_reverse] at hi
    obtain ⟨d, h1, h2⟩ := ra.getV (y _ (SqL.of (s2 _ _ (s1 _ _ hp))))
    refine ⟨d, Fc, ?_, Gr.refl s2, h2.mono s1⟩
    rw [List.getElem?_reverse hi, ← ra.length]
    exact h1
theorem jok_revT {K : PySem.W.Frag} {F : Hp} {p : Addr} {vs : List V} {ds : List PyData} (hp : SqT K F p vs) (ra : RpA K F vs ds) : JOk K F (RT.ItvT K p vs.length) ds.reverse where
  go := fun i H hi sb => by
    rw [List.length_reverse, ← ra.length] at hi
    exact ⟨hi, vs, vs[vs.length - 1 - i]'(by omega), sb.sqT hp, List.getElem?_eq_getElem _⟩
  stop := fun H sb => by
    show vs.length ≤ _
    rw [List.length_reverse]
    exact Nat.le_of_eq ra.length
  yld := fun i Fc H x H' hi s1 s2 y => by
    obtain ⟨rfl, y⟩ := y
    rw [List.length_reverse] at hi
    obtain ⟨d, h1, h2⟩ := ra.getV (y _ (s2.sqT (s1.sqT hp)))
    refine ⟨d, Fc, ?_, Gr.refl s2, h2.mono s1⟩
    rw [List.getElem?_reverse hi, ← ra.length]
    exact h1
theorem tupOf {tg : Expr} (h : isTup tg = true) : ∃ es j q, tg = .Tuple es j q := by
  cases tg with
  | Tuple es j q => exact ⟨_, _, _, rfl⟩
  | _ => cases h
theorem r_enum (C : Cy G k N X sc) {tg : Expr} (ht : isTup tg = true) (hg : glO sc "enumerate" = true) (ha : PE X x (wV X.K a)) (hs : notStar x = true) : PI X tg (.Call (.Name "enumerate" p) [x] [] pos) (wI X.K (De.iEnum a)) := by
  obtain ⟨_, _, _, rfl⟩ := tupOf ht
  refine ((pi_enum (C.gl' hg).1 (C.free _ (by decide +kernel)) (pa_cons ha pa_nil (starPlain hs)) (starPlain hs)).or (pi_enumT (C.gl' hg).1 (C.free _ (by decide +kernel)) (pa_cons ha pa_nil (starPlain hs)) (starPlain hs))).imp fun σ H R ⟨Y, e, F, ds, e', ok, ev, q⟩ => ?_
  obtain ⟨r, e1, xs, h1, rfl, h2 | h2⟩ := inv_enum ev
  · refine .inl ⟨Y, e, F, r, e1, ok, h1, fun v F1 H1 ok1 st1 rv1 => ?_⟩
    obtain ⟨F2, ok2, st2, rp⟩ := frzd ok ok1 st1 rv1 h2
    cases rp with
    | lst hp ra => exact ⟨_, _, rfl, SqL.of (ok2.sub _ _ hp), q _ F2 _ ok2 st2 (jok_enum hp ra)⟩
  · refine .inr ⟨Y, e, F, r, e1, ok, h1, fun v F1 H1 ok1 st1 rv1 => ?_⟩
    obtain ⟨F2, ok2, st2, rp⟩ := frzd ok ok1 st1 rv1 h2
    cases rp with
    | tup hp ra => exact ⟨_, _, rfl, ok2.sub.sqT hp, q _ F2 _ ok2 st2 (jok_enumT hp ra)⟩
theorem r_zip (C : Cy G k N X sc) {tg : Expr} (ht : isTup tg = true) (hg : glO sc "zip" = true) (ha : PE X x (wV X.K a)) (hb : PE X y (wV X.K b)) (hs : notStar x = true) (hs2 : notStar y = true) : PI X tg (.Call (.Name "zip" p) [x, y] [] pos) (wI X.K (De.iZip a b)) := by
  obtain ⟨_, _, _, rfl⟩ := tupOf ht
  refine (RZ.pi_zipA (C.gl' hg).1 (C.free _ (by decide +kernel)) (pa_cons ha (pa_cons hb pa_nil (starPlain hs2)) (starPlain hs)) (starPlain hs) (backAll (by rw [List.all_cons, hs2]; rfl))).imp fun σ H R ⟨Y, e, F, ds, e', ok, ev, q⟩ => ?_
  obtain ⟨r, e1, d1, e2, r2, e3, d2, xs, ys, h1, h2, h3, h4, rfl, h5⟩ := inv_zip ev
  refine ⟨Y, e, F, r, e1, ok, h1, fun v F1 H1 ok1 st1 rv1 => ?_⟩
  obtain ⟨F2, ok2, st2, rp⟩ := frzd ok ok1 st1 rv1 h2
  refine ⟨Y, e2, F2, r2, e3, ok2, h3, fun u F3 H3 ok3 st3 rv3 => ?_⟩
  obtain ⟨F4, ok4, st4, rp4⟩ := frzd ok2 ok3 st3 rv3 h4
  have rp := rp.mono st4.grow
  rcases h5 with ⟨rfl, rfl⟩ | ⟨rfl, rfl⟩
  · cases rp with
    | lst hp ra => cases rp4 with
      | lst hq rb => exact ⟨_, _, _, _, rfl, .inl ⟨SqL.of (ok4.sub _ _ hp), SqL.of (ok4.sub _ _ hq), q _ F4 _ ok4 (st2.trans st4) (jok_zip hp ra hq rb)⟩⟩
  · cases rp with
    | tup hp ra => cases rp4 with
      | tup hq rb => exact ⟨_, _, _, _, rfl, .inr ⟨ok4.sub.sqT hp, ok4.sub.sqT hq, q _ F4 _ ok4 (st2.trans st4) (jok_zipT hp ra hq rb)⟩⟩
theorem r_revd (C : Cy G k N X sc) {tg : Expr} (hg : glO sc "reversed" = true) (ha : PE X x (wV X.K a)) (hs : notStar x = true) : PI X tg (.Call (.Name "reversed" p) [x] [] pos) (wI X.K (iRevd a)) := by
  refine (RT.pi_revA (C.gl' hg).1 (C.free _ (by decide +kernel)) ha (starPlain hs)).imp fun σ H R ⟨Y, e, F, ds, e', ok, ev, q⟩ => ?_
  obtain ⟨r, e1, xs, h1, rfl, h2 | h2⟩ := inv_revd ev
  · refine ⟨Y, e, F, r, e1, ok, h1, fun v F1 H1 ok1 st1 rv1 => ?_⟩
    obtain ⟨F2, ok2, st2, rp⟩ := frzd ok ok1 st1 rv1 h2
    cases rp with
    | lst hp ra => exact ⟨_, _, rfl, .inl ⟨SqL.of (ok2.sub _ _ hp), q _ F2 _ ok2 st2 (jok_rev hp ra)⟩⟩
  · refine ⟨Y, e, F, r, e1, ok, h1, fun v F1 H1 ok1 st1 rv1 => ?_⟩
    obtain ⟨F2, ok2, st2, rp⟩ := frzd ok ok1 st1 rv1 h2
    cases rp with
    | tup hp ra => exact ⟨_, _, rfl, .inr ⟨ok2.sub.sqT hp, q _ F2 _ ok2 st2 (jok_revT hp ra)⟩⟩
end
end De
end

section
set_option maxHeartbeats 4000000
namespace De
open PySem PySem.Spec PyProof.Rows L2

/-! ### slots by two states -/
structure Step2 (σ : L2.St) (e : En) (F H : Hp) (σ' : L2.St) (e' : En) (F' H' : Hp) : Prop where
  len : e'.length = e.length
  grow : Sub F F'
  keep : ∀ a o, H a = some o → (∀ i, ¬ OwnAt σ e i a) → H' a = some o
  new : ∀ a, F' a ≠ none → F a ≠ none ∨ H a = none ∨ ∃ i, OwnAt σ e i a
  own : ∀ i a, OwnAt σ' e' i a → OwnAt σ e i a
  stay : ∀ a, H a ≠ none → H' a ≠ none
section
variable {K : PySem.W.Frag} {Y : Fx} {σ σ' σ'' : L2.St} {e e' e'' : En} {F F' F'' H H' H'' : Hp}
theorem Step.s2 (s : Step σ e F H e' F' H') : Step2 σ e F H σ e' F' H' := ⟨s.len, s.grow, s.keep, s.new, s.own, s.stay⟩
theorem Step2.one (s : Step2 σ e F H σ e' F' H') : Step σ e F H e' F' H' := ⟨s.len, s.grow, s.keep, s.new, s.own, s.stay⟩
theorem Step2.trans (s : Step2 σ e F H σ' e' F' H') (t : Step2 σ' e' F' H' σ'' e'' F'' H'') : Step2 σ e F H σ'' e'' F'' H'' where
  len := t.len.trans s.len
  grow := s.grow.trans t.grow
  keep := fun a o h n => t.keep a o (s.keep a o h n) fun i q => n i (s.own i a q)
  new := fun a h => by
    rcases t.new a h with h | h | ⟨i, h⟩
    · exact s.new a h
    · exact .inr (.inl (Classical.byContradiction fun q => s.stay a q h))
    · exact .inr (.inr ⟨i, s.own i a h⟩)
  own := fun i a h => s.own i a (t.own i a h)
  stay := fun a h => t.stay a (s.stay a h)
/-- slots alone -/
theorem Step2.slots (hl : e'.length = e.length) (ho : ∀ i a, OwnAt σ' e' i a → OwnAt σ e i a) : Step2 σ e F H σ' e' F H :=
  ⟨hl, Sub.refl _, fun _ _ h _ => h, fun _ h => .inl h, ho, fun _ h => h⟩
/-- slots outside l are as before -/
def Out (l : List Nat) (σ σ' : L2.St) : Prop := σ'.length = σ.length ∧ ∀ j, j ∉ l → σ'[j]? = σ[j]?
theorem Out.refl {l : List Nat} : Out l σ σ := ⟨rfl, fun _ _ => rfl⟩
theorem Out.trans {l m : List Nat} (h : Out l σ σ') (g : Out m σ' σ'') : Out (l ++ m) σ σ'' :=
  ⟨g.1.trans h.1, fun j hj => by
    rw [List.mem_append, not_or] at hj
    rw [g.2 j hj.2, h.2 j hj.1]⟩
theorem getSetV {σ : L2.St} {i j : Nat} {v w : V} (h : (σ.set i (some v))[j]? = some (some w)) : (i = j ∧ w = v) ∨ (i ≠ j ∧ σ[j]? = some (some w)) := by
  by_cases q : i = j
  · subst q
    rw [List.getElem?_set_self'] at h
    cases z : σ[i]? with
    | none => rw [z] at h; cases h
    | some x => rw [z] at h; cases h; exact .inl ⟨rfl, rfl⟩
  · rw [List.getElem?_set_ne q] at h
    exact .inr ⟨q, h⟩
theorem put_cases {i : Nat} {s : Sv} (h : put e i s = some e') : e' = e.set i s ∧ (∃ t, e[i]? = some t) ∧ ∀ xs, e[i]? ≠ some (.ow true xs) := by
  unfold put at h
  split at h
  · cases h
  · rename_i x hx hn
    cases h
    refine ⟨rfl, ⟨_, hn⟩, fun xs z => ?_⟩
    rw [hn] at z
    cases z
    exact hx xs rfl
  · cases h
/-- a frozen datum stored -/
theorem Ok.put {i : Nat} {v : V} {d : PyData} (k : Ok K Y σ e F H) (r : Rp K F v d) (h : De.put e i (.fz d) = some e') :
    Ok K Y (σ.set i (some v)) e' F H ∧ (∀ j a, OwnAt (σ.set i (some v)) e' j a → OwnAt σ e j a) ∧ e'.length = e.length := by
  obtain ⟨rfl, ⟨t, ht⟩, hp⟩ := put_cases h
  have hs : i < σ.length := by
    rw [← k.len]
    exact (List.getElem?_eq_some_iff.mp ht).1
  have ne : ∀ {j : Nat} {b : Bool} {xs : List PyData}, (e.set i (.fz d))[j]? = some (Sv.ow b xs) → i ≠ j ∧ e[j]? = some (Sv.ow b xs) := fun {j b xs} z => by
    rcases getSet z with ⟨_, e2⟩ | z
    · cases e2
    · exact z
  have own : ∀ j a, OwnAt (σ.set i (some v)) (e.set i (.fz d)) j a → OwnAt σ e j a := fun j a ⟨⟨b, xs, z1⟩, z2⟩ => by
    obtain ⟨n, z⟩ := ne z1
    rw [List.getElem?_set_ne n] at z2
    exact ⟨⟨_, _, z⟩, z2⟩
  refine ⟨⟨by rw [List.length_set, List.length_set]; exact k.len, k.sub, fun j d' z => ?_, fun j b xs z => ?_, fun j l p z1 z2 => k.inj j l p (own j p z1) (own l p z2), k.grow0, k.new0, k.keep0, k.stay0, fun j u z => ?_⟩, own, List.length_set⟩
  · rcases getSet z with ⟨rfl, e2⟩ | ⟨n, z⟩
    · cases e2
      exact ⟨v, by rw [List.getElem?_set_self hs], r⟩
    · obtain ⟨w, z1, z2⟩ := k.fz j d' z
      exact ⟨w, by rw [List.getElem?_set_ne n]; exact z1, z2⟩
  · obtain ⟨n, z⟩ := ne z
    obtain ⟨p, vs, z1, z2⟩ := k.ow j b xs z
    exact ⟨p, vs, by rw [List.getElem?_set_ne n]; exact z1, z2⟩
  · obtain ⟨z1, xs, z2⟩ := k.pin j u z
    have n : i ≠ j := fun q => by
      subst q
      exact hp xs z2
    exact ⟨by rw [List.getElem?_set_ne n]; exact z1, xs, by rw [List.getElem?_set_ne n]; exact z2⟩
theorem set_out {i : Nat} {v : V} {l : List Nat} (h : i ∈ l) : Out l σ (σ.set i (some v)) :=
  ⟨List.length_set, fun j hj => List.getElem?_set_ne fun q => hj (by rw [← q]; exact h)⟩
end
/-! ### targets -/
structure Ty (N : List Str) (X : Cx) (sc : Scope) : Prop where
  calm : X.calm = true
  nn : X.N = N
  nd : N.Nodup
  loc : ∀ x, locO sc x = true → Loc X.env.scope x ∧ (X.fn x = true ∨ X.env.scope.names.lookup x = some .local)
def wG (K : PySem.W.Frag) (t : Tg) : TG := fun v σ H Q => ∃ Y e F d e', Ok K Y σ e F H ∧ Rp K F v d ∧ tgt t d e = some e' ∧ ∀ σ', Ok K Y σ' e' F H → (∀ i a, OwnAt σ' e' i a → OwnAt σ e i a) → e'.length = e.length → Out (tgN t) σ σ' → Q σ' H
def wGs (K : PySem.W.Frag) (t : Tg) : TGs := fun vs σ H Q => ∃ Y e F ds e', Ok K Y σ e F H ∧ RpA K F vs ds ∧ tgts t ds e = some e' ∧ ∀ σ', Ok K Y σ' e' F H → (∀ i a, OwnAt σ' e' i a → OwnAt σ e i a) → e'.length = e.length → Out (tgN t) σ σ' → Q σ' H
theorem _root_.L2.PGs.imp {X : Cx} {e : List Expr} {t u : TGs} (h : PGs X e t) (g : ∀ v σ H Q, u v σ H Q → t v σ H Q) : PGs X e u := ⟨fun pins s σ H v w Q I r q => h.run pins s σ H v w Q I r (g v σ H Q q)⟩
theorem asgPlain {x : Expr} {xs : List Expr} {env : Env} (h : notStar x = true) : assignEach (x :: xs) env = (false, assign x env) :: assignEach xs env := by
  cases x <;> first | rfl | cases h
theorem asgAll {env : Env} : ∀ {xs : List Expr}, xs.all notStar = true → assignEach xs env = xs.map fun e => (false, assign e env)
  | [], _ => rfl
  | x :: xs, h => by
    rw [List.all_cons, Bool.and_eq_true] at h
    rw [asgPlain h.1, asgAll h.2]
    rfl
theorem chkTs_plain {N : List Str} {sc : Scope} : ∀ {t : Tg} {es : List Expr}, chkTs N sc t es = true → es.all notStar = true
  | .nil, [], _ => rfl
  | .cons t u, e :: es, h => by
    rw [chkTs, Bool.and_eq_true, Bool.and_eq_true] at h
    rw [List.all_cons, h.1.2, chkTs_plain h.2]
    rfl
  | .nil, _ :: _, h => by simp [chkTs] at h
  | .nm _, _, h => by simp [chkTs] at h
  | .tp _, _, h => by simp [chkTs] at h
  | .cons _ _, [], h => by simp [chkTs] at h
theorem tgts_len {N : List Str} {sc : Scope} : ∀ {t : Tg} {es : List Expr} {ds : List Dt} {e e' : En}, chkTs N sc t es = true → tgts t ds e = some e' → ds.length = es.length
  | .nil, [], [], _, _, _, _ => rfl
  | .nil, [], _ :: _, _, _, _, h => by simp [tgts] at h
  | .cons t u, e :: es, [], _, _, _, h => by simp [tgts] at h
  | .cons t u, x :: es, d :: ds, e, e', h, g => by
    rw [chkTs, Bool.and_eq_true] at h
    rw [tgts] at g
    cases q : tgt t d e with
    | none => rw [q] at g; cases g
    | some e1 =>
      rw [q] at g
      exact congrArg Nat.succ (tgts_len h.2 g)
  | .nil, _ :: _, _, _, _, h, _ => by simp [chkTs] at h
  | .nm _, _, _, _, _, h, _ => by simp [chkTs] at h
  | .tp _, _, _, _, _, h, _ => by simp [chkTs] at h
  | .cons _ _, [], _, _, _, h, _ => by simp [chkTs] at h
theorem asg_no {xs : List Expr} {env : Env} (h : xs.all notStar = true) : (assignEach xs env).findIdx? (·.1) = none := by
  rw [asgAll h, List.findIdx?_eq_none_iff]
  intro x hx
  obtain ⟨e, _, rfl⟩ := List.mem_map.mp hx
  rfl
mutual
theorem r_tgt {X : Cx} {N : List Str} {sc : Scope} (T : Ty N X sc) : ∀ (t : Tg) (x : Expr), chkTg N sc t x = true → PG X x (wG X.K t)
  | .nm i, x, h => by
    cases x with
    | Name x p =>
      rw [chkTg, Bool.and_eq_true] at h
      obtain ⟨l1, l2⟩ := T.loc x h.2
      refine (pg_name (i := i) (by rw [T.nn]; exact T.nd) (by rw [T.nn]; exact of_decide_eq_true h.1) l1 l2).imp fun v σ H Q ⟨Y, e, F, d, e', ok, rp, ht, q⟩ => ?_
      rw [tgt] at ht
      obtain ⟨a, b, c⟩ := ok.put rp ht
      exact q _ a b c (set_out List.mem_cons_self)
    | _ => simp [chkTg] at h
  | .tp t, x, h => by
    cases x with
    | Tuple es j p =>
      rw [chkTg] at h
      have hp := chkTs_plain h
      have hn : (assignEach es X.env).length = es.length := by rw [asgAll hp, List.length_map]
      refine ((pg_tup T.calm (r_tgts T t es h) hn (asg_no hp)).or (pg_unl T.calm (r_tgts T t es h) hn (asg_no hp))).imp fun v σ H Q ⟨Y, e, F, d, e', ok, rp, ht, q⟩ => ?_
      cases rp with
      | lst hp ra =>
        rw [tgt] at ht
        exact .inr ⟨_, _, rfl, SqL.of (ok.sub _ _ hp), by rw [ra.length]; exact tgts_len h ht, Y, e, F, _, e', ok, ra, ht, q⟩
      | tup hp ra =>
        rw [tgt] at ht
        exact .inl ⟨_, _, rfl, ok.sub.sqT hp, by rw [ra.length]; exact tgts_len h ht, Y, e, F, _, e', ok, ra, ht, q⟩
      | _ => simp [tgt] at ht
    | _ => simp [chkTg] at h
  | .nil, x, h => by simp [chkTg] at h
  | .cons _ _, x, h => by simp [chkTg] at h
theorem r_tgts {X : Cx} {N : List Str} {sc : Scope} (T : Ty N X sc) : ∀ (t : Tg) (es : List Expr), chkTs N sc t es = true → PGs X es (wGs X.K t)
  | .nil, [], _ => pgs_nil.imp fun vs σ H Q ⟨Y, e, F, ds, e', ok, ra, ht, q⟩ => by
    cases ra with
    | nil =>
      rw [tgts] at ht
      cases ht
      exact ⟨rfl, q σ ok (fun _ _ h => h) rfl Out.refl⟩
    | cons _ _ => simp [tgts] at ht
  | .cons t u, x :: es, h => by
    rw [chkTs, Bool.and_eq_true, Bool.and_eq_true] at h
    refine (pgs_cons (r_tgt T t x h.1.1) (r_tgts T u es h.2) (by rw [asgPlain h.1.2]; rfl)).imp fun vs σ H Q ⟨Y, e, F, ds, e', ok, ra, ht, q⟩ => ?_
    cases ra with
    | nil => simp [tgts] at ht
    | @cons v vs d ds r ra =>
      rw [tgts] at ht
      cases h1 : tgt t d e with
      | none => rw [h1] at ht; cases ht
      | some e1 =>
        rw [h1] at ht
        exact ⟨_, _, rfl, Y, e, F, d, e1, ok, r, h1, fun σ1 ok1 o1 l1 s1 => ⟨Y, e1, F, ds, e', ok1, ra, ht, fun σ2 ok2 o2 l2 s2 => q σ2 ok2 (fun i a z => o1 i a (o2 i a z)) (l2.trans l1) (s1.trans s2)⟩⟩
  | .nil, _ :: _, h => by simp [chkTs] at h
  | .nm _, _, h => by simp [chkTs] at h
  | .tp _, _, h => by simp [chkTs] at h
  | .cons _ _, [], h => by simp [chkTs] at h
end
end De
end

section
set_option maxHeartbeats 4000000
namespace De
open PySem PySem.Spec PyProof.Rows L2

section
variable {α : Type}
/-- every place of vs set to u -/
def setAll (l : List α) (f : Nat → α) : List Nat → List α
  | [] => l
  | v :: vs => (setAll l f vs).set v (f v)
theorem setAll_len {l : List α} {f : Nat → α} : ∀ vs : List Nat, (setAll l f vs).length = l.length
  | [] => rfl
  | v :: vs => by
    show ((setAll l f vs).set v (f v)).length = _
    rw [List.length_set, setAll_len vs]
theorem setAll_out {l : List α} {f : Nat → α} {j : Nat} : ∀ {vs : List Nat}, j ∉ vs → (setAll l f vs)[j]? = l[j]?
  | [], _ => rfl
  | v :: vs, h => by
    rw [List.mem_cons, not_or] at h
    show ((setAll l f vs).set v (f v))[j]? = _
    rw [List.getElem?_set_ne (Ne.symm h.1), setAll_out h.2]
theorem setAll_in {l : List α} {f : Nat → α} {j : Nat} : ∀ {vs : List Nat}, j ∈ vs → (setAll l f vs)[j]? = if j < l.length then some (f j) else none
  | [], h => by cases h
  | v :: vs, h => by
    show ((setAll l f vs).set v (f v))[j]? = _
    by_cases q : v = j
    · subst q
      by_cases hl : v < l.length
      · rw [if_pos hl, List.getElem?_set_self (by rw [setAll_len]; exact hl)]
      · rw [if_neg hl, List.getElem?_eq_none]
        rw [List.length_set, setAll_len]
        omega
    · rw [List.getElem?_set_ne q]
      exact setAll_in ((List.mem_cons.mp h).resolve_left (Ne.symm q))
end
theorem wipe_all (σ : L2.St) : ∀ vs : List Nat, wipe σ vs = setAll σ (fun _ => none) vs
  | [] => rfl
  | v :: vs => by
    show (wipe σ vs).set v none = (setAll σ (fun _ => none) vs).set v none
    rw [wipe_all σ vs]
theorem wipeE_all (e : En) : ∀ vs : List Nat, wipeE e vs = setAll e (fun _ => .un) vs
  | [] => rfl
  | v :: vs => by
    show (wipeE e vs).set v .un = (setAll e (fun _ => .un) vs).set v .un
    rw [wipeE_all e vs]
theorem back_all (e e' : En) : ∀ vs : List Nat, back e e' vs = setAll e' (fun v => e.getD v .un) vs
  | [] => rfl
  | v :: vs => by
    show (back e e' vs).set v (e.getD v .un) = (setAll e' (fun v => e.getD v .un) vs).set v (e.getD v .un)
    rw [back_all e e' vs]
section
variable {K : PySem.W.Frag} {Y : Fx} {σ σ' : L2.St} {e e' : En} {F F' H H' : Hp} {own : List Nat}
theorem wipeE_ow {j : Nat} {b : Bool} {xs : List Dt} (h : (wipeE e own)[j]? = some (Sv.ow b xs)) : j ∉ own ∧ e[j]? = some (Sv.ow b xs) := by
  rw [wipeE_all] at h
  by_cases q : j ∈ own
  · rw [setAll_in q] at h
    split at h <;> cases h
  · rw [setAll_out q] at h
    exact ⟨q, h⟩
theorem wipeE_fz {j : Nat} {d : Dt} (h : (wipeE e own)[j]? = some (Sv.fz d)) : j ∉ own ∧ e[j]? = some (Sv.fz d) := by
  rw [wipeE_all] at h
  by_cases q : j ∈ own
  · rw [setAll_in q] at h
    split at h <;> cases h
  · rw [setAll_out q] at h
    exact ⟨q, h⟩
theorem wipe_out {j : Nat} (h : j ∉ own) : (wipe σ own)[j]? = σ[j]? := by
  rw [wipe_all, setAll_out h]
theorem wipe_own {i : Nat} {a : Addr} (h : OwnAt (wipe σ own) (wipeE e own) i a) : OwnAt σ e i a := by
  obtain ⟨⟨b, xs, h1⟩, h2⟩ := h
  obtain ⟨n, h1⟩ := wipeE_ow h1
  rw [wipe_out n] at h2
  exact ⟨⟨_, _, h1⟩, h2⟩
theorem Ok.wipe (k : Ok K Y σ e F H) (hp : ∀ i v, Y.pn i = some v → i ∉ own) : Ok K Y (wipe σ own) (wipeE e own) F H where
  len := by rw [wipe_all, wipeE_all, setAll_len, setAll_len]; exact k.len
  sub := k.sub
  fz := fun i d h => by
    obtain ⟨n, h⟩ := wipeE_fz h
    rw [wipe_out n]
    exact k.fz i d h
  ow := fun i b xs h => by
    obtain ⟨n, h⟩ := wipeE_ow h
    rw [wipe_out n]
    exact k.ow i b xs h
  inj := fun i j p h1 h2 => k.inj i j p (wipe_own h1) (wipe_own h2)
  grow0 := k.grow0
  new0 := k.new0
  keep0 := k.keep0
  stay0 := k.stay0
  pin := fun i v h => by
    obtain ⟨h1, xs, h2⟩ := k.pin i v h
    have n := hp i v h
    rw [wipe_out n, wipeE_all, setAll_out n]
    exact ⟨h1, xs, h2⟩
theorem ownOk_at (h : ownOk e own = true) {i : Nat} (hi : i ∈ own) : (∃ d, e[i]? = some (Sv.fz d)) ∨ e[i]? = some .un := by
  unfold ownOk at h
  have q := List.all_eq_true.mp h i hi
  split at q
  · exact .inl ⟨_, by assumption⟩
  · exact .inr (by assumption)
  · cases q
theorem back_ow {j : Nat} {b : Bool} {xs : List Dt} (ho : ownOk e own = true) (h : (back e e' own)[j]? = some (Sv.ow b xs)) : j ∉ own ∧ e'[j]? = some (Sv.ow b xs) := by
  rw [back_all] at h
  by_cases q : j ∈ own
  · rw [setAll_in q] at h
    split at h
    · rcases ownOk_at ho q with ⟨d, z⟩ | z
      · rw [List.getD_eq_getElem?_getD, z] at h
        cases h
      · rw [List.getD_eq_getElem?_getD, z] at h
        cases h
    · cases h
  · rw [setAll_out q] at h
    exact ⟨q, h⟩
theorem back_own {i : Nat} {a : Addr} (ho : ownOk e own = true) (h : OwnAt σ (back e e' own) i a) : OwnAt (wipe σ own) e' i a := by
  obtain ⟨⟨b, xs, h1⟩, h2⟩ := h
  obtain ⟨n, h1⟩ := back_ow ho h1
  exact ⟨⟨_, _, h1⟩, by rw [wipe_out n]; exact h2⟩
theorem Ok.back (k : Ok K Y σ e F H) (k' : Ok K Y (L2.wipe σ own) e' F' H') (s : Sub F F') (ho : ownOk e own = true) : Ok K Y σ (De.back e e' own) F' H' where
  len := by
    rw [back_all, setAll_len, k'.len, wipe_all, setAll_len]
  sub := k'.sub
  fz := fun i d h => by
    rw [back_all] at h
    by_cases q : i ∈ own
    · rw [setAll_in q] at h
      split at h
      · rcases ownOk_at ho q with ⟨d', z⟩ | z
        · rw [List.getD_eq_getElem?_getD, z] at h
          cases h
          obtain ⟨v, h1, h2⟩ := k.fz i _ z
          exact ⟨v, h1, h2.mono s⟩
        · rw [List.getD_eq_getElem?_getD, z] at h
          cases h
      · cases h
    · rw [setAll_out q] at h
      obtain ⟨v, h1, h2⟩ := k'.fz i d h
      rw [wipe_out q] at h1
      exact ⟨v, h1, h2⟩
  ow := fun i b xs h => by
    obtain ⟨n, h⟩ := back_ow ho h
    have z := k'.ow i b xs h
    rw [wipe_out n] at z
    exact z
  inj := fun i j p h1 h2 => k'.inj i j p (back_own ho h1) (back_own ho h2)
  grow0 := k'.grow0
  new0 := k'.new0
  keep0 := k'.keep0
  stay0 := k'.stay0
  pin := fun i v h => by
    obtain ⟨h1, xs, h2⟩ := k'.pin i v h
    obtain ⟨g1, ys, g2⟩ := k.pin i v h
    have n : i ∉ own := fun q => by
      rcases ownOk_at ho q with ⟨d', z⟩ | z
      · rw [z] at g2; cases g2
      · rw [z] at g2; cases g2
    rw [back_all, setAll_out n]
    exact ⟨g1, xs, h2⟩
theorem Ok.change (k : Ok K Y σ e F H) {p : Addr} {o : HO} (hF : F p = none) (hO : ∀ i, ¬ OwnAt σ e i p) (hY : Y.H0 p = none) : Ok K Y σ e F (upd H p o) where
  len := k.len
  sub := fun a x h => by
    rw [upd_ne fun z => ?_]
    · exact k.sub a x h
    · subst z
      rw [hF] at h
      cases h
  fz := k.fz
  ow := fun i b xs h => by
    obtain ⟨q, vs, h1, h2, h3⟩ := k.ow i b xs h
    refine ⟨q, vs, h1, ?_, h3⟩
    rw [upd_ne fun z => hO i ⟨⟨_, _, h⟩, by rw [← z]; exact h1⟩]
    exact h2
  inj := k.inj
  grow0 := k.grow0
  new0 := k.new0
  keep0 := fun a x h n => by
    rw [upd_ne fun z => ?_]
    · exact k.keep0 a x h n
    · subst z
      rw [hY] at h
      cases h
  stay0 := fun a h z => by
    by_cases w : a = p
    · subst w
      rw [upd_same] at z
      cases z
    · rw [upd_ne w] at z
      exact k.stay0 a h z
  pin := k.pin
theorem Step2.change (s : Step2 σ e F H σ' e' F' H') {p : Addr} {o : HO} (hp : H p = none) : Step2 σ e F H σ' e' F' (upd H' p o) :=
  ⟨s.len, s.grow, fun a x h n => by
    have q : a ≠ p := fun z => by
      rw [z, hp] at h
      cases h
    rw [upd_ne q]
    exact s.keep a x h n, s.new, s.own, fun a h z => by
    by_cases w : a = p
    · exact h (by rw [w]; exact hp)
    · rw [upd_ne w] at z
      exact s.stay a h z⟩
theorem wipe_same {l : List Nat} (h : Out l (wipe σ own) σ') (hl : ∀ i ∈ l, i ∈ own) : wipe σ' own = wipe σ own := by
  apply List.ext_getElem?
  intro j
  have h1 := h.1
  rw [wipe_all, setAll_len] at h1
  by_cases q : j ∈ own
  · rw [wipe_all, wipe_all, setAll_in q, setAll_in q, h1]
  · rw [wipe_out q, h.2 j fun z => q (hl j z)]
end
section
variable {K : PySem.W.Frag} {fa : FV} {fi : FI} {fc : FT} {own : List Nat} {t : Tg}
theorem comp_reads (hl : ∀ i ∈ tgN t, i ∈ own) {σ : L2.St} {H : Hp} {Q : VK} (h : wV K (vComp fa own t fi fc) σ H Q) : tLc (wI K fi) (wG K t) (wT K fc) (wV K fa) own σ H Q := by
  obtain ⟨Y, e, F, r, e', ok, ev, q⟩ := h
  obtain ⟨ds, e1, ys, e2, rfl, h1, h2, h3, h4, rfl⟩ := inv_comp ev
  refine ⟨Y, e, F, ds, e1, ok, h1, fun J F1 H1 ok1 st1 jo D hD => ?_⟩
  have hp : ∀ i v, Y.pn i = some v → i ∉ own := fun i v hi q => by
    obtain ⟨_, xs, z⟩ := ok1.pin i v hi
    rcases ownOk_at h4 q with ⟨d', w⟩ | w
    · rw [w] at z; cases z
    · rw [w] at z; cases z
  have hDY : Y.H0 D = none := Classical.byContradiction fun z => ok1.stay0 D z hD
  have noD : ∀ {σ' : L2.St} {e' : En} {F' H' : Hp}, Step2 (wipe σ own) (wipeE e1 own) F1 H1 σ' e' F' H' → ∀ i, ¬ OwnAt σ' e' i D := fun s i z => ok1.noOwn hD i (wipe_own (s.own i D z))
  let Iv : Nat → Hp → Prop := fun i H => ∃ ei Fi acc yi zs, Ok K Y (wipe σ own) ei Fi H ∧ Step2 (wipe σ own) (wipeE e1 own) F1 H1 (wipe σ own) ei Fi H ∧ H D = some (.lst acc) ∧ Fi D = none ∧ RpA K Fi acc yi ∧
    compL (turnC fa own t fc) (ds.drop i) ei = some (zs, e2) ∧ yi ++ zs = ys
  refine ⟨fun i m H => m = ds.length - i ∧ i ≤ ds.length ∧ Iv i H, ⟨_, rfl, Nat.zero_le _, wipeE e1 own, F1, [], [], ys, (ok1.wipe hp).alloc hD, (Step.refl.alloc hD).s2, upd_same, sub_none ok1.sub hD, .nil, h2, rfl⟩, ?_⟩
  rintro i m H' ⟨rfl, hi, ei, Fi, acc, yi, zs, oki, sti, hDi, hFi, rai, hc, hy⟩
  by_cases hlt : i < ds.length
  · refine .inr ⟨jo.go i H' hlt (sti.grow.trans oki.sub), Iv (i + 1), fun H'' w => ⟨_, by omega, rfl, hlt, w⟩, fun x H'' y => ?_⟩
    obtain ⟨d, F2, hd, g, rp⟩ := jo.yld i Fi H' x H'' hlt sti.grow oki.sub y
    have hdrop : ds.drop i = d :: ds.drop (i + 1) := by
      rw [List.drop_eq_getElem_cons hlt]
      rw [List.getElem?_eq_getElem hlt] at hd
      cases hd
      rfl
    rw [hdrop, compL] at hc
    cases hq : turnC fa own t fc d ei with
    | none => rw [hq] at hc; cases hc
    | some pr =>
      obtain ⟨ys1, ea⟩ := pr
      rw [hq] at hc
      have hc : (match compL (turnC fa own t fc) (ds.drop (i + 1)) ea with
        | some (zs, e2) => some (ys1 ++ zs, e2)
        | none => none) = some (zs, e2) := hc
      cases hq2 : compL (turnC fa own t fc) (ds.drop (i + 1)) ea with
      | none => rw [hq2] at hc; cases hc
      | some pr2 =>
        obtain ⟨zs', eb⟩ := pr2
        rw [hq2] at hc
        cases hc
        obtain ⟨et, kk, e2', ht, hf, hk⟩ := inv_turn hq
        have ok2 := oki.gr g
        have st2 := sti.trans (Gr.step (σ := wipe σ own) (e := ei) g).s2
        have hD2 : H'' D = some (.lst acc) := g.h _ _ hDi
        have nF : ∀ {σa : L2.St} {ea eb : En} {Fa Ha Fb Hb : Hp}, Step σa ea Fa Ha eb Fb Hb → Fa D = none → Ha D = some (.lst acc) → (∀ i, ¬ OwnAt σa ea i D) → Fb D = none := fun s z1 z2 z3 => by
          refine Classical.byContradiction fun z => ?_
          rcases s.new D z with w | w | ⟨i, w⟩
          · exact w z1
          · rw [z2] at w; cases w
          · exact z3 i w
        have hF2 : F2 D = none := nF (Gr.step (σ := wipe σ own) (e := ei) g) hFi hDi (noD sti)
        refine ⟨Y, ei, F2, d, et, ok2, rp, ht, fun σ3 ok3 own3 len3 out3 => ?_⟩
        have hw := wipe_same out3 hl
        have st3 := st2.trans (Step2.slots (F := F2) (H := H'') len3 own3)
        refine ⟨hw, Y, et, F2, kk, e2', ok3, hf, fun F4 H4 ok4 st4 => ?_⟩
        have st5 := st3.trans st4.s2
        have hD4 : H4 D = some (.lst acc) := st4.keep D _ hD2 (noD st3)
        have hF4 : F4 D = none := nF st4 hF2 hD2 (noD st3)
        rcases hk with ⟨rfl, rfl, rfl⟩ | ⟨rfl, x', e3', yy, e4', hfa, hfr, rfl, rfl⟩
        · show ite _ _ _
          rw [if_neg Bool.false_ne_true]
          have okw := ok4.wipe hp
          rw [hw] at okw
          have stw : Step2 σ3 e2' F4 H4 (wipe σ own) (wipeE e2' own) F4 H4 := Step2.slots (by rw [wipeE_all, setAll_len]) fun i a z => wipe_own (by rw [hw]; exact z)
          exact ⟨_, F4, acc, yi, zs', okw, st5.trans stw, hD4, hF4, rai.mono (g.f.trans st4.grow), hq2, hy⟩
        · show ite _ _ _
          rw [if_pos rfl]
          refine ⟨Y, e2', F4, x', e3', ok4, hfa, fun v F5 H5 ok5 st6 rv5 => ?_⟩
          obtain ⟨F6, ok6, st7, rp6⟩ := frzd ok4 ok5 st6 rv5 hfr
          have st8 := st5.trans st7.s2
          have hD5 : H5 D = some (.lst acc) := st7.keep D _ hD4 (noD st5)
          have hF6 : F6 D = none := nF st7 hF4 hD4 (noD st5)
          have stw : Step2 σ3 e4' F6 H5 (wipe σ own) (wipeE e4' own) F6 H5 := Step2.slots (by rw [wipeE_all, setAll_len]) fun i a z => wipe_own (by rw [hw]; exact z)
          have okw := ok6.wipe hp
          rw [hw] at okw
          have st9 := st8.trans stw
          refine ⟨acc, hD5, ?_, _, F6, acc ++ [v], yi ++ [yy], zs', okw.change hF6 (noD st9) hDY, st9.change hD, upd_same, hF6, ?_, hq2, ?_⟩
          · have h5 : ys.length ≤ lim := of_decide_eq_true h3
            have h6 := rai.length
            have h7 := lim_le
            rw [← hy, List.length_append, List.length_append, List.length_singleton] at h5
            omega
          · exact (rai.mono (g.f.trans (st4.grow.trans st7.grow))).append (.cons rp6 .nil)
          · rw [← hy, List.append_assoc]
  · have e0 : i = ds.length := by omega
    subst e0
    rw [List.drop_length, compL] at hc
    cases hc
    rw [List.append_nil] at hy
    subst hy
    refine .inl ⟨jo.stop H' (sti.grow.trans oki.sub), ?_⟩
    have pre : Step2 σ e1 F1 H1 (wipe σ own) (wipeE e1 own) F1 H1 := Step2.slots (by rw [wipeE_all, setAll_len]) fun i a z => wipe_own z
    have post : Step2 (wipe σ own) e2 Fi H' σ (De.back e1 e2 own) Fi H' := Step2.slots (by rw [back_all, setAll_len]) fun i a z => back_own h4 z
    have st := ((pre.trans sti).trans post)
    exact q (.ref D) Fi H' (ok1.back oki sti.grow h4) (st1.trans st.one) ⟨D, acc, rfl, hDi, hFi, st1.back hD, fun i z => ok1.noOwn hD i (st.own i D z), rai⟩
end
section
variable {X : Cx} {G : Pg} {k : Nat} {N : List Str} {sc s : Scope} {fa : FV} {fi : FI} {fc : FT} {own : List Nat} {t : Tg} {elt tg iter : Expr} {ifs : List Expr} {pos : Pos}
theorem Cy.blk (C : Cy G k N X sc) (s0 : Shared) (H : Hp) (A : Addr) (cl : List (Str × Addr)) (fp : List Addr) : Cy G k N (X.blk s0 H s (compEnvC s cl A X.env) fp) (relS s sc) where
  calm := C.calm
  nn := C.nn
  nd := C.nd
  sc := by
    show relS s X.env.scope = _
    rw [C.sc]
  free := C.free
  gl := C.gl
  fn := C.fn
  room := C.room
theorem locO_cases {sc : Scope} {x : Str} (h : locO sc x = true) : sc.names.lookup x = some .local ∨ sc.names.lookup x = some .cell := by
  unfold locO at h
  cases q : sc.names.lookup x with
  | none => rw [q] at h; cases h
  | some n =>
    rw [q] at h
    cases n with
    | «local» => exact .inl rfl
    | cell => exact .inr rfl
    | _ => cases h
theorem Ty.blk (C : Cy G k N X sc) (s0 : Shared) (H : Hp) (A : Addr) (cl : List (Str × Addr)) (fp : List Addr) : Ty N (X.blk s0 H s (compEnvC s cl A X.env) fp) s where
  calm := C.calm
  nn := C.nn
  nd := C.nd
  loc := fun x h => by
    rcases locO_cases h with q | q
    · have z : (relS s X.env.scope).names.lookup x = some .local := lookup_relS_keep (fun z => nomatch z) q
      exact ⟨.inl z, .inr z⟩
    · have z : (relS s X.env.scope).names.lookup x = some .cell := lookup_relS_keep (fun z => nomatch z) q
      refine ⟨.inr z, .inl ?_⟩
      show (s.names.lookup x == some .cell) = true
      rw [q]
      rfl
theorem ownN_snd : (ownN N own).map (·.2) = own := by
  unfold ownN
  rw [List.map_map]
  induction own with
  | nil => rfl
  | cons a l ih => rw [List.map_cons, ih]; rfl
theorem own_all (h : ((tgN t).all fun i => own.contains i) = true) : ∀ i ∈ tgN t, i ∈ own := fun i hi => by
  have := List.all_eq_true.mp h i hi
  simpa using this
theorem r_lc (C : Cy G k N X sc) (hi : PI X tg iter (wI X.K fi)) (hb : blkC N sc s (ownN N own) = true) (ht : chkTg N s t tg = true) (hl : ((tgN t).all fun i => own.contains i) = true) (hs : notSet iter = true)
    (he : ∀ X' : Cx, X'.K = X.K → Cy G k N X' (relS s sc) → PE X' elt (wV X'.K fa)) (hc : ∀ X' : Cx, X'.K = X.K → Cy G k N X' (relS s sc) → PTs X' ifs (wT X'.K fc)) :
    PE X (.ListComp elt [⟨tg, iter, ifs, 0⟩] s pos) (wV X.K (vComp fa own t fi fc)) := by
  have bk : BlkOk X.N X.env.scope s (ownN N own) := by rw [C.nn, C.sc]; exact blkOk_by hb
  refine (pe_lc (g := wG X.K t) (tt := wT X.K fc) (te := wV X.K fa) C.calm (by rw [C.nn]; exact C.nd) hi bk (fun s0 H A cl fp => r_tgt (Ty.blk C s0 H A cl fp) t tg ht) (fun s0 H A cl fp => hc (X.blk s0 H s (compEnvC s cl A X.env) fp) rfl (C.blk s0 H A cl fp)) (fun s0 H A cl fp => he (X.blk s0 H s (compEnvC s cl A X.env) fp) rfl (C.blk s0 H A cl fp)) (setPlain hs)).imp fun σ H Q h => ?_
  rw [ownN_snd]
  exact comp_reads (own_all hl) h
theorem r_setLc {i : Nat} {y : Str} {py spos : Pos} (C : Cy G k N X sc) (hk : sc.kind = .function) (hy : N[i]? = some y) (hyl : plO sc y = true) (hln : (py.line == pos.line) = true) (hno : (s.names.any fun y' => y'.1 == y && (y'.2 == .local || y'.2 == .cell)) = false)
    (hi : PI X tg iter (wI X.K fi)) (hb : blkC N sc s (ownN N own) = true) (ht : chkTg N s t tg = true) (hl : ((tgN t).all fun i => own.contains i) = true) (hs : notSet iter = true)
    (he : ∀ X' : Cx, X'.K = X.K → Cy G k N X' (relS s sc) → PE X' elt (wV X'.K fa)) (hc : ∀ X' : Cx, X'.K = X.K → Cy G k N X' (relS s sc) → PTs X' ifs (wT X'.K fc)) :
    PS X (.Assign [.Name y py] (.ListComp elt [⟨tg, iter, ifs, 0⟩] s pos) spos) (tAsg (wV X.K (vComp fa own t fi fc)) (gName i)) := by
  have bk : BlkOk X.N X.env.scope s (ownN N own) := by rw [C.nn, C.sc]; exact blkOk_by hb
  have pl : X.env.scope.names.lookup y = some .local := by
    rw [C.sc]
    unfold plO at hyl
    cases q : sc.names.lookup y with
    | none => rw [q] at hyl; cases hyl
    | some n =>
      rw [q] at hyl
      cases n with
      | «local» => rfl
      | _ => cases hyl
  refine (ps_setLc (g := wG X.K t) (tt := wT X.K fc) (te := wV X.K fa) C.calm (by rw [C.nn]; exact C.nd) (by rw [C.nn]; exact hy) pl (sw_true (by rw [C.sc]; exact hk) pl hln hno) hi bk (fun s0 H A cl fp => r_tgt (Ty.blk C s0 H A cl fp) t tg ht) (fun s0 H A cl fp => hc (X.blk s0 H s (compEnvC s cl A X.env) fp) rfl (C.blk s0 H A cl fp)) (fun s0 H A cl fp => he (X.blk s0 H s (compEnvC s cl A X.env) fp) rfl (C.blk s0 H A cl fp)) (setPlain hs)).imp fun D σ H h => ?_
  show tLc _ _ _ _ _ σ H _
  rw [ownN_snd]
  exact comp_reads (own_all hl) h
theorem pts_yes : PTs X [] (wT X.K fYes) := ⟨fun pins s σ H Q I ⟨Y, e, F, r, e', ok, ev, q⟩ => pts_nil.run pins s σ H Q I (by
    cases ev
    exact q F H ok .refl)⟩
end
end De
end

section
set_option maxHeartbeats 4000000
namespace De
open PySem PySem.Spec PyProof.Rows L2
theorem fm_all {α β : Type} {f : α → Option β} : ∀ l : List α, (l.filterMap f).length = l.length → l.map f = (l.filterMap f).map some
  | [], _ => rfl
  | x :: l, h => by
    rw [List.filterMap_cons] at h ⊢
    have hle := List.length_filterMap_le f l
    cases q : f x with
    | none =>
      rw [q] at h
      simp only [List.length_cons] at h
      omega
    | some y =>
      rw [q] at h
      simp only [List.length_cons, Nat.add_right_cancel_iff] at h
      simp only [List.map_cons, q]
      rw [fm_all l h]
theorem sw_stores {sc : Scope} {env : Env} {ts vs : List Expr} {kt k2 : Nat} {pt pt2 : Pos} {b : Bool} (he : env.scope = sc) (hk : sc.kind = .function) (hp : vs.all notStar = true) (ho : swapO sc ts vs = some b) : swappedStores [.Tuple ts kt pt] (.Tuple vs k2 pt2) env =
    pure (if b then some (ts.filterMap (nmF sc ((ts.head?.map (·.pos.line)).getD 0))) else none) := by
  have hb : (env.blockKind != .function) = false := by
    unfold Env.blockKind
    rw [he, hk]
    rfl
  unfold swappedStores
  unfold swapO at ho
  simp only [pure_bind, hb, Bool.or_false]
  have key : ∀ (p : Expr → Bool) (f : Expr → Option Str), (∀ x, p x = !notStar x) → (∀ x, f x = nmF sc ((Option.map (fun x => x.pos.line) ts.head?).getD 0) x) →
      (if (!(ts.length == 2 || ts.length == 3) || vs.length != ts.length) = true then (pure none : Sem (Option (List Str)))
       else if vs.any p = true then pure none
       else if ((List.filterMap f ts).length != ts.length || (List.filterMap f ts).eraseDups.length != (List.filterMap f ts).length) = true then pure none
       else if vs.all (foldedForSure 8) = true then pure none
       else if vs.all (constantsAlone 8) = true then do
         unsupported "assign.tuple-of-constant-expressions:order-of-the-stores"
         pure (some (List.filterMap f ts))
       else pure (some (List.filterMap f ts))) = pure (if b = true then some (List.filterMap (nmF sc ((Option.map (fun x => x.pos.line) ts.head?).getD 0)) ts) else none) := by
    intro p f hp' hf'
    rw [show f = nmF sc ((Option.map (fun x => x.pos.line) ts.head?).getD 0) from funext hf']
    have hst : vs.any p = false := by
      rw [List.any_eq_false]
      intro x hx
      rw [hp' x, List.all_eq_true.mp hp x hx]
      exact Bool.false_ne_true
    rw [hst]
    generalize List.filterMap (nmF sc ((Option.map (fun x => x.pos.line) ts.head?).getD 0)) ts = names at ho ⊢
    by_cases h1 : ((ts.length == 2 || ts.length == 3) && vs.length == ts.length) = true
    · rw [if_pos h1] at ho
      have h1' : ¬ (!(ts.length == 2 || ts.length == 3) || vs.length != ts.length) = true := by
        rw [Bool.and_eq_true] at h1
        rw [h1.1, show (vs.length != ts.length) = false from by rw [bne, h1.2]; rfl]
        exact Bool.false_ne_true
      rw [if_neg h1', if_neg Bool.false_ne_true]
      by_cases h2 : (names.length != ts.length || names.eraseDups.length != names.length) = true
      · rw [if_pos h2] at ho ⊢
        cases ho
        rfl
      · rw [if_neg h2] at ho ⊢
        by_cases h3 : vs.all (foldedForSure 8) = true
        · rw [if_pos h3] at ho ⊢
          cases ho
          rfl
        · rw [if_neg h3] at ho ⊢
          by_cases h4 : vs.all (constantsAlone 8) = true
          · rw [if_pos h4] at ho
            cases ho
          · rw [if_neg h4] at ho ⊢
            cases ho
            rfl
    · rw [if_neg h1] at ho
      cases ho
      rw [if_pos]
      · rfl
      · rw [Bool.and_eq_true] at h1
        cases q1 : (ts.length == 2 || ts.length == 3)
        · rfl
        · cases q2 : (vs.length == ts.length)
          · rw [bne, q2]; rfl
          · exact absurd ⟨q1, q2⟩ h1

  exact key _ _ (fun x => by cases x <;> rfl) (fun x => by subst he; cases x <;> rfl)

/-! ### statements -/
def EndsOk (K : PySem.W.Frag) (Y : Fx) (D : Ends) : Fl → Prop
  | .nx e => ∀ σ F H, Ok K Y σ e F H → D.nx σ H
  | .bk e => ∀ σ F H, Ok K Y σ e F H → D.bk σ H
  | .ct e => ∀ σ F H, Ok K Y σ e F H → D.ct σ H
  | .rt r e => ∀ v σ F H, Ok K Y σ e F H → RvOk K Y.H0 σ e F H v r → D.rt v H
def wS (K : PySem.W.Frag) (f : FS) : TS := fun D σ H => ∃ Y e F fl, Ok K Y σ e F H ∧ f e = some fl ∧ EndsOk K Y D fl
section
variable {K : PySem.W.Frag} {Y : Fx} {σ σ' : L2.St} {e e' : En} {F F' H H' Hs : Hp}
theorem Ok.putOwn {i : Nat} {v : V} {xs : List PyData} (k : Ok K Y σ e F H) (rv : RvOk K Hs σ e F H v (.own xs)) (hs : ∀ a, Y.H0 a ≠ none → Hs a ≠ none) (h : De.put e i (.ow false xs) = some e') :
    Ok K Y (σ.set i (some v)) e' F H := by
  obtain ⟨rfl, ⟨t, ht⟩, hp⟩ := put_cases h
  obtain ⟨p, vs, rfl, h1, h2, h3, h4, h5⟩ := rv
  have hY : Y.H0 p = none := Classical.byContradiction fun q => hs p q h3
  have hl : i < σ.length := by
    rw [← k.len]
    exact (List.getElem?_eq_some_iff.mp ht).1
  have own : ∀ j a, OwnAt (σ.set i (some (.ref p))) (e.set i (.ow false xs)) j a → (j = i ∧ a = p) ∨ (j ≠ i ∧ OwnAt σ e j a) := fun j a ⟨⟨b, ys, z1⟩, z2⟩ => by
    rcases getSet z1 with ⟨rfl, _⟩ | ⟨n, z1⟩
    · rw [List.getElem?_set_self hl] at z2
      cases z2
      exact .inl ⟨rfl, rfl⟩
    · rw [List.getElem?_set_ne n] at z2
      exact .inr ⟨Ne.symm n, ⟨_, _, z1⟩, z2⟩
  refine ⟨by rw [List.length_set, List.length_set]; exact k.len, k.sub, fun j d' z => ?_, fun j b ys z => ?_, fun j l a z1 z2 => ?_, k.grow0, k.new0, k.keep0, k.stay0, fun j u z => ?_⟩
  · rcases getSet z with ⟨rfl, e2⟩ | ⟨n, z⟩
    · cases e2
    · obtain ⟨w, z1, z2⟩ := k.fz j d' z
      exact ⟨w, by rw [List.getElem?_set_ne n]; exact z1, z2⟩
  · rcases getSet z with ⟨rfl, e2⟩ | ⟨n, z⟩
    · cases e2
      exact ⟨p, vs, by rw [List.getElem?_set_self hl], h1, h2, h5, .inl ⟨rfl, hY⟩⟩
    · obtain ⟨q, ws, z1, z2⟩ := k.ow j b ys z
      exact ⟨q, ws, by rw [List.getElem?_set_ne n]; exact z1, z2⟩
  · rcases own j a z1 with ⟨rfl, rfl⟩ | ⟨n1, q1⟩
    · rcases own l _ z2 with ⟨rfl, _⟩ | ⟨_, q2⟩
      · rfl
      · exact absurd q2 (h4 l)
    · rcases own l a z2 with ⟨rfl, rfl⟩ | ⟨n2, q2⟩
      · exact absurd q1 (h4 j)
      · exact k.inj j l a q1 q2
  · obtain ⟨z1, ys, z2⟩ := k.pin j u z
    have n : i ≠ j := fun q => by
      subst q
      exact hp ys z2
    exact ⟨by rw [List.getElem?_set_ne n]; exact z1, ys, by rw [List.getElem?_set_ne n]; exact z2⟩
/-- a result to a slot -/
theorem Ok.store {F1 H1 : Hp} {e1 e2 : En} {i : Nat} {v : V} {r : Rv} (ok : Ok K Y σ e F H) (ok1 : Ok K Y σ e1 F1 H1) (st : Step σ e F H e1 F1 H1) (rv : RvOk K H σ e1 F1 H1 v r) (h : De.store e1 i r = some e2) :
    ∃ F2, Ok K Y (σ.set i (some v)) e2 F2 H1 := by
  cases r with
  | d x => exact ⟨F1, (ok1.put rv h).1⟩
  | own xs => exact ⟨F1, ok1.putOwn rv ok.stay0 h⟩
  | loc j =>
    unfold De.store at h
    cases q : frz (.loc j) e1 with
    | none => simp only [q] at h; cases h
    | some pr =>
      obtain ⟨d, e'⟩ := pr
      simp only [q] at h
      obtain ⟨F2, ok2, _, rp⟩ := frzd ok ok1 st rv q
      exact ⟨F2, (ok2.put rp h).1⟩
theorem Ok.rebase (k : Ok K Y σ e F H) : Ok K { Y with F0 := F } σ e F H :=
  ⟨k.len, k.sub, k.fz, k.ow, k.inj, Sub.refl _, fun _ h => .inl h, k.keep0, k.stay0, k.pin⟩
theorem Ok.unbase (k : Ok K Y σ e F H) (k' : Ok K { Y with F0 := F } σ' e' F' H') : Ok K Y σ' e' F' H' :=
  ⟨k'.len, k'.sub, k'.fz, k'.ow, k'.inj, k.grow0.trans k'.grow0, fun a h => (k'.new0 a h).elim (k.new0 a) .inr, k'.keep0, k'.stay0, k'.pin⟩
end
section
variable {X : Cx} {G : Pg} {k : Nat} {N : List Str} {sc : Scope} {x y z : Expr} {a b c : FV} {fi : FI} {fc : FT} {f g : FS} {pos p p2 ap : Pos} {i : Nat}
theorem swTarget {v : Expr} {t : Expr} {l : Nat} {env : Env} (h : (match t with | .Name .. => false | _ => true) = true) : swapsWith v (some t) l env = pure false := by
  cases t with
  | Name => cases h
  | _ => cases v <;> rfl
theorem swPlain {v : Expr} {t : Option Expr} {l : Nat} {env : Env} (h : notLc v = true) : swapsWith v t l env = pure false := by
  cases v <;> first | rfl | cases h
theorem ssName {v t : Expr} {env : Env} (h : (match t with | .Tuple .. => false | .List .. => false | _ => true) = true) : swappedStores [t] v env = pure none := by
  cases t <;> first | rfl | (cases h; done)
theorem ssPlain {v t : Expr} {env : Env} (h : notTup v = true) : swappedStores [t] v env = pure none := by
  cases v <;> first | (cases h; done) | (cases t <;> rfl)
theorem swSole {v t : Expr} {l : Nat} {env : Env} (h : (match t with | .Name .. => false | _ => true) = true) : swapsWithSole [t] v l env = pure false := by
  show swapsWith v (some t) l env = _
  exact swTarget h
theorem inv_sAsg {e : En} {fl : Fl} (h : sAsg i a e = some fl) : ∃ r e1 e2, a e = some (r, e1) ∧ store e1 i r = some e2 ∧ fl = .nx e2 := by
  unfold sAsg at h
  repeat' split at h
  all_goals first | (cases h; done) | (cases h; exact ⟨_, _, _, by assumption, by assumption, rfl⟩)
theorem asg_reads {D : Ends} {σ : L2.St} {H : Hp} (h : wS X.K (sAsg i a) D σ H) : tAsg (wV X.K a) (gName i) D σ H := by
  obtain ⟨Y, e, F, fl, ok, ev, q⟩ := h
  obtain ⟨r, e1, e2, h1, h2, rfl⟩ := inv_sAsg ev
  refine ⟨Y, e, F, r, e1, ok, h1, fun v F1 H1 ok1 st1 rv1 => ?_⟩
  obtain ⟨F2, ok2⟩ := Ok.store ok ok1 st1 rv1 h2
  exact q _ F2 H1 ok2
theorem s_asg {xn : Str} (T : Ty N X sc) (hi : N[i]? = some xn) (hx : locO sc xn = true) (he : PE X y (wV X.K a)) (hl : notLc y = true) : PS X (.Assign [.Name xn p] y pos) (wS X.K (sAsg i a)) := by
  obtain ⟨l1, l2⟩ := T.loc xn hx
  exact (ps_set (by rw [T.nn]; exact T.nd) (by rw [T.nn]; exact hi) l1 he (swPlain hl) l2).imp fun D σ H h => asg_reads h
theorem inv_sAsgT {t : Tg} {e : En} {fl : Fl} (h : sAsgT t a e = some fl) : ∃ r e1 d e2 e3, a e = some (r, e1) ∧ frz r e1 = some (d, e2) ∧ tgt (.tp t) d e2 = some e3 ∧ fl = .nx e3 := by
  unfold sAsgT at h
  repeat' split at h
  all_goals first | (cases h; done) | (cases h; exact ⟨_, _, _, _, _, by assumption, by assumption, by assumption, rfl⟩)
theorem s_asgT {t : Tg} {es : List Expr} {j : Nat} (T : Ty N X sc) (ht : chkTs N sc t es = true) (he : PE X y (wV X.K a)) (hn : notTup y = true) : PS X (.Assign [.Tuple es j p] y pos) (wS X.K (sAsgT t a)) := by
  refine (ps_asg he (r_tgt T (.tp t) (.Tuple es j p) (by rw [chkTg]; exact ht)) (swSole (t := .Tuple es j p) rfl) (ssPlain hn)).imp fun D σ H ⟨Y, e, F, fl, ok, ev, q⟩ => ?_
  obtain ⟨r, e1, d, e2, e3, h1, h2, h3, rfl⟩ := inv_sAsgT ev
  refine ⟨Y, e, F, r, e1, ok, h1, fun v F1 H1 ok1 st1 rv1 => ?_⟩
  obtain ⟨F2, ok2, st2, rp⟩ := frzd ok ok1 st1 rv1 h2
  exact ⟨Y, e2, F2, d, e3, ok2, rp, h3, fun σ' ok3 _ _ _ => q σ' F2 H1 ok3⟩
theorem inv_sPar {t : Tg} {e : En} {fl : Fl} (h : sPar t fi e = some fl) : ∃ ds e2 e3, fi e = some (ds, e2) ∧ tgts t ds e2 = some e3 ∧ small ds = true ∧ fl = .nx e3 := by
  unfold sPar at h
  repeat' split at h
  all_goals first | (cases h; done) | (cases h; exact ⟨_, _, _, by assumption, by assumption, by assumption, rfl⟩)
theorem s_par {t : Tg} {ts vs : List Expr} {j l : Nat} (T : Ty N X sc) (hsc : X.env.scope = sc) (hk : sc.kind = .function) (ht : chkTs N sc t ts = true) (hp : vs.all notStar = true) (he : PA X vs (wD X.K fi)) (ho : swapO sc ts vs = some false) :
    PS X (.Assign [.Tuple ts j p] (.Tuple vs l p2) pos) (wS X.K (sPar t fi)) := by
  refine (ps_asg (pe_tup he) (r_tgt T (.tp t) (.Tuple ts j p) (by rw [chkTg]; exact ht)) (swSole (t := .Tuple ts j p) rfl) (by rw [sw_stores hsc hk hp ho]; rfl)).imp fun D σ H ⟨Y, e, F, fl, ok, ev, q⟩ => ?_
  obtain ⟨ds, e2, e3, h1, h2, h3, rfl⟩ := inv_sPar ev
  refine ⟨Y, e, F, ds, e2, ok, h1, fun vs F1 H1 ok1 st1 ra => ⟨small_le h3 ra, fun a ha => ?_⟩⟩
  have g : Gr F1 H1 (upd F1 a (.tup vs)) (upd H1 a (.tup vs)) := Gr.both ok1.sub ha
  refine ⟨Y, e2, _, .tuple ds, e3, ok1.gr g, .tup (.inl (.inl upd_same)) (ra.mono g.f), by rw [tgt]; exact h2, fun σ' ok3 _ _ _ => q σ' _ _ ok3⟩
/-- the names of a swap -/
theorem nmF_name {line : Nat} {x : Expr} {n : Str} (h : nmF sc line x = some n) : ∃ q, x = .Name n q ∧ sc.names.lookup n = some .local := by
  cases x with
  | Name id q =>
    have h : (if sc.names.lookup id == some .local && q.line == line then some id else none) = some n := h
    split at h
    · rename_i hc
      cases h
      rw [Bool.and_eq_true] at hc
      exact ⟨q, rfl, by simpa using hc.1⟩
    · cases h
  | _ => exact nomatch h
theorem two_of {α : Type} {l : List α} (h : l.length = 2) : ∃ a b, l = [a, b] := by
  cases l with
  | nil => cases h
  | cons a l => cases l with
    | nil => cases h
    | cons b l => cases l with
      | nil => exact ⟨a, b, rfl⟩
      | cons c l => cases h
theorem three_of {α : Type} {l : List α} (h : l.length = 3) : ∃ a b c, l = [a, b, c] := by
  cases l with
  | nil => cases h
  | cons a l =>
    obtain ⟨b, c, rfl⟩ := two_of (Nat.succ.inj h)
    exact ⟨a, b, c, rfl⟩
theorem tg_name {t : Tg} {n : Str} {q : Pos} (h : chkTg N sc t (.Name n q) = true) : ∃ i, t = .nm i ∧ N[i]? = some n := by
  cases t with
  | nm i =>
    rw [chkTg, Bool.and_eq_true] at h
    exact ⟨i, rfl, of_decide_eq_true h.1⟩
  | _ => simp [chkTg] at h
theorem put2 {K : PySem.W.Frag} {Y : Fx} {σ : L2.St} {e e1 e2 : En} {F H : Hp} {i j : Nat} {v w : V} {d d' : PyData} (ok : Ok K Y σ e F H) (h1 : Rp K F v d) (h2 : Rp K F w d') (q1 : put e i (.fz d) = some e1) (q2 : put e1 j (.fz d') = some e2) :
    Ok K Y ((σ.set i (some v)).set j (some w)) e2 F H := ((ok.put h1 q1).1.put h2 q2).1
theorem s_par2 {t : Tg} {ts vs : List Expr} {j l : Nat} (T : Ty N X sc) (hsc : X.env.scope = sc) (hk : sc.kind = .function) (ht : chkTs N sc t ts = true) (hp : vs.all notStar = true) (he : PA X vs (wD X.K fi)) (ho : swapO sc ts vs = some true) :
    PS X (.Assign [.Tuple ts j p] (.Tuple vs l p2) pos) (wS X.K (sPar t fi)) := by
  have hw := sw_stores (env := X.env) (kt := j) (k2 := l) (pt := p) (pt2 := p2) hsc hk hp ho
  rw [if_pos rfl] at hw
  unfold swapO at ho
  by_cases h1 : ((ts.length == 2 || ts.length == 3) && vs.length == ts.length) = true
  · rw [if_pos h1] at ho
    generalize hn : ts.filterMap (nmF sc ((ts.head?.map (·.pos.line)).getD 0)) = names at ho hw
    by_cases h2 : (names.length != ts.length || names.eraseDups.length != names.length) = true
    · rw [if_pos h2] at ho
      cases ho
    · rw [Bool.and_eq_true, Bool.or_eq_true] at h1
      have h3 : names.length = ts.length ∧ names.eraseDups.length = names.length := by
        constructor
        · refine Classical.byContradiction fun z => h2 ?_
          rw [Bool.or_eq_true]
          exact .inl (by simpa using z)
        · refine Classical.byContradiction fun z => h2 ?_
          rw [Bool.or_eq_true]
          exact .inr (by simpa using z)
      have h4 := fm_all ts (by rw [hn]; exact h3.1)
      rw [hn] at h4
      have hv : vs.length = ts.length := by simpa using h1.2
      rcases h1.1 with h5 | h5
      · have h5 : ts.length = 2 := by simpa using h5
        obtain ⟨x1, x2, rfl⟩ := two_of h5
        obtain ⟨v1, v2, rfl⟩ := two_of (hv.trans h5)
        obtain ⟨n1, n2, rfl⟩ := two_of (h3.1.trans h5)
        simp only [List.map_cons, List.map_nil, List.cons.injEq, and_true] at h4
        obtain ⟨q1, rfl, m1⟩ := nmF_name h4.1
        obtain ⟨q2, rfl, m2⟩ := nmF_name h4.2
        have hne : n1 ≠ n2 := fun z => by
          have := h3.2
          subst z
          simp [List.eraseDups_cons] at this
        cases t with
        | cons t1 t' =>
          rw [chkTs, Bool.and_eq_true, Bool.and_eq_true] at ht
          cases t' with
          | cons t2 t'' =>
            obtain ⟨ht1, ht2⟩ := ht
            rw [chkTs, Bool.and_eq_true, Bool.and_eq_true] at ht2
            obtain ⟨i1, rfl, k1⟩ := tg_name ht1.1
            obtain ⟨i2, rfl, k2⟩ := tg_name ht2.1.1
            refine (ps_par T.calm (by rw [T.nn]; exact T.nd) (i := i1) (j := i2) (by rw [T.nn]; exact k1) (by rw [T.nn]; exact k2) (fun z => ?_) (by rw [hsc]; exact m1) (by rw [hsc]; exact m2) he hw).imp fun D σ H ⟨Y, e, F, fl, ok, ev, q⟩ => ?_
            · subst z
              rw [k1] at k2
              cases k2
              exact hne rfl
            · obtain ⟨ds, e2, e3, g1, g2, g3, rfl⟩ := inv_sPar ev
              refine ⟨Y, e, F, ds, e2, ok, g1, fun vs F1 H1 ok1 st1 ra => ?_⟩
              cases ra with
              | nil => simp [tgts] at g2
              | cons r1 ra =>
                cases ra with
                | nil => simp [tgts, tgt] at g2; split at g2 <;> cases g2
                | cons r2 ra =>
                  cases ra with
                  | cons r3 ra =>
                    cases t'' with
                    | nil =>
                      simp only [tgts, tgt] at g2
                      repeat' split at g2
                      all_goals cases g2
                    | _ => simp [chkTs] at ht2
                  | nil =>
                    simp only [tgts, tgt] at g2
                    split at g2
                    · rename_i e4 g4
                      split at g2
                      · rename_i e5 g5
                        cases t'' with
                        | nil =>
                          simp only [tgts] at g2
                          cases g2
                          exact ⟨_, _, rfl, q _ F1 _ (put2 ok1 r1 r2 g4 g5)⟩
                        | _ => simp [chkTs] at ht2
                      · cases g2
                    · cases g2
          | _ => simp [chkTs] at ht
        | _ => simp [chkTs] at ht
      · have h5 : ts.length = 3 := by simpa using h5
        obtain ⟨x1, x2, x3, rfl⟩ := three_of h5
        obtain ⟨v1, v2, v3, rfl⟩ := three_of (hv.trans h5)
        obtain ⟨n1, n2, n3, rfl⟩ := three_of (h3.1.trans h5)
        simp only [List.map_cons, List.map_nil, List.cons.injEq, and_true] at h4
        obtain ⟨q1, rfl, m1⟩ := nmF_name h4.1
        obtain ⟨q2, rfl, m2⟩ := nmF_name h4.2.1
        obtain ⟨q3, rfl, m3⟩ := nmF_name h4.2.2
        have hnd : n1 ≠ n2 ∧ n1 ≠ n3 ∧ n2 ≠ n3 := by
          have h6 := h3.2
          refine ⟨fun z => ?_, fun z => ?_, fun z => ?_⟩
          · subst z
            by_cases w : n1 = n3
            · subst w
              simp [List.eraseDups_cons] at h6
            · simp [List.eraseDups_cons, Ne.symm w] at h6
          · subst z
            by_cases w : n1 = n2
            · subst w
              simp [List.eraseDups_cons] at h6
            · simp [List.eraseDups_cons, Ne.symm w] at h6
          · subst z
            by_cases w : n1 = n2
            · subst w
              simp [List.eraseDups_cons] at h6
            · simp [List.eraseDups_cons, Ne.symm w] at h6
        cases t with
        | cons t1 t' =>
          rw [chkTs, Bool.and_eq_true, Bool.and_eq_true] at ht
          cases t' with
          | cons t2 t'' =>
            obtain ⟨ht1, ht2⟩ := ht
            rw [chkTs, Bool.and_eq_true, Bool.and_eq_true] at ht2
            cases t'' with
            | cons t3 t3' =>
              obtain ⟨ht2, ht3⟩ := ht2
              rw [chkTs, Bool.and_eq_true, Bool.and_eq_true] at ht3
              obtain ⟨i1, rfl, k1⟩ := tg_name ht1.1
              obtain ⟨i2, rfl, k2⟩ := tg_name ht2.1
              obtain ⟨i3, rfl, k3⟩ := tg_name ht3.1.1
              refine (ps_par3 T.calm (by rw [T.nn]; exact T.nd) (i := i1) (j := i2) (l := i3) (by rw [T.nn]; exact k1) (by rw [T.nn]; exact k2) (by rw [T.nn]; exact k3) (fun z => ?_) (fun z => ?_) (fun z => ?_) (by rw [hsc]; exact m1) (by rw [hsc]; exact m2) (by rw [hsc]; exact m3) he hw).imp fun D σ H ⟨Y, e, F, fl, ok, ev, q⟩ => ?_
              · subst z
                rw [k1] at k2
                cases k2
                exact hnd.1 rfl
              · subst z
                rw [k1] at k3
                cases k3
                exact hnd.2.1 rfl
              · subst z
                rw [k2] at k3
                cases k3
                exact hnd.2.2 rfl
              · obtain ⟨ds, e2, e3, g1, g2, g3, rfl⟩ := inv_sPar ev
                refine ⟨Y, e, F, ds, e2, ok, g1, fun vs F1 H1 ok1 st1 ra => ?_⟩
                have hl := tgts_len (N := N) (sc := sc) (t := .cons (.nm i1) (.cons (.nm i2) (.cons (.nm i3) t3'))) (es := [.Name n1 q1, .Name n2 q2, .Name n3 q3]) (by simp only [chkTs, chkTg, notStar, Bool.and_true, Bool.and_eq_true] at ht1 ht2 ht3 ⊢; exact ⟨ht1.1, ht2.1, ht3.1.1, ht3.2⟩) g2
                obtain ⟨d1, d2, d3, rfl⟩ := three_of hl
                cases ra with
                | cons r1 ra =>
                cases ra with
                | cons r2 ra =>
                cases ra with
                | cons r3 ra =>
                cases ra
                simp only [tgts, tgt] at g2
                split at g2
                · rename_i e4 g4
                  split at g2
                  · rename_i e5 g5
                    split at g2
                    · rename_i e6 g6
                      cases t3' with
                      | nil =>
                        simp only [tgts] at g2
                        cases g2
                        exact ⟨_, _, _, rfl, q _ F1 _ ((put2 ok1 r1 r2 g4 g5).put r3 g6).1⟩
                      | _ => simp [chkTs] at ht3
                    · cases g2
                  · cases g2
                · cases g2
            | _ => simp [chkTs] at ht2
          | _ => simp [chkTs] at ht
        | _ => simp [chkTs] at ht
  · rw [if_neg h1] at ho
    cases ho
end
end De
end

section
set_option maxHeartbeats 4000000
namespace De
open PySem PySem.Spec PyProof.Rows L2

/-! ### a list's item, by values -/
def rGetL (K : PySem.W.Frag) : V → V → Hp → VK → Prop := fun o i H Q => ∃ p xs k v, o = .ref p ∧ i = .int k ∧ SqL K H p xs ∧ atI xs k = some v ∧ Q v H
theorem get_list {X : Cx} : PGet X (rGetL X.K) := by
  intro pins s σ H o i ov iv Q I ro ri h
  obtain ⟨p, xs, k, v, rfl, rfl, hq, he, q⟩ := h
  cases ro
  obtain ⟨t, rfl⟩ := ri
  obtain ⟨its, r, pl, hz⟩ := I.list hq
  obtain ⟨j, h1, h2, h3, h4, h5⟩ := atI_get he
  obtain ⟨w, ew, rw'⟩ := r.get h2
  have hl := r.length
  have hn := line63
  have fin : EP X pins σ Q w s := ⟨v, H, I, rw', q⟩
  by_cases h0 : 0 ≤ k
  · have hj : k.toNat = j := by
      rw [seqIndex_of h0 h5] at h1
      exact Option.some.inj h1
    exact wpAny_getItem_list pl.isList h0 (by omega) (by rw [hj]; simpa using ew) fin
  · have hj : (k + (its.toArray.size : Int)).toNat = j := by
      rw [seqIndex_neg (by omega) h4] at h1
      rw [List.size_toArray, ← hl]
      exact Option.some.inj h1
    exact wpAny_getItem_list_neg pl.isList (by omega) (by rw [List.size_toArray] <;> omega) (by omega) (by rw [hj]; simpa using ew) fin
theorem sw_no {x : Str} {p : Pos} {v : Expr} {l : Nat} {env : Env} {sc : Scope} (he : env.scope = sc) (hk : sc.kind = .function) (h : swNo sc x p v = true) : swapsWith v (some (.Name x p)) l env = pure false := by
  cases v with
  | ListComp e g s cp =>
    have hb : env.blockKind = .function := by
      unfold Env.blockKind
      rw [he, hk]
      rfl
    have hkd : env.kindOf x = sc.names.lookup x := by rw [← he]; rfl
    have h : (!(sc.names.lookup x == some .local && p.line == cp.line && !(s.names.any fun y => y.1 == x && (y.2 == .local || y.2 == .cell)))) = true := h
    rw [Bool.not_eq_true'] at h
    unfold swapsWith
    simp only [hb, hkd, Expr.pos]
    show pure (true && (sc.names.lookup x == some .local) && (p.line == cp.line) && !(s.names.any fun y => y.1 == x && (y.2 == .local || y.2 == .cell))) = pure false
    rw [Bool.true_and, h]
  | _ => cases h
section
variable {X : Cx} {G : Pg} {k : Nat} {N : List Str} {sc : Scope} {x y z : Expr} {a b c : FV} {fi : FI} {fc : FT} {f g : FS} {pos p p2 ap : Pos} {i : Nat}
theorem ixN_rp {K : PySem.W.Frag} {F : Hp} {vs : List V} {xs : List PyData} {k : Int} {j : Nat} (r : RpA K F vs xs) (h : ixN xs.length k = some j) : ixN vs.length k = some j := by
  rw [r.length]
  exact h
theorem s_asgNo {xn : Str} (T : Ty N X sc) (hsc : X.env.scope = sc) (hk : sc.kind = .function) (hi : N[i]? = some xn) (hx : locO sc xn = true) (he : PE X y (wV X.K a)) (hl : swNo sc xn p y = true) : PS X (.Assign [.Name xn p] y pos) (wS X.K (sAsg i a)) := by
  obtain ⟨l1, l2⟩ := T.loc xn hx
  exact (ps_set (by rw [T.nn]; exact T.nd) (by rw [T.nn]; exact hi) l1 he (sw_no hsc hk hl) l2).imp fun D σ H h => asg_reads h
theorem inv_sSet {e : En} {fl : Fl} (h : sSet i b a e = some fl) : ∃ r e1 d e2 k e3 bb xs j, a e = some (r, e1) ∧ frz r e1 = some (d, e2) ∧ b e2 = some (.d (.int k), e3) ∧ e3[i]? = some (Sv.ow bb xs) ∧ ixN xs.length k = some j ∧ isOw e2 i = true ∧ fl = .nx (e3.set i (.ow bb (xs.set j d))) := by
  unfold sSet at h
  repeat' split at h
  all_goals first | (cases h; done) | (cases h; exact ⟨_, _, _, _, _, _, _, _, _, by assumption, by assumption, by assumption, by assumption, by assumption, by assumption, rfl⟩)
theorem s_set (ho : PE X x (tVar i)) (hb : PE X y (wV X.K b)) (he : PE X z (wV X.K a)) (hs : notSl y = true) : PS X (.Assign [.Subscript x y p] z pos) (wS X.K (sSet i b a)) := by
  refine (ps_asg he (pg_sub ho hb set_list (fun v => by cases y <;> first | rfl | (cases hs; done))) (swSole (t := .Subscript x y p) rfl) (ssName rfl)).imp fun D σ H ⟨Y, e, F, fl, ok, ev, q⟩ => ?_
  obtain ⟨r, e1, d, e2, kk, e3, bb, xs, j, h1, h2, h3, h4, h5, h6, rfl⟩ := inv_sSet ev
  refine ⟨Y, e, F, r, e1, ok, h1, fun v F1 H1 ok1 st1 rv1 => ?_⟩
  obtain ⟨F2, ok2, st2, rp⟩ := frzd ok ok1 st1 rv1 h2
  obtain ⟨b0, xs0, g0⟩ := inv_isOw h6
  obtain ⟨p, vs0, g1, _⟩ := ok2.ow i _ _ g0
  refine ⟨_, g1, Y, e2, F2, _, e3, ok2, h3, fun u F3 H3 ok3 st3 rv3 => ?_⟩
  cases rv3
  obtain ⟨p', vs, g2, g3, g4, g5, g6⟩ := ok3.ow i _ _ h4
  rw [g1] at g2
  cases g2
  exact ⟨p, vs, kk, j, rfl, rfl, g3, ixN_rp g5 h5, q σ F3 _ (ok3.write h4 g1 (RpA.set (rp.mono st3.grow) j g5)).1⟩
theorem bop_add {u v : Int} {r : Rv} (h : bop .add (.int u) (.int v) = some r) : r = .d (.int (u + v)) := by
  cases h
  rfl
theorem bop_sub {u v : Int} {r : Rv} (h : bop .sub (.int u) (.int v) = some r) : r = .d (.int (u - v)) := by
  cases h
  rfl
theorem inv_sAug {op : Bop} {e : En} {fl : Fl} (h : sAug i op a e = some fl) : ∃ p q e1 r e2, e[i]? = some (.fz (.int p)) ∧ a e = some (.d (.int q), e1) ∧ bop op (.int p) (.int q) = some (.d r) ∧ put e1 i (.fz r) = some e2 ∧ fl = .nx e2 := by
  unfold sAug at h
  repeat' split at h
  all_goals first | (cases h; done) | (cases h; exact ⟨_, _, _, _, _, by assumption, by assumption, by assumption, by assumption, rfl⟩)
theorem s_aug {op : Bop} {xn : Str} (hop : (match op with | .add => true | .sub => true | _ => false) = true) (T : Ty N X sc) (hi : N[i]? = some xn) (hx : locO sc xn = true) (he : PE X y (wV X.K a)) : PS X (.AugAssign (.Name xn p) (opB op) y pos) (wS X.K (sAug i op a)) := by
  obtain ⟨l1, l2⟩ := T.loc xn hx
  cases op with
  | add =>
    refine (ps_aug (by rw [T.nn]; exact T.nd) (by rw [T.nn]; exact hi) l1 he ip_add l2).imp fun D σ H ⟨Y, e, F, fl, ok, ev, q⟩ => ?_
    obtain ⟨u, v, e1, r, e2, h1, h2, h3, h4, rfl⟩ := inv_sAug ev
    cases bop_add h3
    obtain ⟨w, g1, g2⟩ := ok.fz i _ h1
    refine ⟨w, g1, Y, e, F, _, e1, ok, h2, fun v' F1 H1 ok1 st1 rv1 => ?_⟩
    cases rv1
    cases g2
    exact ⟨u, v, rfl, rfl, q _ F1 H1 (ok1.put (.int _) h4).1⟩
  | sub =>
    refine (ps_aug (by rw [T.nn]; exact T.nd) (by rw [T.nn]; exact hi) l1 he ip_sub l2).imp fun D σ H ⟨Y, e, F, fl, ok, ev, q⟩ => ?_
    obtain ⟨u, v, e1, r, e2, h1, h2, h3, h4, rfl⟩ := inv_sAug ev
    cases bop_sub h3
    obtain ⟨w, g1, g2⟩ := ok.fz i _ h1
    refine ⟨w, g1, Y, e, F, _, e1, ok, h2, fun v' F1 H1 ok1 st1 rv1 => ?_⟩
    cases rv1
    cases g2
    exact ⟨u, v, rfl, rfl, q _ F1 H1 (ok1.put (.int _) h4).1⟩
  | _ => cases hop
theorem inv_sAugS {op : Bop} {e : En} {fl : Fl} (h : sAugS i b op a e = some fl) : ∃ k e1 b0 xs p q e2 r bb ys j, b e = some (.d (.int k), e1) ∧ e1[i]? = some (Sv.ow b0 xs) ∧ ixD xs k = some (.int p) ∧ a e1 = some (.d (.int q), e2) ∧ bop op (.int p) (.int q) = some (.d r) ∧ e2[i]? = some (Sv.ow bb ys) ∧ ixN ys.length k = some j ∧ isOw e i = true ∧ fl = .nx (e2.set i (.ow bb (ys.set j r))) := by
  unfold sAugS at h
  repeat' split at h
  all_goals first | (cases h; done) | (cases h; exact ⟨_, _, _, _, _, _, _, _, _, _, _, by assumption, by assumption, by assumption, by assumption, by assumption, by assumption, by assumption, by assumption, rfl⟩)
theorem augS_reads {op : Bop} {tip : TIp} {o : PyData → PyData → PyData} (hop : ∀ p q r, bop op (.int p) (.int q) = some (.d r) → ∃ w : Int, r = .int w ∧ ∀ H Q, Q (.int w) H → tip (.int p) (.int q) H Q) {D : Ends} {σ : L2.St} {H : Hp}
    (h : wS X.K (sAugS i b op a) D σ H) : tAugS (tVar i) (wV X.K b) (wV X.K a) (rGetL X.K) tip rSetL D σ H := by
  obtain ⟨Y, e, F, fl, ok, ev, q⟩ := h
  obtain ⟨kk, e1, b0, xs, u, v, e2, r, bb, ys, j, h1, h2, h3, h4, h5, h6, h7, h8, rfl⟩ := inv_sAugS ev
  obtain ⟨w, rfl, hw⟩ := hop u v r h5
  obtain ⟨b1, xs1, g0⟩ := inv_isOw h8
  obtain ⟨p, vs0, g1, _⟩ := ok.ow i _ _ g0
  refine ⟨_, g1, Y, e, F, _, e1, ok, h1, fun v1 F1 H1 ok1 st1 rv1 => ?_⟩
  cases rv1
  obtain ⟨p', vs, g2, g3, g4, g5, g6⟩ := ok1.ow i _ _ h2
  rw [g1] at g2
  cases g2
  obtain ⟨w', k1, k2⟩ := atI_rp g5 h3
  cases k2
  refine ⟨p, vs, kk, _, rfl, rfl, SqL.of g3, k1, Y, e1, F1, _, e2, ok1, h4, fun v2 F2 H2 ok2 st2 rv2 => ?_⟩
  cases rv2
  refine hw _ _ ?_
  obtain ⟨p'', ws, m2, m3, m4, m5, m6⟩ := ok2.ow i _ _ h6
  rw [g1] at m2
  cases m2
  exact ⟨p, ws, kk, j, rfl, rfl, m3, ixN_rp m5 h7, q σ F2 _ (ok2.write h6 g1 (RpA.set (.int _) j m5)).1⟩
theorem s_augS {op : Bop} (hop : (match op with | .add => true | .sub => true | _ => false) = true) (ho : PE X x (tVar i)) (hb : PE X y (wV X.K b)) (he : PE X z (wV X.K a)) (hs : notSl y = true) : PS X (.AugAssign (.Subscript x y p) (opB op) z pos) (wS X.K (sAugS i b op a)) := by
  have ha : ∀ ov iv new, augStore y ov iv new = (do holding [new, ov, iv] (setItem ov iv new); release [new, ov, iv] []; pure .next) := fun ov iv new => by cases y <;> first | rfl | (cases hs; done)
  cases op with
  | add => exact (ps_augS ho hb get_list he ip_add set_list ha).imp fun D σ H h => augS_reads (o := fun x _ => x) (fun p q r z => by cases bop_add z; exact ⟨_, rfl, fun H Q w => ⟨_, _, rfl, rfl, w⟩⟩) h
  | sub => exact (ps_augS ho hb get_list he ip_sub set_list ha).imp fun D σ H h => augS_reads (o := fun x _ => x) (fun p q r z => by cases bop_sub z; exact ⟨_, rfl, fun H Q w => ⟨_, _, rfl, rfl, w⟩⟩) h
  | _ => cases hop
theorem inv_sApp {e : En} {fl : Fl} (h : sApp i a e = some fl) : ∃ r e1 d e2 b xs, a e = some (r, e1) ∧ frz r e1 = some (d, e2) ∧ e2[i]? = some (Sv.ow b xs) ∧ (decide (xs.length < lim) && isOw e i) = true ∧ fl = .nx (e2.set i (.ow b (xs ++ [d]))) := by
  unfold sApp at h
  repeat' split at h
  all_goals first | (cases h; done) | (cases h; exact ⟨_, _, _, _, _, _, by assumption, by assumption, by assumption, by assumption, rfl⟩)
theorem s_app (ho : PE X x (tVar i)) (ha : PE X y (wV X.K a)) (hb : notCall0 x = true) (hl : (ap.endLine == p.line) = true) (hs : notStar y = true) : PS X (.Expr (.Call (.Attribute x "append" ap) [y] [] p) pos) (wS X.K (sApp i a)) := by
  refine (ps_expr (pe_bm PySem.F.plainAttrs_list PySem.F.slot_list_append PySem.F.type_list_append mt_append ho (pa_cons ha pa_nil (starPlain hs)) (basePlain hb) (few0 hs) hl (starPlain hs) rfl)).imp fun D σ H ⟨Y, e, F, fl, ok, ev, q⟩ => ?_
  obtain ⟨r, e1, d, e2, bb, xs, h1, h2, h3, h4, rfl⟩ := inv_sApp ev
  rw [Bool.and_eq_true] at h4
  obtain ⟨b0, xs0, g0⟩ := inv_isOw h4.2
  obtain ⟨p, vs0, g1, g2, _⟩ := ok.ow i _ _ g0
  refine ⟨_, g1, .inl ⟨rfl, vs0, SqL.of g2⟩, Y, e, F, r, e1, ok, h1, fun v F1 H1 ok1 st1 rv1 => ?_⟩
  obtain ⟨F2, ok2, st2, rp⟩ := frzd ok ok1 st1 rv1 h2
  obtain ⟨p', vs, m1, m2, m3, m4, m5⟩ := ok2.ow i _ _ h3
  rw [g1] at m1
  cases m1
  have h5 : xs.length < lim := of_decide_eq_true h4.1
  have h6 := lim_le
  exact ⟨p, vs, v, rfl, rfl, m2, by rw [m4.length]; omega, q σ F2 _ (ok2.write h3 g1 (m4.append (.cons rp .nil))).1⟩
theorem inv_sExt {e : En} {fl : Fl} (h : sExt i a e = some fl) : ∃ r e1 ds e2 b xs, a e = some (r, e1) ∧ frz r e1 = some (.list ds, e2) ∧ e2[i]? = some (Sv.ow b xs) ∧ (decide (xs.length + ds.length ≤ lim) && isOw e i) = true ∧ fl = .nx (e2.set i (.ow b (xs ++ ds))) := by
  unfold sExt at h
  repeat' split at h
  all_goals first | (cases h; done) | (cases h; exact ⟨_, _, _, _, _, _, by assumption, by assumption, by assumption, by assumption, rfl⟩)
theorem s_ext (ho : PE X x (tVar i)) (ha : PE X y (wV X.K a)) (hb : notCall0 x = true) (hl : (ap.endLine == p.line) = true) (hs : notStar y = true) : PS X (.Expr (.Call (.Attribute x "extend" ap) [y] [] p) pos) (wS X.K (sExt i a)) := by
  refine (ps_expr (pe_bm PySem.F.plainAttrs_list PySem.F.slot_list_extend PySem.F.type_list_extend mt_extend ho (pa_cons ha pa_nil (starPlain hs)) (basePlain hb) (few0 hs) hl (starPlain hs) rfl)).imp fun D σ H ⟨Y, e, F, fl, ok, ev, q⟩ => ?_
  obtain ⟨r, e1, ds, e2, bb, xs, h1, h2, h3, h4, rfl⟩ := inv_sExt ev
  rw [Bool.and_eq_true] at h4
  obtain ⟨b0, xs0, g0⟩ := inv_isOw h4.2
  obtain ⟨p, vs0, g1, g2, _⟩ := ok.ow i _ _ g0
  refine ⟨_, g1, .inl ⟨rfl, vs0, SqL.of g2⟩, Y, e, F, r, e1, ok, h1, fun v F1 H1 ok1 st1 rv1 => ?_⟩
  obtain ⟨F2, ok2, st2, rp⟩ := frzd ok ok1 st1 rv1 h2
  obtain ⟨p', vs, m1, m2, m3, m4, m5⟩ := ok2.ow i _ _ h3
  rw [g1] at m1
  cases m1
  have h5 : xs.length + ds.length ≤ lim := of_decide_eq_true h4.1
  have h6 := lim_le
  cases rp with
  | lst hp ra => exact ⟨p, _, vs, _, rfl, rfl, m2, ok2.sub _ _ hp, by rw [m4.length, ra.length]; omega, q σ F2 _ (ok2.write h3 g1 (m4.append ra)).1⟩
theorem s_ex (he : PE X y (wV X.K a)) (hl : notLc y = true) : PS X (.Expr y pos) (wS X.K (sEx a)) := by
  refine (ps_expr he (swPlain hl)).imp fun D σ H ⟨Y, e, F, fl, ok, ev, q⟩ => ?_
  unfold sEx at ev
  cases h1 : a e with
  | none => rw [h1] at ev; cases ev
  | some pr =>
    obtain ⟨r, e1⟩ := pr
    rw [h1] at ev
    cases ev
    exact ⟨Y, e, F, r, e1, ok, h1, fun v F1 H1 ok1 st1 rv1 => q σ F1 H1 ok1⟩
theorem inv_sRet {e : En} {fl : Fl} (h : sRet a e = some fl) : ∃ x e1, a e = some (x, e1) ∧ ((∃ d, x = .d d ∧ fl = .rt (.d d) e1) ∨ (∃ xs, x = .own xs ∧ fl = .rt (.own xs) e1) ∨ ∃ i, x = .loc i ∧ ((∃ d, e1[i]? = some (Sv.fz d) ∧ fl = .rt (.d d) e1) ∨ ∃ xs, e1[i]? = some (Sv.ow false xs) ∧ fl = .rt (.own xs) (e1.set i .un))) := by
  unfold sRet at h
  repeat' split at h
  all_goals first
    | (cases h; done)
    | (cases h; exact ⟨_, _, by assumption, .inl ⟨_, rfl, rfl⟩⟩)
    | (cases h; exact ⟨_, _, by assumption, .inr (.inl ⟨_, rfl, rfl⟩)⟩)
    | (cases h; exact ⟨_, _, by assumption, .inr (.inr ⟨_, rfl, .inl ⟨_, by assumption, rfl⟩⟩)⟩)
    | (cases h; exact ⟨_, _, by assumption, .inr (.inr ⟨_, rfl, .inr ⟨_, by assumption, rfl⟩⟩)⟩)
theorem Ok.forget {K : PySem.W.Frag} {Y : Fx} {σ : L2.St} {e : En} {F H : Hp} (k : Ok K Y σ e F H) {i : Nat} {xs : List PyData} (h : e[i]? = some (.ow false xs)) : Ok K Y σ (e.set i .un) F H where
  len := by rw [List.length_set]; exact k.len
  sub := k.sub
  fz := fun j d z => by
    rcases getSet z with ⟨_, e2⟩ | ⟨_, z⟩
    · cases e2
    · exact k.fz j d z
  ow := fun j b ys z => by
    rcases getSet z with ⟨_, e2⟩ | ⟨_, z⟩
    · cases e2
    · exact k.ow j b ys z
  inj := fun a b p ⟨⟨c, ys, z1⟩, z2⟩ ⟨⟨c', ys', z3⟩, z4⟩ => by
    rcases getSet z1 with ⟨_, e2⟩ | ⟨_, z1⟩
    · cases e2
    rcases getSet z3 with ⟨_, e2⟩ | ⟨_, z3⟩
    · cases e2
    exact k.inj a b p ⟨⟨_, _, z1⟩, z2⟩ ⟨⟨_, _, z3⟩, z4⟩
  grow0 := k.grow0
  new0 := k.new0
  keep0 := k.keep0
  stay0 := k.stay0
  pin := fun j u z => by
    obtain ⟨z1, ys, z2⟩ := k.pin j u z
    refine ⟨z1, ys, ?_⟩
    rw [List.getElem?_set_ne fun q => ?_]
    · exact z2
    · subst q
      rw [h] at z2
      cases z2
theorem s_ret (he : PE X y (wV X.K a)) : PS X (.Return (some y) pos) (wS X.K (sRet a)) := by
  refine (ps_ret he).imp fun D σ H ⟨Y, e, F, fl, ok, ev, q⟩ => ?_
  obtain ⟨x, e1, h1, hx⟩ := inv_sRet ev
  refine ⟨Y, e, F, x, e1, ok, h1, fun v F1 H1 ok1 st1 rv1 => ?_⟩
  rcases hx with ⟨d, rfl, rfl⟩ | ⟨xs, rfl, rfl⟩ | ⟨i, rfl, ⟨d, h2, rfl⟩ | ⟨xs, h2, rfl⟩⟩
  · exact q v σ F1 H1 ok1 rv1
  · exact q v σ F1 H1 ok1 (rv1.from ok.stay0)
  · obtain ⟨w, g1, g2⟩ := ok1.fz i _ h2
    have rv1 : σ[i]? = some (some v) := rv1
    rw [g1] at rv1
    cases rv1
    exact q _ σ F1 H1 ok1 g2
  · obtain ⟨p, vs, g1, g2, g3, g4, g5⟩ := ok1.ow i _ _ h2
    have rv1 : σ[i]? = some (some v) := rv1
    rw [g1] at rv1
    cases rv1
    have hY : Y.H0 p = none := by
      rcases g5 with ⟨_, z⟩ | ⟨z, _⟩
      · exact z
      · cases z
    refine q _ σ F1 H1 (ok1.forget h2) ⟨p, vs, rfl, g2, g3, hY, fun j ⟨⟨b, ys, z1⟩, z2⟩ => ?_, g4⟩
    rcases getSet z1 with ⟨_, e2⟩ | ⟨n, z1⟩
    · cases e2
    · exact n (ok1.inj i j p ⟨⟨_, _, h2⟩, g1⟩ ⟨⟨_, _, z1⟩, z2⟩)
theorem s_retN : PS X (.Return none pos) (wS X.K sRetN) := ps_retN.imp fun D σ H ⟨Y, e, F, fl, ok, ev, q⟩ => by
  cases ev
  exact q .non σ F H ok .non
theorem s_brk : PS X (.Break pos) (wS X.K sBrk) := ps_break.imp fun D σ H ⟨Y, e, F, fl, ok, ev, q⟩ => by
  cases ev
  exact q σ F H ok
theorem s_cont : PS X (.Continue pos) (wS X.K sCont) := ps_continue.imp fun D σ H ⟨Y, e, F, fl, ok, ev, q⟩ => by
  cases ev
  exact q σ F H ok
theorem s_pass : PS X (.Pass pos) (wS X.K sPass) := ps_pass.imp fun D σ H ⟨Y, e, F, fl, ok, ev, q⟩ => by
  cases ev
  exact q σ F H ok
theorem s_no {st : Stmt} : PS X st (wS X.K sNo) := ps_never.imp fun D σ H ⟨Y, e, F, fl, ok, ev, q⟩ => nomatch ev
theorem b_nil : PSs X [] (wS X.K sPass) := pss_nil.imp fun D σ H ⟨Y, e, F, fl, ok, ev, q⟩ => by
  cases ev
  exact q σ F H ok
theorem b_cons {st : Stmt} {rest : List Stmt} (h1 : PS X st (wS X.K f)) (h2 : PSs X rest (wS X.K g)) : PSs X (st :: rest) (wS X.K (sSeq f g)) := by
  refine (pss_cons h1 h2).imp fun D σ H ⟨Y, e, F, fl, ok, ev, q⟩ => ?_
  unfold sSeq at ev
  cases h : f e with
  | none => rw [h] at ev; cases ev
  | some fl1 =>
    rw [h] at ev
    cases fl1 with
    | nx e1 => exact ⟨Y, e, F, .nx e1, ok, h, fun σ1 F1 H1 ok1 => ⟨Y, e1, F1, fl, ok1, ev, q⟩⟩
    | rt r e1 =>
      cases ev
      exact ⟨Y, e, F, _, ok, h, q⟩
    | bk e1 =>
      cases ev
      exact ⟨Y, e, F, _, ok, h, q⟩
    | ct e1 =>
      cases ev
      exact ⟨Y, e, F, _, ok, h, q⟩
theorem s_ite {c : Expr} {p q : List Stmt} (hc : PT X c (wT X.K fc)) (h1 : PSs X p (wS X.K f)) (h2 : PSs X q (wS X.K g)) : PS X (.If c p q pos) (wS X.K (sIte fc f g)) := by
  refine (ps_if hc h1 h2).imp fun D σ H ⟨Y, e, F, fl, ok, ev, q⟩ => ?_
  unfold sIte at ev
  cases h : fc e with
  | none => rw [h] at ev; cases ev
  | some pr =>
    obtain ⟨k, e1⟩ := pr
    rw [h] at ev
    refine ⟨Y, e, F, k, e1, ok, h, fun F1 H1 ok1 st1 => ?_⟩
    cases k with
    | true =>
      rw [if_pos rfl]
      exact ⟨Y, e1, F1, fl, ok1, ev, q⟩
    | false =>
      rw [if_neg Bool.false_ne_true]
      exact ⟨Y, e1, F1, fl, ok1, ev, q⟩
theorem s_whl {c : Expr} {p : List Stmt} {M : Nat} (hp : PassesOwn (model X.prog X.w) X.A X.env X.xe) (hc : PT X c (wT X.K fc)) (h1 : PSs X p (wS X.K f)) : PS X (.While c p [] pos) (wS X.K (whL fc f M)) := by
  refine (ps_while hp hc h1).imp fun D σ H ⟨Y, e, F, fl, ok, ev, q⟩ => ?_
  refine ⟨fun m σ H => ∃ e F, Ok X.K Y σ e F H ∧ whL fc f m e = some fl, ⟨M, e, F, ok, ev⟩, ?_⟩
  rintro m σ H ⟨e, F, ok, ev⟩
  cases m with
  | zero => cases ev
  | succ n =>
    rw [whL] at ev
    cases h : fc e with
    | none => rw [h] at ev; cases ev
    | some pr =>
      obtain ⟨k, e1⟩ := pr
      rw [h] at ev
      refine ⟨Y, e, F, k, e1, ok, h, fun F1 H1 ok1 st1 => ?_⟩
      cases k with
      | false =>
        rw [if_neg Bool.false_ne_true]
        cases ev
        exact q σ F1 H1 ok1
      | true =>
        rw [if_pos rfl]
        cases h2 : f e1 with
        | none => simp only [h2] at ev; cases ev
        | some fl1 =>
          simp only [h2] at ev
          refine ⟨fun σ' H' => ∃ e F, Ok X.K Y σ' e F H' ∧ whL fc f n e = some fl, fun σ' H' w => ⟨n, Nat.lt_succ_self _, w⟩, Y, e1, F1, fl1, ok1, h2, ?_⟩
          cases fl1 with
          | nx e2 => exact fun σ2 F2 H2 ok2 => ⟨e2, F2, ok2, ev⟩
          | ct e2 => exact fun σ2 F2 H2 ok2 => ⟨e2, F2, ok2, ev⟩
          | bk e2 =>
            cases ev
            exact q
          | rt r e2 =>
            cases ev
            exact q
theorem EndsOk.rebase {K : PySem.W.Frag} {Y : Fx} {σ : L2.St} {e : En} {F H : Hp} {D : Ends} {fl : Fl} (ok : Ok K Y σ e F H) (q : EndsOk K Y D fl) : EndsOk K { Y with F0 := F } D fl := by
  cases fl with
  | nx e' => exact fun σ' F' H' k => q σ' F' H' (ok.unbase k)
  | bk e' => exact fun σ' F' H' k => q σ' F' H' (ok.unbase k)
  | ct e' => exact fun σ' F' H' k => q σ' F' H' (ok.unbase k)
  | rt r e' => exact fun v σ' F' H' k => q v σ' F' H' (ok.unbase k)
theorem s_for {tg iter : Expr} {t : Tg} {p : List Stmt} (hp : PassesOwn (model X.prog X.w) X.A X.env X.xe) (hc : X.calm = true) (hi : PI X tg iter (wI X.K fi)) (hg : PG X tg (wG X.K t)) (h1 : PSs X p (wS X.K f)) (hs : notSet iter = true) : PS X (.For tg iter p [] pos) (wS X.K (sFor t fi f)) := by
  refine (ps_for hp hc hi hg h1 (setPlain hs)).imp fun D σ H ⟨Y, e, F, fl, ok, ev, q⟩ => ?_
  unfold sFor at ev
  cases h : fi e with
  | none => rw [h] at ev; cases ev
  | some pr =>
    obtain ⟨ds, e1⟩ := pr
    rw [h] at ev
    refine ⟨Y, e, F, ds, e1, ok, h, fun J F1 H1 ok1 st1 jo => ?_⟩
    have q1 := EndsOk.rebase ok1 q
    generalize hY : ({ Y with F0 := F1 } : Fx) = Y1 at q1
    have hF0 : Y1.F0 = F1 := by rw [← hY]
    have ok1' : Ok X.K Y1 σ e1 F1 H1 := by rw [← hY]; exact ok1.rebase
    refine ⟨fun i m σ H => m = ds.length - i ∧ i ≤ ds.length ∧ ∃ ei Fi, Ok X.K Y1 σ ei Fi H ∧ forL (fun d e => match tgt t d e with
      | some e2 => f e2
      | none => none) (ds.drop i) ei = some fl, ⟨_, rfl, Nat.zero_le _, e1, F1, ok1', ev⟩, ?_⟩
    rintro i m σ' H' ⟨rfl, hi', ei, Fi, oki, hl⟩
    have gr : Sub F1 Fi := by
      have := oki.grow0
      rw [hF0] at this
      exact this
    by_cases hlt : i < ds.length
    · refine .inr ⟨jo.go i H' hlt (gr.trans oki.sub), fun σ2 H2 => ∃ ei Fi, Ok X.K Y1 σ2 ei Fi H2 ∧ forL (fun d e => match tgt t d e with
        | some e2 => f e2
        | none => none) (ds.drop (i + 1)) ei = some fl, fun σ2 H2 w => ⟨_, by omega, rfl, hlt, w⟩, fun x H2 y => ?_⟩
      obtain ⟨d, F2, hd, g, rp⟩ := jo.yld i Fi H' x H2 hlt gr oki.sub y
      have hdrop : ds.drop i = d :: ds.drop (i + 1) := by
        rw [List.drop_eq_getElem_cons hlt]
        rw [List.getElem?_eq_getElem hlt] at hd
        cases hd
        rfl
      rw [hdrop, forL] at hl
      cases ht : tgt t d ei with
      | none => simp only [ht] at hl; cases hl
      | some e2 =>
        simp only [ht] at hl
        refine ⟨Y1, ei, F2, d, e2, oki.gr g, rp, ht, fun σ2 ok2 _ _ _ => ?_⟩
        cases hf : f e2 with
        | none => simp only [hf] at hl; cases hl
        | some fl1 =>
          simp only [hf] at hl
          refine ⟨Y1, e2, F2, fl1, ok2, hf, ?_⟩
          cases fl1 with
          | nx e3 => exact fun σ3 F3 H3 ok3 => ⟨e3, F3, ok3, hl⟩
          | ct e3 => exact fun σ3 F3 H3 ok3 => ⟨e3, F3, ok3, hl⟩
          | bk e3 =>
            cases hl
            exact q1
          | rt r e3 =>
            cases hl
            exact q1
    · have e0 : i = ds.length := by omega
      subst e0
      rw [List.drop_length, forL] at hl
      cases hl
      exact .inl ⟨jo.stop H' (gr.trans oki.sub), q1 σ' Fi H' oki⟩
end
end De
end

section
set_option maxHeartbeats 4000000
namespace De
open PySem PySem.Spec PyProof.Rows L2

section
variable (G : Pg) (k : Nat) (N : List Str)
structure EOk (u : E) : Prop where
  v : ∀ (X : Cx) (sc : Scope), Cy G k N X sc → ∀ x, (ck G N u).e sc x = true → PE X x (wV X.K (ev (run G.M G.P k) u).v)
  t : ∀ (X : Cx) (sc : Scope), Cy G k N X sc → ∀ x, (ck G N u).t sc x = true → PT X x (wT X.K (ev (run G.M G.P k) u).t)
  w : ∀ (X : Cx) (sc : Scope), Cy G k N X sc → ∀ o l p, (ck G N u).t sc (.BoolOp o l p) = true → PW X (.BoolOp o l p) (wT X.K (ev (run G.M G.P k) u).t)
  i : ∀ (X : Cx) (sc : Scope), Cy G k N X sc → ∀ tg x, (ck G N u).i sc tg x = true → PI X tg x (wI X.K (ev (run G.M G.P k) u).i)
structure EsOk (t : Es) : Prop where
  a : ∀ (X : Cx) (sc : Scope), Cy G k N X sc → ∀ xs, cks G N t sc xs = true → PA X xs (wA X.K (evs (run G.M G.P k) t).a)
  d : ∀ (X : Cx) (sc : Scope), Cy G k N X sc → ∀ xs, cks G N t sc xs = true → PA X xs (wD X.K (evs (run G.M G.P k) t).d)
  p : ∀ sc xs, cks G N t sc xs = true → xs.all notStar = true
end
section
variable {G : Pg} {k : Nat} {N : List Str}
theorem EOk.ofV {t : E} {f : Scope → Expr → Bool} {fv : FV} (h1 : ck G N t = ckV f) (h2 : ev (run G.M G.P k) t = mkV fv) (hv : ∀ (X : Cx) (sc : Scope), Cy G k N X sc → ∀ x, f sc x = true → PE X x (wV X.K fv)) : EOk G k N t where
  v := fun X sc C x h => by
    rw [h1] at h
    rw [h2]
    exact hv X sc C x h
  t := fun X sc C x h => by
    rw [h1] at h
    rw [h2]
    obtain ⟨a, b⟩ := and2 h
    exact r_test (hv X sc C x a) b
  w := fun X sc C o l p h => by
    rw [h1] at h
    obtain ⟨a, b⟩ := and2 h
    cases b
  i := fun X sc C tg x h => by
    rw [h1] at h
    rw [h2]
    exact r_iter (hv X sc C x h)
theorem EOk.ofN {t : E} {f : Scope → Expr → Bool} {fv : FV} (h1 : ck G N t = ckN f) (h2 : ev (run G.M G.P k) t = mkV fv) (hv : ∀ (X : Cx) (sc : Scope), Cy G k N X sc → ∀ x, f sc x = true → PE X x (wV X.K fv)) : EOk G k N t where
  v := fun X sc C x h => by
    rw [h1] at h
    rw [h2]
    exact hv X sc C x h
  t := fun X sc C x h => by
    rw [h1] at h
    cases h
  w := fun X sc C o l p h => by
    rw [h1] at h
    cases h
  i := fun X sc C tg x h => by
    rw [h1] at h
    cases h
theorem EOk.ofI {t : E} {f : Scope → Expr → Expr → Bool} {fv : FI} (h1 : ck G N t = ckI f) (h2 : (ev (run G.M G.P k) t).i = fv) (hv : ∀ (X : Cx) (sc : Scope), Cy G k N X sc → ∀ tg x, f sc tg x = true → PI X tg x (wI X.K fv)) : EOk G k N t where
  v := fun X sc C x h => by
    rw [h1] at h
    cases h
  t := fun X sc C x h => by
    rw [h1] at h
    cases h
  w := fun X sc C o l p h => by
    rw [h1] at h
    cases h
  i := fun X sc C tg x h => by
    rw [h1] at h
    rw [h2]
    exact hv X sc C tg x h
theorem c_cst (d : Dt) (X : Cx) (sc : Scope) (x : Expr) (h : cCst d sc x = true) : PE X x (wV X.K (vCst d)) := by
  cases x with
  | Constant c j p =>
    have h : cstO d c = true := h
    cases d with
    | none => cases c with
      | none => exact r_cst (v := .non) (fun F => .non) pe_non
      | _ => cases h
    | bool b => cases c with
      | bool b' =>
        have : b = b' := by simpa using (show (b == b') = true from h)
        subst this
        exact r_cst (v := .bl b) (fun F => .bl b) pe_bl
      | _ => cases h
    | int i => cases c with
      | int i' =>
        have : i = i' := of_decide_eq_true h
        subst this
        exact r_cst (v := .int i) (fun F => .int i) pe_int
      | _ => cases h
    | str i => cases c with
      | str i' =>
        have : i = i' := of_decide_eq_true h
        subst this
        exact r_cst (v := .str i) (fun F => .str i) pe_str
      | _ => cases h
    | _ => cases c <;> cases h
  | _ => cases h
theorem c_glob (xn : Str) (d : Dt) (X : Cx) (sc : Scope) (C : Cy G k N X sc) (x : Expr) (h : cGlob G xn d sc x = true) : PE X x (wV X.K (vCst d)) := by
  cases x with
  | Name y p =>
    cases d with
    | int i =>
      have h : (decide (xn = y) && glO sc y && G.gl.any fun q => decide (q.1 = y) && decide (q.2 = i)) = true := h
      obtain ⟨h, h3⟩ := and2 h
      obtain ⟨h1, h2⟩ := and2 h
      obtain ⟨q, hq, hq2⟩ := List.any_eq_true.mp h3
      obtain ⟨e1, e2⟩ := and2 hq2
      have e1 : q.1 = y := of_decide_eq_true e1
      have e2 : q.2 = i := of_decide_eq_true e2
      obtain ⟨t, ht⟩ := C.gl q hq
      subst e1 e2
      obtain ⟨g1, g2⟩ := C.gl' h2
      exact r_cst (v := .int q.2) (fun F => .int _) (pe_glob g1 ht ⟨_, rfl⟩ g2)
    | _ => cases h
  | _ => cases h
theorem c_nm (i : Nat) (X : Cx) (sc : Scope) (C : Cy G k N X sc) (x : Expr) (h : cNm N i sc x = true) : PE X x (wV X.K (vNm i)) := by
  cases x with
  | Name y p => exact r_nm (C.pv h)
  | _ => cases h
theorem c_comp (elt : E) (own : List Nat) (t : Tg) (it : E) (e1 : EOk G k N elt) (e2 : EOk G k N it) (X : Cx) (sc : Scope) (C : Cy G k N X sc) (x : Expr) (h : cComp N own t sc (ck G N elt).e ((ck G N it).i sc) x = true) :
    PE X x (wV X.K (vComp (ev (run G.M G.P k) elt).v own t (ev (run G.M G.P k) it).i fYes)) := by
  cases x with
  | ListComp e gs s p =>
    match gs, h with
    | [⟨tg, iter, [], 0⟩], h =>
      have h : ((ck G N elt).e (relS s sc) e && chkTg N s t tg && (ck G N it).i sc tg iter && blkC N sc s (ownN N own) && notSet iter && (tgN t).all fun i => own.contains i) = true := h
      obtain ⟨h, h6⟩ := and2 h
      obtain ⟨h, h5⟩ := and2 h
      obtain ⟨h, h4⟩ := and2 h
      obtain ⟨h, h3⟩ := and2 h
      obtain ⟨h1, h2⟩ := and2 h
      exact r_lc C (e2.i X sc C tg iter h3) h4 h2 h6 h5 (fun X' hK C' => e1.v X' _ C' e h1) (fun X' hK C' => pts_yes)
  | _ => cases h
theorem c_compIf (elt : E) (own : List Nat) (t : Tg) (it c : E) (e1 : EOk G k N elt) (e2 : EOk G k N it) (e3 : EOk G k N c) (X : Cx) (sc : Scope) (C : Cy G k N X sc) (x : Expr) (h : cCompIf N own t sc (ck G N elt).e (ck G N c).t ((ck G N it).i sc) x = true) :
    PE X x (wV X.K (vComp (ev (run G.M G.P k) elt).v own t (ev (run G.M G.P k) it).i (ev (run G.M G.P k) c).t)) := by
  cases x with
  | ListComp e gs s p =>
    match gs, h with
    | [⟨tg, iter, [f], 0⟩], h =>
      have h : ((ck G N elt).e (relS s sc) e && chkTg N s t tg && (ck G N it).i sc tg iter && blkC N sc s (ownN N own) && notSet iter && ((tgN t).all fun i => own.contains i) && (ck G N c).t (relS s sc) f) = true := h
      obtain ⟨h, h7⟩ := and2 h
      obtain ⟨h, h6⟩ := and2 h
      obtain ⟨h, h5⟩ := and2 h
      obtain ⟨h, h4⟩ := and2 h
      obtain ⟨h, h3⟩ := and2 h
      obtain ⟨h1, h2⟩ := and2 h
      exact r_lc C (e2.i X sc C tg iter h3) h4 h2 h6 h5 (fun X' hK C' => e1.v X' _ C' e h1) (fun X' hK C' => pts_one (e3.t X' _ C' f h7))
  | _ => cases h
theorem nmP {X : Cx} {sc : Scope} {i : Nat} {y : Str} (h : nmO N sc i y = true) : notCall0 (.Name y p) = true := rfl
mutual
theorem e_ok : ∀ t : E, EOk G k N t
  | .cst d => .ofV rfl rfl fun X sc C x h => c_cst d X sc x h
  | .glob y d => .ofV rfl rfl fun X sc C x h => c_glob y d X sc C x h
  | .nm i => .ofV rfl rfl fun X sc C x h => c_nm i X sc C x h
  | .bin op a b => .ofV rfl rfl fun X sc C x h => by
    cases x with
    | BinOp l o r p =>
      obtain ⟨h, h3⟩ := and2 (show (decide (opB op = o) && (ck G N a).e sc l && (ck G N b).e sc r) = true from h)
      obtain ⟨h1, h2⟩ := and2 h
      have h1 : opB op = o := of_decide_eq_true h1
      subst h1
      exact r_bin ((e_ok a).v X sc C l h2) ((e_ok b).v X sc C r h3)
    | _ => cases h
  | .neg a => .ofN rfl rfl fun X sc C x h => by
    cases x with
    | UnaryOp o y p => cases o with
      | USub => exact r_neg ((e_ok a).v X sc C y h)
      | _ => cases h
    | _ => cases h
  | .bits a => .ofV rfl rfl fun X sc C x h => by
    unfold cBits at h
    split at h
    · obtain ⟨h, h4⟩ := and2 h
      obtain ⟨h, h3⟩ := and2 h
      obtain ⟨h1, h2⟩ := and2 h
      cases of_decide_eq_true h1
      exact r_bits ((e_ok a).v X sc C _ h2) h4 h3
    · cases h
  | .cmp op a b => by
    have key : ∀ (X : Cx) (sc : Scope), Cy G k N X sc → ∀ x, cCmp op ((ck G N a).e sc) ((ck G N b).e sc) x = true → PE X x (wV X.K (vCmp op (ev (run G.M G.P k) a).v (ev (run G.M G.P k) b).v)) ∧ PT X x (wT X.K (tOf (vCmp op (ev (run G.M G.P k) a).v (ev (run G.M G.P k) b).v))) := fun X sc C x h => by
      unfold cCmp at h
      split at h
      · obtain ⟨h, h4⟩ := and2 h
        obtain ⟨h, h3⟩ := and2 h
        obtain ⟨h1, h2⟩ := and2 h
        cases of_decide_eq_true h1
        exact ⟨r_cmp C.hu ((e_ok a).v X sc C _ h2) ((e_ok b).v X sc C _ h3) h4, r_cmpT C.hu ((e_ok a).v X sc C _ h2) ((e_ok b).v X sc C _ h3) h4⟩
      · cases h
    exact ⟨fun X sc C x h => (key X sc C x h).1, fun X sc C x h => (key X sc C x h).2, fun X sc C o l p h => (nomatch (show false = true from h)), fun X sc C tg x h => (nomatch (show false = true from h))⟩
  | .cmp2 op op2 a b c => by
    have key : ∀ (X : Cx) (sc : Scope), Cy G k N X sc → ∀ x, cCmp2 op op2 ((ck G N a).e sc) ((ck G N b).e sc) ((ck G N c).e sc) x = true → PE X x (wV X.K (vCmp2 op op2 (ev (run G.M G.P k) a).v (ev (run G.M G.P k) b).v (ev (run G.M G.P k) c).v)) ∧ PT X x (wT X.K (tOf (vCmp2 op op2 (ev (run G.M G.P k) a).v (ev (run G.M G.P k) b).v (ev (run G.M G.P k) c).v))) := fun X sc C x h => by
      unfold cCmp2 at h
      split at h
      · obtain ⟨h, h7⟩ := and2 h
        obtain ⟨h, h6⟩ := and2 h
        obtain ⟨h, h5⟩ := and2 h
        obtain ⟨h, h4⟩ := and2 h
        obtain ⟨h, h3⟩ := and2 h
        obtain ⟨h1, h2⟩ := and2 h
        cases of_decide_eq_true h1
        cases of_decide_eq_true h2
        exact ⟨r_cmp2 C.hu ((e_ok a).v X sc C _ h3) ((e_ok b).v X sc C _ h4) ((e_ok c).v X sc C _ h5) h6 h7, r_cmp2T C.hu ((e_ok a).v X sc C _ h3) ((e_ok b).v X sc C _ h4) ((e_ok c).v X sc C _ h5) h6 h7⟩
      · cases h
    exact ⟨fun X sc C x h => (key X sc C x h).1, fun X sc C x h => (key X sc C x h).2, fun X sc C o l p h => (nomatch (show false = true from h)), fun X sc C tg x h => (nomatch (show false = true from h))⟩
  | .and a b => by
    have key : ∀ (X : Cx) (sc : Scope), Cy G k N X sc → ∀ x, cBo .And ((ck G N a).t sc) ((ck G N b).t sc) x = true → PW X x (wT X.K (tAnd (ev (run G.M G.P k) a).t (ev (run G.M G.P k) b).t)) := fun X sc C x h => by
      unfold cBo at h
      split at h
      · obtain ⟨h, h3⟩ := and2 h
        obtain ⟨h1, h2⟩ := and2 h
        cases of_decide_eq_true h1
        exact r_andT ((e_ok a).t X sc C _ h2) ((e_ok b).w X sc C _ _ _ h3)
      · cases h
    refine ⟨fun X sc C x h => ?_, fun X sc C x h => (key X sc C x h).pt, fun X sc C o l p h => key X sc C _ h, fun X sc C tg x h => (nomatch (show false = true from h))⟩
    have h : cBo .And ((ck G N a).e sc) ((ck G N b).e sc) x = true := h
    unfold cBo at h
    split at h
    · obtain ⟨h, h3⟩ := and2 h
      obtain ⟨h1, h2⟩ := and2 h
      cases of_decide_eq_true h1
      exact r_and ((e_ok a).v X sc C _ h2) ((e_ok b).v X sc C _ h3)
    · cases h
  | .or a b => by
    have key : ∀ (X : Cx) (sc : Scope), Cy G k N X sc → ∀ x, cBo .Or ((ck G N a).t sc) ((ck G N b).t sc) x = true → PW X x (wT X.K (tOr (ev (run G.M G.P k) a).t (ev (run G.M G.P k) b).t)) := fun X sc C x h => by
      unfold cBo at h
      split at h
      · obtain ⟨h, h3⟩ := and2 h
        obtain ⟨h1, h2⟩ := and2 h
        cases of_decide_eq_true h1
        exact r_orT ((e_ok a).t X sc C _ h2) ((e_ok b).w X sc C _ _ _ h3)
      · cases h
    refine ⟨fun X sc C x h => ?_, fun X sc C x h => (key X sc C x h).pt, fun X sc C o l p h => key X sc C _ h, fun X sc C tg x h => (nomatch (show false = true from h))⟩
    have h : cBo .Or ((ck G N a).e sc) ((ck G N b).e sc) x = true := h
    unfold cBo at h
    split at h
    · obtain ⟨h, h3⟩ := and2 h
      obtain ⟨h1, h2⟩ := and2 h
      cases of_decide_eq_true h1
      exact r_or ((e_ok a).v X sc C _ h2) ((e_ok b).v X sc C _ h3)
    · cases h
  | .one a => by
    have key : ∀ (X : Cx) (sc : Scope), Cy G k N X sc → ∀ x, cOne ((ck G N a).t sc) x = true → PW X x (wT X.K (ev (run G.M G.P k) a).t) := fun X sc C x h => by
      unfold cOne at h
      split at h
      · rename_i o y p
        cases o with
        | And => exact pw_and1 ((e_ok a).t X sc C _ h)
        | Or => exact pw_or1 ((e_ok a).t X sc C _ h)
      · cases h
    refine ⟨fun X sc C x h => ?_, fun X sc C x h => (key X sc C x h).pt, fun X sc C o l p h => key X sc C _ h, fun X sc C tg x h => (nomatch (show false = true from h))⟩
    have h : cOne ((ck G N a).e sc) x = true := h
    unfold cOne at h
    split at h
    · exact pe_one ((e_ok a).v X sc C _ h)
    · cases h
  | .not a => by
    refine ⟨fun X sc C x h => ?_, fun X sc C x h => ?_, fun X sc C o l p h => (nomatch (show false = true from h)), fun X sc C tg x h => (nomatch (show false = true from h))⟩
    · have h : cNot ((ck G N a).e sc) x = true := h
      unfold cNot at h
      split at h
      · exact r_not ((e_ok a).v X sc C _ h)
      · cases h
    · have h : cNot ((ck G N a).t sc) x = true := h
      unfold cNot at h
      split at h
      · exact r_notT ((e_ok a).t X sc C _ h)
      · cases h
  | .ite c a b => .ofN rfl rfl fun X sc C x h => by
    unfold cIte at h
    split at h
    · obtain ⟨h, h3⟩ := and2 h
      obtain ⟨h1, h2⟩ := and2 h
      exact r_ite ((e_ok c).t X sc C _ h1) ((e_ok a).v X sc C _ h2) ((e_ok b).v X sc C _ h3)
    · cases h
  | .tup es => .ofV rfl rfl fun X sc C x h => by
    unfold cTup at h
    split at h
    · exact r_tup ((es_ok es).d X sc C _ h)
    · cases h
  | .lst es => .ofV rfl rfl fun X sc C x h => by
    unfold cLst at h
    split at h
    · exact r_lst ((es_ok es).d X sc C _ h)
    · cases h
  | .ix a i => .ofV rfl rfl fun X sc C x h => by
    unfold cIx at h
    split at h
    · obtain ⟨h, h3⟩ := and2 h
      obtain ⟨h1, h2⟩ := and2 h
      exact r_ix ((e_ok a).v X sc C _ h1) ((e_ok i).v X sc C _ h2) h3
    · cases h
  | .slF a lo => .ofV rfl rfl fun X sc C x h => by
    unfold cSlF at h
    split at h
    · obtain ⟨h1, h2⟩ := and2 h
      exact r_slF ((e_ok a).v X sc C _ h1) ((e_ok lo).v X sc C _ h2)
    · cases h
  | .slT a lo => .ofV rfl rfl fun X sc C x h => by
    unfold cSlT at h
    split at h
    · obtain ⟨h1, h2⟩ := and2 h
      exact r_slT ((e_ok a).v X sc C _ h1) ((e_ok lo).v X sc C _ h2)
    · cases h
  | .sl a lo hi => .ofV rfl rfl fun X sc C x h => by
    unfold cSl at h
    split at h
    · obtain ⟨h, h3⟩ := and2 h
      obtain ⟨h1, h2⟩ := and2 h
      exact r_sl ((e_ok a).v X sc C _ h1) ((e_ok lo).v X sc C _ h2) ((e_ok hi).v X sc C _ h3)
    · cases h
  | .rev a => .ofV rfl rfl fun X sc C x h => by
    unfold cRev at h
    split at h
    · exact r_rev ((e_ok a).v X sc C _ h)
    · cases h
  | .call f es => .ofV rfl rfl fun X sc C x h => by
    have ih := es_ok es
    unfold cCall at h
    split at h
    · rename_i y p1 xs p2
      obtain ⟨h, h4⟩ := and2 h
      obtain ⟨h, h3⟩ := and2 h
      obtain ⟨h1, h2⟩ := and2 h
      have h1 : G.nm[f]? = some y := of_decide_eq_true h1
      cases es with
      | nil =>
        cases xs with
        | nil => exact r_call0 C h1 h2 h4
        | cons z zs => cases h3
      | cons e es =>
        cases xs with
        | nil => cases h3
        | cons z zs => exact r_call C (ih.a X sc C _ h3) (ih.p sc _ h3) h1 h2 h4
    · cases h
  | .blt b a => .ofV rfl rfl fun X sc C x h => by
    unfold cBlt at h
    split at h
    · obtain ⟨h, h4⟩ := and2 h
      obtain ⟨h, h3⟩ := and2 h
      obtain ⟨h1, h2⟩ := and2 h
      cases of_decide_eq_true h1
      exact r_blt C h2 ((e_ok a).v X sc C _ h3) h4
    · cases h
  | .blt2 b a c => .ofV rfl rfl fun X sc C x h => by
    unfold cBlt2 at h
    split at h
    · obtain ⟨h, h6⟩ := and2 h
      obtain ⟨h, h5⟩ := and2 h
      obtain ⟨h, h4⟩ := and2 h
      obtain ⟨h, h3⟩ := and2 h
      obtain ⟨h1, h2⟩ := and2 h
      cases of_decide_eq_true h1
      exact r_blt2 C h2 ((e_ok a).v X sc C _ h3) ((e_ok c).v X sc C _ h4) h5 h6
    · cases h
  | .isi t a => .ofV rfl rfl fun X sc C x h => by
    unfold cIsi at h
    split at h
    · obtain ⟨h, h6⟩ := and2 h
      obtain ⟨h, h5⟩ := and2 h
      obtain ⟨h, h4⟩ := and2 h
      obtain ⟨h, h3⟩ := and2 h
      obtain ⟨h1, h2⟩ := and2 h
      cases of_decide_eq_true h1
      cases of_decide_eq_true h4
      exact r_isi C h2 h5 ((e_ok a).v X sc C _ h3) h6
    · cases h
  | .tupRev a => .ofV rfl rfl fun X sc C x h => by
    unfold cTupRev at h
    split at h
    · obtain ⟨h, h6⟩ := and2 h
      obtain ⟨h, h5⟩ := and2 h
      obtain ⟨h, h4⟩ := and2 h
      obtain ⟨h, h3⟩ := and2 h
      obtain ⟨h1, h2⟩ := and2 h
      cases of_decide_eq_true h1
      cases of_decide_eq_true h4
      exact r_tupRev C h2 h5 ((e_ok a).v X sc C _ h3) h6
    · cases h
  | .pop i => .ofV rfl rfl fun X sc C x h => by
    unfold cPop at h
    split at h
    · obtain ⟨h, h3⟩ := and2 h
      obtain ⟨h1, h2⟩ := and2 h
      cases of_decide_eq_true h1
      exact r_pop (C.pv h2) rfl h3
    · cases h
  | .popAt i a => .ofV rfl rfl fun X sc C x h => by
    unfold cPopAt at h
    split at h
    · obtain ⟨h, h5⟩ := and2 h
      obtain ⟨h, h4⟩ := and2 h
      obtain ⟨h, h3⟩ := and2 h
      obtain ⟨h1, h2⟩ := and2 h
      cases of_decide_eq_true h1
      exact r_popAt (C.pv h2) ((e_ok a).v X sc C _ h4) rfl h3 h5
    · cases h
  | .comp elt own t it => .ofV rfl rfl fun X sc C x h => c_comp elt own t it (e_ok elt) (e_ok it) X sc C x h
  | .compIf elt own t it c => .ofV rfl rfl fun X sc C x h => c_compIf elt own t it c (e_ok elt) (e_ok it) (e_ok c) X sc C x h
  | .rng1 a => .ofI rfl rfl fun X sc C tg x h => by
    unfold cRng1 at h
    split at h
    · obtain ⟨h, h4⟩ := and2 h
      obtain ⟨h, h3⟩ := and2 h
      obtain ⟨h1, h2⟩ := and2 h
      cases of_decide_eq_true h1
      exact r_rng1 C h2 ((e_ok a).v X sc C _ h3) h4
    · cases h
  | .rng2 a b => .ofI rfl rfl fun X sc C tg x h => by
    unfold cRng2 at h
    split at h
    · obtain ⟨h, h6⟩ := and2 h
      obtain ⟨h, h5⟩ := and2 h
      obtain ⟨h, h4⟩ := and2 h
      obtain ⟨h, h3⟩ := and2 h
      obtain ⟨h1, h2⟩ := and2 h
      cases of_decide_eq_true h1
      exact r_rng2 C h2 ((e_ok a).v X sc C _ h3) ((e_ok b).v X sc C _ h4) h5 h6
    · cases h
  | .rng3 a b c => .ofI rfl rfl fun X sc C tg x h => by
    unfold cRng3 at h
    split at h
    · obtain ⟨h, h8⟩ := and2 h
      obtain ⟨h, h7⟩ := and2 h
      obtain ⟨h, h6⟩ := and2 h
      obtain ⟨h, h5⟩ := and2 h
      obtain ⟨h, h4⟩ := and2 h
      obtain ⟨h, h3⟩ := and2 h
      obtain ⟨h1, h2⟩ := and2 h
      cases of_decide_eq_true h1
      exact r_rng3 C h2 ((e_ok a).v X sc C _ h3) ((e_ok b).v X sc C _ h4) ((e_ok c).v X sc C _ h5) h6 h7 h8
    · cases h
  | .enum a => .ofI rfl rfl fun X sc C tg x h => by
    unfold cEnum at h
    split at h
    · obtain ⟨h, h5⟩ := and2 h
      obtain ⟨h, h4⟩ := and2 h
      obtain ⟨h, h3⟩ := and2 h
      obtain ⟨h1, h2⟩ := and2 h
      cases of_decide_eq_true h1
      exact r_enum C h5 h2 ((e_ok a).v X sc C _ h3) h4
    · cases h
  | .zip a b => .ofI rfl rfl fun X sc C tg x h => by
    unfold cZip at h
    split at h
    · obtain ⟨h, h7⟩ := and2 h
      obtain ⟨h, h6⟩ := and2 h
      obtain ⟨h, h5⟩ := and2 h
      obtain ⟨h, h4⟩ := and2 h
      obtain ⟨h, h3⟩ := and2 h
      obtain ⟨h1, h2⟩ := and2 h
      cases of_decide_eq_true h1
      exact r_zip C h7 h2 ((e_ok a).v X sc C _ h3) ((e_ok b).v X sc C _ h4) h5 h6
    · cases h
  | .revd a => .ofI rfl rfl fun X sc C tg x h => by
    unfold cRevd at h
    split at h
    · obtain ⟨h, h4⟩ := and2 h
      obtain ⟨h, h3⟩ := and2 h
      obtain ⟨h1, h2⟩ := and2 h
      cases of_decide_eq_true h1
      exact r_revd C h2 ((e_ok a).v X sc C _ h3) h4
    · cases h
  | .fz a => .ofV rfl rfl fun X sc C x h => r_fz ((e_ok a).v X sc C x h)
theorem es_ok : ∀ t : Es, EsOk G k N t
  | .nil => by
    refine ⟨fun X sc C xs h => ?_, fun X sc C xs h => ?_, fun sc xs h => ?_⟩
    · cases xs with
      | nil => exact r_aNil
      | cons _ _ => cases h
    · cases xs with
      | nil => exact r_dNil
      | cons _ _ => cases h
    · cases xs with
      | nil => rfl
      | cons _ _ => cases h
  | .cons e es => by
    have key : ∀ sc xs, cks G N (.cons e es) sc xs = true → ∃ y ys, xs = y :: ys ∧ (ck G N e).e sc y = true ∧ notStar y = true ∧ cks G N es sc ys = true := fun sc xs h => by
      cases xs with
      | nil => cases h
      | cons y ys =>
        obtain ⟨h, h3⟩ := and2 (show ((ck G N e).e sc y && notStar y && cks G N es sc ys) = true from h)
        obtain ⟨h1, h2⟩ := and2 h
        exact ⟨y, ys, rfl, h1, h2, h3⟩
    refine ⟨fun X sc C xs h => ?_, fun X sc C xs h => ?_, fun sc xs h => ?_⟩
    · obtain ⟨y, ys, rfl, h1, h2, h3⟩ := key sc xs h
      exact r_aCons ((e_ok e).v X sc C y h1) ((es_ok es).a X sc C ys h3) h2
    · obtain ⟨y, ys, rfl, h1, h2, h3⟩ := key sc xs h
      exact r_dCons ((e_ok e).v X sc C y h1) ((es_ok es).d X sc C ys h3) h2
    · obtain ⟨y, ys, rfl, h1, h2, h3⟩ := key sc xs h
      rw [List.all_cons, h2, (es_ok es).p sc ys h3]
      rfl
end
end
end De
end

section
set_option maxHeartbeats 4000000
namespace De
open PySem PySem.Spec PyProof.Rows L2
theorem zip_lookup_not {α : Type} : ∀ {ps : List Str} {us : List α} {x : Str}, x ∉ ps → (ps.zip us).lookup x = none
  | [], _, _, _ => by simp
  | _ :: _, [], _, _ => by simp
  | p :: ps, u :: us, x, h => by
    rw [List.mem_cons, not_or] at h
    rw [List.zip_cons_cons, List.lookup_cons]
    have : (x == p) = false := by simpa using h.1
    rw [this]
    exact zip_lookup_not h.2
theorem zip_map {α : Type} : ∀ {ps : List Str} {us : List α} {rest : List (Str × α)}, ps.Nodup → us.length = ps.length → (∀ x ∈ ps, rest.lookup x = none) → (ps.filterMap fun n => ((rest ++ ps.zip us).lookup n).map (n, ·)) = ps.zip us
  | [], _, _, _, _, _ => by simp
  | p :: ps, u :: us, rest, nd, hl, hr => by
    obtain ⟨n1, n2⟩ := List.nodup_cons.mp nd
    have h1 : (rest ++ (p :: ps).zip (u :: us)).lookup p = some u := by
      rw [List.lookup_append, hr p List.mem_cons_self, List.zip_cons_cons, List.lookup_cons]
      simp
    rw [List.filterMap_cons, h1, List.zip_cons_cons]
    show (p, u) :: _ = _
    congr 1
    have h2 := zip_map (ps := ps) (us := us) (rest := rest ++ [(p, u)]) n2 (Nat.succ.inj hl) (fun x hx => by
      rw [List.lookup_append, hr x (List.mem_cons_of_mem _ hx)]
      have : (x == p) = false := by
        simp
        exact fun z => n1 (z ▸ hx)
      simp [List.lookup_cons, this])
    rw [List.append_assoc] at h2
    exact h2
  | _ :: _, [], _, _, h, _ => by cases h
theorem zip_some {α : Type} : ∀ {ps : List Str} {us : List α}, us.length = ps.length → ∀ x ∈ ps, ((ps.zip us).lookup x).isNone = false
  | [], _, _, _, h => by cases h
  | p :: ps, u :: us, hl, x, h => by
    rw [List.zip_cons_cons, List.lookup_cons]
    cases q : (x == p)
    · have hx : x ∈ ps := by
        rcases List.mem_cons.mp h with e | h
        · rw [e] at q
          simp at q
        · exact h
      exact zip_some (Nat.succ.inj hl) x hx
    · rfl
  | _ :: _, [], h, _, _ => by cases h
def plainP (a : Arguments) (ps : List Str) : Bool := a.posonlyargs.isEmpty && decide (a.args.map (·.arg) = ps) && a.vararg.isNone && a.kwonlyargs.isEmpty && a.kwarg.isNone
theorem bind_plain {fd : FuncData} {ps : List Str} {us : List Value} (hp : plainP fd.params ps = true) (hd : fd.defaults = .none) (nd : ps.Nodup) (hl : us.length = ps.length) : bindArgs fd ⟨us, []⟩ = pure (ps.zip us) := by
  unfold plainP at hp
  simp only [Bool.and_eq_true, List.isEmpty_iff, decide_eq_true_eq, Option.isNone_iff_eq_none] at hp
  obtain ⟨⟨⟨⟨h1, h2⟩, h3⟩, h4⟩, h5⟩ := hp
  have hm : (ps.take (ps.length - 0)).filter (fun n => ((ps.zip us).lookup n).isNone) = [] := by
    rw [Nat.sub_zero, List.take_length, List.filter_eq_nil_iff]
    intro x hx
    rw [zip_some hl x hx]
    exact Bool.false_ne_true
  have hz := zip_map (ps := ps) (us := us) (rest := []) nd hl (fun _ _ => rfl)
  have hs : seqItems? Value.none = pure none := rfl
  have hgt : ¬ (us.length > ps.length) := by omega
  unfold bindArgs
  simp only [h1, h2, h3, h4, h5, hd, hs, List.map_nil, List.nil_append, List.append_nil, List.forIn_nil, pure_bind, Option.getD_none, List.drop_nil, List.length_nil, Nat.sub_zero, hgt, decide_false, Bool.false_and, Bool.false_eq_true, if_false]
  rw [Nat.sub_zero] at hm
  rw [hm, List.zip_nil_right]
  simp only [List.isEmpty_nil, Bool.not_true, Bool.false_eq_true, if_false, List.forIn_nil, pure_bind]
  exact congrArg pure hz

section
variable {G : Pg} {k : Nat} {N : List Str}
mutual
theorem s_ok {X : Cx} {sc : Scope} (C : Cy G k N X sc) (T : Ty N X sc) (hk : sc.kind = .function) (hp : PassesOwn (model X.prog X.w) X.A X.env X.xe) : ∀ (t : S) (x : Stmt), chkS G N sc t x = true → PS X x (wS X.K (evS (run G.M G.P k) G.M t))
  | .asg (.nm i) a, x, h => by
    unfold chkS at h
    split at h <;> try (cases h; done)
    all_goals (rename_i heq; try (cases heq; done))
    cases heq
    rename_i y p v q
    obtain ⟨h, h4⟩ := and2 h
    obtain ⟨h, h3⟩ := and2 h
    obtain ⟨h1, h2⟩ := and2 h
    have h1 : N[i]? = some y := of_decide_eq_true h1
    rw [Bool.or_eq_true, Bool.or_eq_true] at h4
    rcases h4 with (hn | hn) | h5
    · exact s_asg T h1 h2 ((e_ok a).v X sc C v h3) hn
    · exact s_asgNo T C.sc hk h1 h2 ((e_ok a).v X sc C v h3) hn
    · obtain ⟨h5, h6⟩ := and2 h5
      cases a with
      | comp elt own t it =>
        have h3 : cComp N own t sc (ck G N elt).e ((ck G N it).i sc) v = true := h3
        unfold cComp at h3
        split at h3
        · obtain ⟨h3, g6⟩ := and2 h3
          obtain ⟨h3, g5⟩ := and2 h3
          obtain ⟨h3, g4⟩ := and2 h3
          obtain ⟨h3, g3⟩ := and2 h3
          obtain ⟨g1, g2⟩ := and2 h3
          obtain ⟨h6, h9⟩ := and2 h6
          obtain ⟨h7, h8⟩ := and2 h6
          exact (r_setLc C hk h1 h7 h8 (by simpa using h9) ((e_ok it).i X sc C _ _ g3) g4 g2 g6 g5 (fun X' hK C' => (e_ok elt).v X' _ C' _ g1) (fun X' hK C' => pts_yes)).imp fun D σ H w => asg_reads w
        · cases h3
      | compIf elt own t it c =>
        have h3 : cCompIf N own t sc (ck G N elt).e (ck G N c).t ((ck G N it).i sc) v = true := h3
        unfold cCompIf at h3
        split at h3
        · obtain ⟨h3, g7⟩ := and2 h3
          obtain ⟨h3, g6⟩ := and2 h3
          obtain ⟨h3, g5⟩ := and2 h3
          obtain ⟨h3, g4⟩ := and2 h3
          obtain ⟨h3, g3⟩ := and2 h3
          obtain ⟨g1, g2⟩ := and2 h3
          obtain ⟨h6, h9⟩ := and2 h6
          obtain ⟨h7, h8⟩ := and2 h6
          exact (r_setLc C hk h1 h7 h8 (by simpa using h9) ((e_ok it).i X sc C _ _ g3) g4 g2 g6 g5 (fun X' hK C' => (e_ok elt).v X' _ C' _ g1) (fun X' hK C' => pts_one ((e_ok c).t X' _ C' _ g7))).imp fun D σ H w => asg_reads w
        · cases h3
      | _ => cases h5
  | .asg (.tp t) a, x, h => by
    unfold chkS at h
    split at h <;> try (cases h; done)
    all_goals (rename_i heq; try (cases heq; done))
    cases heq
    obtain ⟨h, h3⟩ := and2 h
    obtain ⟨h1, h2⟩ := and2 h
    exact s_asgT T h1 ((e_ok a).v X sc C _ h2) h3
  | .asg .nil a, x, h => by
    unfold chkS at h
    cases h
  | .asg (.cons _ _) a, x, h => by
    unfold chkS at h
    cases h
  | .par t es, x, h => by
    unfold chkS at h
    split at h <;> try (cases h; done)
    all_goals (rename_i heq; try (cases heq; done))
    cases heq
    obtain ⟨h, h3⟩ := and2 h
    obtain ⟨h1, h2⟩ := and2 h
    have hpl := (es_ok (G := G) (k := k) (N := N) es).p sc _ h2
    have ha := (es_ok es).d X sc C _ h2
    split at h3
    · exact s_par2 T C.sc hk h1 hpl ha (by assumption)
    · exact s_par T C.sc hk h1 hpl ha (by assumption)
    · cases h3
  | .set i ix a, x, h => by
    unfold chkS at h
    split at h <;> try (cases h; done)
    all_goals (rename_i heq; try (cases heq; done))
    cases heq
    obtain ⟨h, h4⟩ := and2 h
    obtain ⟨h, h3⟩ := and2 h
    obtain ⟨h1, h2⟩ := and2 h
    exact s_set (C.pv h1) ((e_ok ix).v X sc C _ h2) ((e_ok a).v X sc C _ h4) h3
  | .aug i op a, x, h => by
    unfold chkS at h
    split at h <;> try (cases h; done)
    all_goals (rename_i heq; try (cases heq; done))
    cases heq
    obtain ⟨h, h5⟩ := and2 h
    obtain ⟨h, h4⟩ := and2 h
    obtain ⟨h, h3⟩ := and2 h
    obtain ⟨h1, h2⟩ := and2 h
    cases of_decide_eq_true h1
    exact s_aug h5 T (of_decide_eq_true h2) h3 ((e_ok a).v X sc C _ h4)
  | .augS i ix op a, x, h => by
    unfold chkS at h
    split at h <;> try (cases h; done)
    all_goals (rename_i heq; try (cases heq; done))
    cases heq
    obtain ⟨h, h6⟩ := and2 h
    obtain ⟨h, h5⟩ := and2 h
    obtain ⟨h, h4⟩ := and2 h
    obtain ⟨h, h3⟩ := and2 h
    obtain ⟨h1, h2⟩ := and2 h
    cases of_decide_eq_true h1
    exact s_augS h6 (C.pv h2) ((e_ok ix).v X sc C _ h3) ((e_ok a).v X sc C _ h5) h4
  | .app i a, x, h => by
    unfold chkS at h
    split at h <;> try (cases h; done)
    all_goals (rename_i heq; try (cases heq; done))
    cases heq
    obtain ⟨h, h5⟩ := and2 h
    obtain ⟨h, h4⟩ := and2 h
    obtain ⟨h, h3⟩ := and2 h
    obtain ⟨h1, h2⟩ := and2 h
    cases of_decide_eq_true h1
    exact s_app (C.pv h2) ((e_ok a).v X sc C _ h4) rfl h3 h5
  | .ext i a, x, h => by
    unfold chkS at h
    split at h <;> try (cases h; done)
    all_goals (rename_i heq; try (cases heq; done))
    cases heq
    obtain ⟨h, h5⟩ := and2 h
    obtain ⟨h, h4⟩ := and2 h
    obtain ⟨h, h3⟩ := and2 h
    obtain ⟨h1, h2⟩ := and2 h
    cases of_decide_eq_true h1
    exact s_ext (C.pv h2) ((e_ok a).v X sc C _ h4) rfl h3 h5
  | .ex a, x, h => by
    unfold chkS at h
    split at h <;> try (cases h; done)
    all_goals (rename_i heq; try (cases heq; done))
    cases heq
    obtain ⟨h1, h2⟩ := and2 h
    exact s_ex ((e_ok a).v X sc C _ h1) h2
  | .ite c t f, x, h => by
    unfold chkS at h
    split at h <;> try (cases h; done)
    all_goals (rename_i heq; try (cases heq; done))
    cases heq
    obtain ⟨h, h3⟩ := and2 h
    obtain ⟨h1, h2⟩ := and2 h
    exact s_ite ((e_ok c).t X sc C _ h1) (b_ok C T hk hp t _ h2) (b_ok C T hk hp f _ h3)
  | .whl c b, x, h => by
    unfold chkS at h
    split at h <;> try (cases h; done)
    all_goals (rename_i heq; try (cases heq; done))
    cases heq
    obtain ⟨h1, h2⟩ := and2 h
    exact s_whl hp ((e_ok c).t X sc C _ h1) (b_ok C T hk hp b _ h2)
  | .for t it b, x, h => by
    unfold chkS at h
    split at h <;> try (cases h; done)
    all_goals (rename_i heq; try (cases heq; done))
    cases heq
    obtain ⟨h, h4⟩ := and2 h
    obtain ⟨h, h3⟩ := and2 h
    obtain ⟨h1, h2⟩ := and2 h
    exact s_for hp C.calm ((e_ok it).i X sc C _ _ h2) (r_tgt T t _ h1) (b_ok C T hk hp b _ h4) h3
  | .ret a, x, h => by
    unfold chkS at h
    split at h <;> try (cases h; done)
    all_goals (rename_i heq; try (cases heq; done))
    cases heq
    exact s_ret ((e_ok a).v X sc C _ h)
  | .retN, x, h => by
    cases x with
    | Return v p => cases v with
      | none => exact s_retN
      | some v => simp [chkS] at h
    | _ => simp [chkS] at h
  | .brk, x, h => by
    cases x with
    | Break p => exact s_brk
    | _ => simp [chkS] at h
  | .cont, x, h => by
    cases x with
    | Continue p => exact s_cont
    | _ => simp [chkS] at h
  | .pass, x, h => by
    cases x with
    | Pass p => exact s_pass
    | _ => simp [chkS] at h
  | .never, x, h => s_no
theorem b_ok {X : Cx} {sc : Scope} (C : Cy G k N X sc) (T : Ty N X sc) (hk : sc.kind = .function) (hp : PassesOwn (model X.prog X.w) X.A X.env X.xe) : ∀ (t : Ss) (xs : List Stmt), chkB G N sc t xs = true → PSs X xs (wS X.K (evB (run G.M G.P k) G.M t))
  | .nil, xs, h => by
    cases xs with
    | nil => exact b_nil
    | cons _ _ => simp [chkB] at h
  | .cons s ss, xs, h => by
    cases xs with
    | nil => simp [chkB] at h
    | cons x xs =>
      rw [chkB, Bool.and_eq_true] at h
      exact b_cons (s_ok C T hk hp s x h.1) (b_ok C T hk hp ss xs h.2)
end
end
end De
end

section
set_option maxHeartbeats 4000000
namespace De
open PySem PySem.Spec PyProof.Rows L2

/-! ### a def of the program -/
def chkD (G : Pg) (d : Df) (N ps : List Str) (params : Arguments) (scope : Scope) (body : List Stmt) : Bool :=
  scO N ps scope && decide (d.np = ps.length) && decide (d.ns = N.length) && chkB G N scope d.body body && plainP params ps
structure DOk (G : Pg) (K : PySem.W.Frag) (mg : Str → Option Value) (f : Nat) (d : Df) (x : Str) (fa : Addr) (fd : FuncData) (ps : List Str) : Prop where
  nm : G.nm[f]? = some x
  at_ : mg x = some (.ref fa)
  ex : ∃ (N : List Str) (name qual : Str) (params : Arguments) (body : List Stmt) (scope : Scope) (kws : List (Str × V)), FunD K name qual params body scope [] kws fa fd ∧ chkD G d N ps params scope body = true
structure GOk (G : Pg) (K : PySem.W.Frag) (mg : Str → Option Value) : Prop where
  fns : ∀ f d, G.P[f]? = some d → ∃ x fa fd ps, DOk G K mg f d x fa fd ps
  gl : ∀ q ∈ G.gl, ∃ t, mg q.1 = some (.int q.2 t)
  free : ∀ x ∈ bltNames, mg x = none
section
variable {G : Pg} {K : PySem.W.Frag} {mg : Str → Option Value} {f : Nat} {d : Df} {x : Str} {fa : Addr} {fd : FuncData} {ps : List Str}
theorem DOk.np (D : DOk G K mg f d x fa fd ps) : d.np = ps.length := by
  obtain ⟨N, name, qual, params, body, scope, kws, F, h⟩ := D.ex
  obtain ⟨h, h5⟩ := and2 h
  obtain ⟨h, h4⟩ := and2 h
  obtain ⟨h, h3⟩ := and2 h
  obtain ⟨h1, h2⟩ := and2 h
  exact of_decide_eq_true h2
theorem scO_ok {N ps : List Str} {sc : Scope} (h : scO N ps sc = true) : FnScope N ps sc := by
  unfold scO at h
  obtain ⟨h, h7⟩ := and2 h
  obtain ⟨h, h6⟩ := and2 h
  obtain ⟨h, h5⟩ := and2 h
  obtain ⟨h, h4⟩ := and2 h
  obtain ⟨h, h3⟩ := and2 h
  obtain ⟨h1, h2⟩ := and2 h
  refine ⟨of_decide_eq_true h1, by simpa using h2, by simpa using h3, of_decide_eq_true h4, of_decide_eq_true h5, fun y hy => locO_cases (List.all_eq_true.mp h6 y hy), fun y hy e => ?_⟩
  have := List.all_eq_true.mp h7 y hy
  rw [e] at this
  cases this
theorem DOk.bind (D : DOk G K mg f d x fa fd ps) (s : Shared) (us : List Value) (hl : us.length = ps.length) : BindsTo s fd ⟨us, []⟩ (ps.zip us) := by
  obtain ⟨N, name, qual, params, body, scope, kws, F, h⟩ := D.ex
  obtain ⟨h, h5⟩ := and2 h
  obtain ⟨h, h4⟩ := and2 h
  obtain ⟨h, h3⟩ := and2 h
  obtain ⟨h1, h2⟩ := and2 h
  have nd : ps.Nodup := by
    have S := scO_ok h1
    rw [← S.pre]
    exact S.nd.sublist (List.take_sublist _ _)
  exact F.bindsA (fun kV doc pm an cdv ct us hl => bind_plain h5 rfl nd hl) s us hl
theorem DOk.binds (D : DOk G K mg f d x fa fd ps) : Binds K fd ps [] := fun s us _ hl => by
  rw [List.append_nil] at hl ⊢
  exact D.bind s us hl
theorem DOk.kp (D : DOk G K mg f d x fa fd ps) : PySem.W.keepIn K (.ref fa) = true := by
  obtain ⟨N, name, qual, params, body, scope, kws, F, h⟩ := D.ex
  exact F.kp
end
theorem getPad {σ : List (Option V)} {n i : Nat} {v : V} (h : σ[i]? = some (some v)) : (σ ++ List.replicate n none)[i]? = some (some v) := by
  rw [List.getElem?_append_left (List.getElem?_eq_some_iff.mp h).1]
  exact h
theorem padE {e : En} {n i : Nat} {s : Sv} (h : (e ++ List.replicate n .un)[i]? = some s) (hs : s ≠ .un) : e[i]? = some s := by
  by_cases q : i < e.length
  · rw [List.getElem?_append_left q] at h
    exact h
  · rw [List.getElem?_append_right (by omega)] at h
    have := List.mem_of_getElem? h
    exact absurd (List.mem_replicate.mp this).2 hs
/-- the parameters, the other names unbound -/
theorem Ok.pad {K : PySem.W.Frag} {Y : Fx} {σ : L2.St} {e : En} {F H : Hp} {n : Nat} (k : Ok K Y σ e F H) : Ok K Y (σ ++ List.replicate n none) (e ++ List.replicate n .un) F H where
  len := by rw [List.length_append, List.length_append, List.length_replicate, List.length_replicate, k.len]
  sub := k.sub
  fz := fun i d h => by
    obtain ⟨v, h1, h2⟩ := k.fz i d (padE h fun z => nomatch z)
    exact ⟨v, getPad h1, h2⟩
  ow := fun i b xs h => by
    obtain ⟨p, vs, h1, h2⟩ := k.ow i b xs (padE h fun z => nomatch z)
    exact ⟨p, vs, getPad h1, h2⟩
  inj := fun i j p ⟨⟨b, xs, h1⟩, h2⟩ ⟨⟨b', xs', h3⟩, h4⟩ => by
    have h1 := padE h1 fun z => nomatch z
    have h3 := padE h3 fun z => nomatch z
    obtain ⟨q, _, g1, _⟩ := k.ow i _ _ h1
    obtain ⟨q', _, g3, _⟩ := k.ow j _ _ h3
    rw [getPad g1] at h2
    rw [getPad g3] at h4
    cases h2
    cases h4
    exact k.inj i j p ⟨⟨_, _, h1⟩, g1⟩ ⟨⟨_, _, h3⟩, g3⟩
  grow0 := k.grow0
  new0 := k.new0
  keep0 := k.keep0
  stay0 := k.stay0
  pin := fun i v h => by
    obtain ⟨h1, xs, h2⟩ := k.pin i v h
    refine ⟨getPad h1, xs, ?_⟩
    rw [List.getElem?_append_left (List.getElem?_eq_some_iff.mp h2).1]
    exact h2
section
variable {G : Pg} {K : PySem.W.Frag} {mg : Str → Option Value} {P : Program} {w : World} {base : Heap}
theorem all_ok (g : GOk G K mg) : ∀ (k f : Nat) (d : Df) (x : Str) (fa : Addr) (fd : FuncData) (ps : List Str), G.P[f]? = some d → DOk G K mg f d x fa fd ps → FnOk P w K mg base CX0 k fa fd ps (spD K G k f)
  | 0, f, d, x, fa, fd, ps, hf, D => by
    have no : ∀ vs H Q E, ¬ spD K G 0 f vs H Q E := fun vs H Q E h => by
      obtain ⟨F, io, svs, r, ec, _, h, _⟩ := h
      cases h
    exact ⟨fun vs H Q E h => absurd h (no vs H Q E), fun A outer s H args us vs Q E hr he hb hv h => absurd h (no vs H Q E)⟩
  | k + 1, f, d, x, fa, fd, ps, hf, D => by
    have ih := all_ok g k
    obtain ⟨N, name, qual, params, body, scope, kws, F, h⟩ := D.ex
    obtain ⟨h, h5⟩ := and2 h
    obtain ⟨h, h4⟩ := and2 h
    obtain ⟨h, h3⟩ := and2 h
    obtain ⟨h1, h2⟩ := and2 h
    have S := scO_ok h1
    have h2 : d.np = ps.length := of_decide_eq_true h2
    have h3 : d.ns = N.length := of_decide_eq_true h3
    have len : ∀ vs H Q E, spD K G (k + 1) f vs H Q E → vs.length = ps.length := fun vs H Q E h => by
      obtain ⟨F, io, svs, r, ec, ok, hr, _⟩ := h
      have hl := ok.len
      rw [List.length_map] at hl
      rw [run, hf] at hr
      have hr : runD (run G.M G.P k) G.M d svs = some (r, ec) := hr
      unfold runD at hr
      by_cases q : svs.length = d.np
      · omega
      · rw [if_neg (by simpa using q)] at hr
        cases hr
    refine F.ok S len fun cdv A outer s H vs Q E hr h => ⟨wS K (evB (run G.M G.P k) G.M d.body), ?_, ?_⟩
    · have C : Cy G k N (cxOf CX0 P w K mg base N qual scope fa cdv A outer s H E) scope :=
        ⟨rfl, rfl, S.nd, rfl, g.free, g.gl, fun f' d' hf' => by
          obtain ⟨x', fa', fd', ps', D'⟩ := g.fns f' d' hf'
          exact ⟨x', fa', fd', ps', D'.nm, D'.at_, D'.kp, D'.binds, ih f' d' x' fa' fd' ps' hf' D'⟩, hr⟩
      have T : Ty N (cxOf CX0 P w K mg base N qual scope fa cdv A outer s H E) scope := ⟨rfl, rfl, S.nd, fun x hx => ⟨C.loc hx, .inl rfl⟩⟩
      exact b_ok C T S.kind PassesOwn.leaving d.body body h4
    · have hl := len vs H Q E h
      obtain ⟨F0, io, svs, r, ec, ok, hrun, nu, q⟩ := h
      have hsl := ok.len
      rw [List.length_map] at hsl
      rw [run, hf] at hrun
      have hrun : runD (run G.M G.P k) G.M d svs = some (r, ec) := hrun
      unfold runD at hrun
      rw [if_pos (by simp; omega)] at hrun
      have hs : L2.start N vs = vs.map some ++ List.replicate (d.ns - d.np) none := by
        unfold L2.start
        rw [h3, h2, hl]
      rw [hs]
      cases he : evB (run G.M G.P k) G.M d.body (svs ++ List.replicate (d.ns - d.np) .un) with
      | none => rw [he] at hrun; cases hrun
      | some fl =>
        rw [he] at hrun
        refine ⟨_, _, F0, fl, ok.pad, he, ?_⟩
        cases fl with
        | nx e =>
          cases hrun
          exact fun σ' F' H' ok' => q .non F' H' σ' ok' .non
        | bk e => cases hrun
        | ct e => cases hrun
        | rt r' e =>
          cases r' with
          | d y =>
            cases hrun
            exact fun v σ' F' H' ok' rv => q v F' H' σ' ok' rv
          | own y =>
            cases hrun
            exact fun v σ' F' H' ok' rv => q v F' H' σ' ok' rv
          | loc y => cases hrun
end
/-! ### a law -/
def scr (ns : List Int) : List Sv := [.fz (.dict [(.none, .list (ns.map .int))])]
theorem law_ends {l : PySem.W.OpenLaw} {n k f : Nat} {q : Program} {loose : List Str} {XP : (Str → Option Value) → Heap → Prop} {YP : World → Heap → Prop} {d : DefRec} {G : Pg} {df : Df}
    (hn : l.most = some n) (hn2 : n ≤ sizeLine) (hdf : d.params.defaults = []) (hr : Room k callerA) (hf : G.P[f]? = some df) (h1 : df.np = 1)
    (F : ∀ (w : World) (mg : Str → Option Value) (h : Heap), YP w h → h.Ns mainGlobals mg → ∃ K : PySem.W.Frag, K.In h ∧ GOk G K mg ∧ G.nm[f]? = some d.name)
    (law : ∀ ns : List Int, ns.length ≤ n → (∀ i ∈ ns, Builtin.Int.intBits i ≤ 1048576) → ∃ ec, run G.M G.P k f (scr ns) = some (.d (.bool true), ec)) :
    PySem.W.WalkO q loose XP YP l.row.toRowW d [] (fun f vs => PySem.call f vs) := by
  refine Att.attach_callB hn hdf fun w s₀ s₁ mg mb fa o pm cd doc a vs ns Gr Y ho hd hcd hmg hobj hints hlen hbits hg => ?_
  obtain ⟨K, KX, g, hnm⟩ := F w mg _ Y Gr.T.g
  obtain ⟨x, fa', fd, ps, D⟩ := g.fns f df hf
  have hx := D.nm
  rw [hnm] at hx
  cases hx
  have ha := D.at_
  rw [hmg] at ha
  cases ha
  have hps : ps.length = 1 := by
    rw [← D.np]
    exact h1
  obtain ⟨y, rfl⟩ : ∃ y, ps = [y] := by
    cases ps with
    | nil => cases hps
    | cons y r => cases r with
      | nil => exact ⟨y, rfl⟩
      | cons z r => cases hps
  refine law_call (CX := CX0) KX Gr.T.g Gr.T.b Gr.T.builtins Gr.T.nolimit hg hobj hints (Nat.le_trans hlen hn2) hr (fun base _ _ => all_ok g k f df _ _ _ _ hf D) (fun s u => D.bind s [u] rfl) (fun H hO hS => ?_) fun _ _ _ z => z
  obtain ⟨ec, hrun⟩ := law ns hlen hbits
  refine ⟨H, [], scr ns, _, ec, ⟨rfl, Sub.refl _, fun i d h => ?_, fun i b xs h => ?_, fun i j p ⟨⟨b, xs, h⟩, _⟩ _ => ?_, Sub.refl _, fun a h => .inl h, fun a o h _ => h, fun a h => h, fun i v h => ?_⟩, hrun, fun i r h z => ?_, fun v F' H' σ' ok rv => ?_⟩
  · cases i with
    | zero =>
      cases h
      exact ⟨_, rfl, .scr hS (rpA_ints ns)⟩
    | succ i => simp [scr] at h
  · cases i with
    | zero => cases h
    | succ i => simp [scr] at h
  · cases i with
    | zero => cases h
    | succ i => simp [scr] at h
  · cases i with
    | zero => cases h
    | succ i => simp [pnOf, scr] at h
  · subst z
    cases i with
    | zero => cases h
    | succ i => simp [scr] at h
  · cases rv
    rfl
end De
end

section
set_option maxHeartbeats 4000000
namespace De
open PySem PySem.Spec PyProof.Rows L2

/-! ### a law's program from the head's facts -/
def chkOne (G : Pg) (d : Df) (x : Str) (e : He.DefD) (N : List Str) : Bool :=
  decide (e.at_ = (x, none)) && e.dfl.isEmpty && chkD G d N (e.params.args.map (·.arg)) e.params e.scope e.body
def chkAll (G : Pg) : List Df → List Str → List He.DefD → List (List Str) → Bool
  | [], [], [], [] => true
  | d :: ds, x :: xs, e :: es, N :: Ns => chkOne G d x e N && chkAll G ds xs es Ns
  | _, _, _, _ => false
def facts (G : Pg) : List He.Fa := (G.nm.map He.Fa.glo ++ G.gl.map fun q => He.Fa.int q.1 q.2) ++ bltNames.map He.Fa.free
theorem chkAll_at {G : Pg} : ∀ {ds : List Df} {xs : List Str} {es : List He.DefD} {Ns : List (List Str)} (_ : chkAll G ds xs es Ns = true) (f : Nat) {d : Df}, ds[f]? = some d →
    ∃ x e N, xs[f]? = some x ∧ es[f]? = some e ∧ chkOne G d x e N = true
  | [], _, _, _, _, f, d, h => by simp at h
  | d :: ds, x :: xs, e :: es, N :: Ns, h, f, d', hd => by
    obtain ⟨h1, h2⟩ := and2 (show (chkOne G d x e N && chkAll G ds xs es Ns) = true from h)
    cases f with
    | zero =>
      simp at hd
      subst hd
      exact ⟨x, e, N, rfl, rfl, h1⟩
    | succ f =>
      obtain ⟨x', e', N', a, b, c⟩ := chkAll_at h2 f (d := d') (by simpa using hd)
      exact ⟨x', e', N', by simpa using a, by simpa using b, c⟩
  | _ :: _, [], _, _, h, _, _, _ => by simp [chkAll] at h
  | _ :: _, _ :: _, [], _, h, _, _, _ => by simp [chkAll] at h
  | _ :: _, _ :: _, _ :: _, [], h, _, _, _ => by simp [chkAll] at h
theorem gok {G : Pg} {fn : List He.DefD} {Ns : List (List Str)} {K : PySem.W.Frag} {h : Heap} {mg : Str → Option Value} (X : K.In h) (Gn : h.Ns mainGlobals mg) (c : He.SaysD (facts G) fn K) (hc : chkAll G G.P G.nm fn Ns = true) : GOk G K mg := by
  have fact : ∀ f ∈ facts G, f.ok K = true := fun f hf => by
    obtain ⟨i, hi⟩ := List.getElem?_of_mem hf
    exact c.fact i hi
  refine ⟨fun f d hd => ?_, fun q hq => ?_, fun x hx => ?_⟩
  · obtain ⟨x, e, N, h1, h2, h3⟩ := chkAll_at hc f hd
    obtain ⟨h3, h5⟩ := and2 (show (decide (e.at_ = (x, none)) && e.dfl.isEmpty && chkD G d N (e.params.args.map (·.arg)) e.params e.scope e.body) = true from h3)
    obtain ⟨h3, h4⟩ := and2 h3
    have h3 : e.at_ = (x, none) := of_decide_eq_true h3
    obtain ⟨fd, F⟩ := c.def_ f h2
    have hz : e.dvs K = [] := by
      unfold He.DefD.dvs
      rw [List.isEmpty_iff.mp h4]
      rfl
    rw [hz] at F
    have ha : He.fAd K e.at_ = He.ga K x := by
      rw [h3]
      rfl
    rw [ha] at F
    refine ⟨x, He.ga K x, fd, e.params.args.map (·.arg), h1, ?_, N, _, _, _, _, _, _, F, h5⟩
    exact He.glo_ok X Gn (fact (.glo x) (List.mem_append_left _ (List.mem_append_left _ (List.mem_map_of_mem (List.mem_of_getElem? h1)))))
  · exact He.int_ok X Gn (fact (.int q.1 q.2) (List.mem_append_left _ (List.mem_append_right _ (List.mem_map_of_mem (f := fun q : Str × Int => He.Fa.int q.1 q.2) hq))))
  · exact He.free_ok X Gn (fact (.free x) (List.mem_append_right _ (List.mem_map_of_mem hx)))
end De
end

section
set_option maxHeartbeats 4000000
namespace De
open PySem
section
variable {a b c d x y : Int} {p q r s t u : Dt} {xs ys : List Dt} {e : En}
theorem z_add : bop .add (.int a) (.int b) = some (.d (.int (a + b))) := rfl
theorem z_sub : bop .sub (.int a) (.int b) = some (.d (.int (a - b))) := rfl
theorem z_mul (h : mulOk a b = true) : bop .mul (.int a) (.int b) = some (.d (.int (a * b))) := if_pos h
theorem z_fdiv (h : divOk b = true) : bop .fdiv (.int a) (.int b) = some (.d (.int (a.fdiv b))) := if_pos h
theorem z_mod (h : b ≠ 0) : bop .mod (.int a) (.int b) = some (.d (.int (a.fmod b))) := if_pos (decide_eq_true h)
theorem z_xor : bop .xor (.int a) (.int b) = some (.d (.int (Builtin.bitXor a b))) := rfl
theorem z_catL (h : xs.length + ys.length ≤ 1000000) : bop .add (.list xs) (.list ys) = some (.own (xs ++ ys)) := if_pos (decide_eq_true h)
theorem z_catT (h : xs.length + ys.length ≤ 1000000) : bop .add (.tuple xs) (.tuple ys) = some (.d (.tuple (xs ++ ys))) := if_pos (decide_eq_true h)
theorem z_repT (h : 0 ≤ a) (h2 : a ≤ 1000) (h3 : xs.length ≤ 1000) : bop .mul (.tuple xs) (.int a) = some (.d (.tuple (rep a.toNat xs))) := if_pos (by rw [decide_eq_true h, decide_eq_true h2, decide_eq_true h3]; rfl)
theorem z_eq : cop .eq (.int a) (.int b) = some (decide (a = b)) := rfl
theorem z_ne : cop .ne (.int a) (.int b) = some (!decide (a = b)) := rfl
theorem z_lt : cop .lt (.int a) (.int b) = some (decide (a < b)) := rfl
theorem z_le : cop .le (.int a) (.int b) = some (decide (a ≤ b)) := rfl
theorem z_gt : cop .gt (.int a) (.int b) = some (decide (b < a)) := rfl
theorem z_ge : cop .ge (.int a) (.int b) = some (decide (b ≤ a)) := rfl
theorem z_dd : deref e (.d p) = some p := rfl
theorem z_do : deref e (.own xs) = some (.list xs) := rfl
theorem z_dl {i : Nat} : deref e (.loc i) = match e[i]? with
  | some (.fz d) => some d
  | some (.ow _ xs) => some (.list xs)
  | _ => none := rfl
theorem z_tb {k : Bool} : truth (.bool k) = some k := rfl
theorem z_lenL : blt .len [.list xs] = some (.d (.int xs.length)) := rfl
theorem z_lenT : blt .len [.tuple xs] = some (.d (.int xs.length)) := rfl
theorem z_int : blt .int [.int a] = some (.d (.int a)) := rfl
theorem z_intB {k : Bool} : blt .int [.bool k] = some (.d (.int (if k then 1 else 0))) := rfl
theorem z_abs : blt .abs [.int a] = some (.d (.int (if a < 0 then -a else a))) := rfl
theorem z_max : blt .max [.int a, .int b] = some (.d (.int (if b > a then b else a))) := rfl
theorem z_min : blt .min [.int a, .int b] = some (.d (.int (if b < a then b else a))) := rfl
theorem z_tupL : blt .tuple [.list xs] = some (.d (.tuple xs)) := rfl
theorem z_tupT : blt .tuple [.tuple xs] = some (.d (.tuple xs)) := rfl
theorem z_lstL : blt .list [.list xs] = some (.own xs) := rfl
theorem z_lstT : blt .list [.tuple xs] = some (.own xs) := rfl
theorem z_scr : blt .list [.dict [(.none, .list xs)]] = some (.own xs) := rfl
theorem ix0 : ixD (p :: xs) 0 = some p := by
  unfold ixD L2.atI L2.ixN
  rw [if_pos (by omega), if_pos (by simp only [List.length_cons]; omega)]
  rfl
theorem ix1 : ixD (p :: q :: xs) 1 = some q := by
  unfold ixD L2.atI L2.ixN
  rw [if_pos (by omega), if_pos (by simp only [List.length_cons]; omega)]
  rfl
theorem ix2 : ixD (p :: q :: r :: xs) 2 = some r := by
  unfold ixD L2.atI L2.ixN
  rw [if_pos (by omega), if_pos (by simp only [List.length_cons]; omega)]
  rfl
theorem ix3 : ixD (p :: q :: r :: s :: xs) 3 = some s := by
  unfold ixD L2.atI L2.ixN
  rw [if_pos (by omega), if_pos (by simp only [List.length_cons]; omega)]
  rfl
theorem ix4 : ixD (p :: q :: r :: s :: t :: xs) 4 = some t := by
  unfold ixD L2.atI L2.ixN
  rw [if_pos (by omega), if_pos (by simp only [List.length_cons]; omega)]
  rfl
theorem ixn1 : L2.ixN (p :: q :: r :: s :: t :: u :: xs).length 1 = some 1 := by
  unfold L2.ixN
  rw [if_pos (by omega), if_pos (by simp only [List.length_cons]; omega)]
  rfl
theorem ixn2 : L2.ixN (p :: q :: r :: s :: t :: u :: xs).length 2 = some 2 := by
  unfold L2.ixN
  rw [if_pos (by omega), if_pos (by simp only [List.length_cons]; omega)]
  rfl
theorem ixn3 : L2.ixN (p :: q :: r :: s :: t :: u :: xs).length 3 = some 3 := by
  unfold L2.ixN
  rw [if_pos (by omega), if_pos (by simp only [List.length_cons]; omega)]
  rfl
theorem ixn4 : L2.ixN (p :: q :: r :: s :: t :: u :: xs).length 4 = some 4 := by
  unfold L2.ixN
  rw [if_pos (by omega), if_pos (by simp only [List.length_cons]; omega)]
  rfl
theorem ixNat {i : Int} (h : 0 ≤ i) (h2 : i < xs.length) : ixD xs i = xs[i.toNat]? := by
  unfold ixD L2.atI L2.ixN
  rw [if_pos h, if_pos h2]
  rfl
theorem runD_d {cf : CF} {M : Nat} {d : Df} {svs : List Sv} {e' : En} (e : En) {r : Dt} (hl : svs.length = d.np) (he : svs ++ List.replicate (d.ns - d.np) .un = e) (h : evB cf M d.body e = some (.rt (.d r) e')) : runD cf M d svs = some (.d r, e') := by
  unfold runD
  rw [if_pos (decide_eq_true hl), he, h]
theorem runD_own {cf : CF} {M : Nat} {d : Df} {svs : List Sv} {e' : En} (e : En) {r : List Dt} (hl : svs.length = d.np) (he : svs ++ List.replicate (d.ns - d.np) .un = e) (h : evB cf M d.body e = some (.rt (.own r) e')) : runD cf M d svs = some (.own r, e') := by
  unfold runD
  rw [if_pos (decide_eq_true hl), he, h]
end
/-! applied -/
theorem x_vCst (d : Dt) (e : En) : vCst d e = (some (.d d, e)) := rfl
theorem x_vNm (i : Nat) (e : En) : vNm i e = (match e[i]? with
  | some (.fz d) => some (.d d, e)
  | some (.ow _ _) => some (.loc i, e)
  | _ => none) := rfl
theorem x_vBin (op : Bop) (a b : FV) (e : En) : vBin op a b e = (match a e with
  | some (x, e1) => match b e1 with
    | some (y, e2) => match deref e2 x, deref e2 y with
      | some p, some q => match bop op p q with
        | some r => some (r, e2)
        | none => none
      | _, _ => none
    | none => none
  | none => none) := rfl
theorem x_vNeg (a : FV) (e : En) : vNeg a e = (match a e with
  | some (.d (.int i), e1) => some (.d (.int (-i)), e1)
  | _ => none) := rfl
theorem x_vBits (a : FV) (e : En) : vBits a e = (match a e with
  | some (.d (.int i), e1) => some (.d (.int (Builtin.Int.intBits i : Nat)), e1)
  | _ => none) := rfl
theorem x_vCmp (op : Cop) (a b : FV) (e : En) : vCmp op a b e = (match a e with
  | some (x, e1) => match b e1 with
    | some (y, e2) => match deref e2 x, deref e2 y with
      | some p, some q => match cop op p q with
        | some k => some (.d (.bool k), e2)
        | none => none
      | _, _ => none
    | none => none
  | none => none) := rfl
theorem x_vCmp2 (op op2 : Cop) (a b c : FV) (e : En) : vCmp2 op op2 a b c e = (match a e with
  | some (x, e1) => match b e1 with
    | some (y, e2) => match deref e2 x, deref e2 y with
      | some p, some q => match cop op p q with
        | some true => match c e2 with
          | some (z, e3) => match deref e3 y, deref e3 z with
            | some q', some r => match cop op2 q' r with
              | some k => some (.d (.bool k), e3)
              | none => none
            | _, _ => none
          | none => none
        | some false => some (.d (.bool false), e2)
        | none => none
      | _, _ => none
    | none => none
  | none => none) := rfl
theorem x_vAnd (a b : FV) (e : En) : vAnd a b e = (match a e with
  | some (.d (.bool true), e1) => b e1
  | some (.d (.bool false), e1) => some (.d (.bool false), e1)
  | _ => none) := rfl
theorem x_vOr (a b : FV) (e : En) : vOr a b e = (match a e with
  | some (.d (.bool true), e1) => some (.d (.bool true), e1)
  | some (.d (.bool false), e1) => b e1
  | _ => none) := rfl
theorem x_vNot (a : FV) (e : En) : vNot a e = (match a e with
  | some (.d (.bool k), e1) => some (.d (.bool (!k)), e1)
  | _ => none) := rfl
theorem x_vIte (c : FT) (a b : FV) (e : En) : vIte c a b e = (match c e with
  | some (true, e1) => a e1
  | some (false, e1) => b e1
  | none => none) := rfl
theorem x_vTup (es : FI) (e : En) : vTup es e = (match es e with
  | some (ds, e2) => if small ds then some (.d (.tuple ds), e2) else none
  | none => none) := rfl
theorem x_vLst (es : FI) (e : En) : vLst es e = (match es e with
  | some (ds, e2) => if small ds then some (.own ds, e2) else none
  | none => none) := rfl
theorem x_vIx (a i : FV) (e : En) : vIx a i e = (match a e with
  | some (x, e1) => match i e1 with
    | some (.d (.int k), e2) => match deref e2 x with
      | some (.list xs) => match ixD xs k with
        | some d => some (.d d, e2)
        | none => none
      | some (.tuple xs) => match ixD xs k with
        | some d => some (.d d, e2)
        | none => none
      | _ => none
    | _ => none
  | none => none) := rfl
theorem x_vSlF (a lo : FV) (e : En) : vSlF a lo e = (match a e with
  | some (x, e1) => match lo e1 with
    | some (.d (.int k), e2) => match deref e2 x with
      | some d => match slice d (some k) none with
        | some r => some (r, e2)
        | none => none
      | none => none
    | _ => none
  | none => none) := rfl
theorem x_vSlT (a hi : FV) (e : En) : vSlT a hi e = (match a e with
  | some (x, e1) => match hi e1 with
    | some (.d (.int k), e2) => match deref e2 x with
      | some d => match slice d none (some k) with
        | some r => some (r, e2)
        | none => none
      | none => none
    | _ => none
  | none => none) := rfl
theorem x_vSl (a lo hi : FV) (e : En) : vSl a lo hi e = (match a e with
  | some (x, e1) => match lo e1 with
    | some (.d (.int k), e2) => match hi e2 with
      | some (.d (.int l), e3) => match deref e3 x with
        | some d => match slice d (some k) (some l) with
          | some r => some (r, e3)
          | none => none
        | none => none
      | _ => none
    | _ => none
  | none => none) := rfl
theorem x_vRev (a : FV) (e : En) : vRev a e = (match a e with
  | some (x, e1) => match deref e1 x with
    | some (.list xs) => some (.own xs.reverse, e1)
    | _ => none
  | none => none) := rfl
theorem x_vCall (c : List Sv → Option (Rv × En)) (es : FA) (e : En) : vCall c es e = (match es e with
  | some (rs, e1) => match argsOf e1 rs with
    | some svs => if decide (locs rs).Nodup then match c svs with
        | some (r, ec) => match backs e1 rs ec with
          | some e2 => some (r, e2)
          | none => none
        | none => none
      else none
    | none => none
  | none => none) := rfl
theorem x_vBlt (b : Blt) (a : FV) (e : En) : vBlt b a e = (match a e with
  | some (x, e1) => match deref e1 x with
    | some d => match blt b [d] with
      | some r => some (r, e1)
      | none => none
    | none => none
  | none => none) := rfl
theorem x_vBlt2 (b : Blt) (a c : FV) (e : En) : vBlt2 b a c e = (match a e with
  | some (.d x, e1) => match c e1 with
    | some (.d y, e2) => match blt b [x, y] with
      | some r => some (r, e2)
      | none => none
    | _ => none
  | _ => none) := rfl
theorem x_vPop (i : Nat) (e : En) : vPop i e = (match e[i]? with
  | some (.ow b xs) => match xs[xs.length - 1]? with
    | some d => some (.d d, e.set i (.ow b xs.dropLast))
    | none => none
  | _ => none) := rfl
theorem x_vPopAt (i : Nat) (a : FV) (e : En) : vPopAt i a e = (match a e with
  | some (.d (.int k), e1) => match e1[i]? with
    | some (.ow b xs) => match L2.ixN xs.length k with
      | some j => match xs[j]? with
        | some d => if rngOk k && isOw e i then some (.d d, e1.set i (.ow b (xs.eraseIdx j))) else none
        | none => none
      | none => none
    | _ => none
  | _ => none) := rfl
theorem x_fYes  (e : En) : fYes  e = (some (true, e)) := rfl
theorem x_vComp (elt : FV) (own : List Nat) (t : Tg) (it : FI) (c : FT) (e : En) : vComp elt own t it c e = (match it e with
  | some (ds, e1) => match compL (turnC elt own t c) ds (wipeE e1 own) with
    | some (ys, e2) => if small ys && ownOk e1 own then some (.own ys, back e1 e2 own) else none
    | none => none
  | none => none) := rfl
theorem x_vFz (a : FV) (e : En) : vFz a e = (match a e with
  | some (x, e1) => match frz x e1 with
    | some (d, e2) => some (.d d, e2)
    | none => none
  | none => none) := rfl
theorem x_vNo  (e : En) : vNo  e = (none) := rfl
theorem x_tOf (a : FV) (e : En) : tOf a e = (match a e with
  | some (x, e1) => match deref e1 x with
    | some d => match truth d with
      | some k => some (k, e1)
      | none => none
    | none => none
  | none => none) := rfl
theorem x_tAnd (a b : FT) (e : En) : tAnd a b e = (match a e with
  | some (true, e1) => b e1
  | some (false, e1) => some (false, e1)
  | none => none) := rfl
theorem x_tOr (a b : FT) (e : En) : tOr a b e = (match a e with
  | some (true, e1) => some (true, e1)
  | some (false, e1) => b e1
  | none => none) := rfl
theorem x_tNot (a : FT) (e : En) : tNot a e = (match a e with
  | some (k, e1) => some (!k, e1)
  | none => none) := rfl
theorem x_iOf (a : FV) (e : En) : iOf a e = (match a e with
  | some (x, e1) => match frz x e1 with
    | some (.list xs, e2) => some (xs, e2)
    | some (.tuple xs, e2) => some (xs, e2)
    | _ => none
  | none => none) := rfl
theorem x_iNo  (e : En) : iNo  e = (none) := rfl
theorem x_iRng1 (a : FV) (e : En) : iRng1 a e = (match a e with
  | some (.d (.int n), e1) => if rngOk n then some (rngL 0 1 0 n.toNat, e1) else none
  | _ => none) := rfl
theorem x_iRng2 (a b : FV) (e : En) : iRng2 a b e = (match a e with
  | some (.d (.int m), e1) => match b e1 with
    | some (.d (.int n), e2) => if rngOk m && rngOk n then some (rngL m 1 0 (n - m).toNat, e2) else none
    | _ => none
  | _ => none) := rfl
theorem x_iRng3 (a b c : FV) (e : En) : iRng3 a b c e = (match a e with
  | some (.d (.int m), e1) => match b e1 with
    | some (.d (.int n), e2) => match c e2 with
      | some (.d (.int k), e3) => if rng3Ok m n k then some (rngL m k 0 (Builtin.Range.rangeSize m n k).toNat, e3) else none
      | _ => none
    | _ => none
  | _ => none) := rfl
theorem x_iEnum (a : FV) (e : En) : iEnum a e = (match a e with
  | some (x, e1) => match frz x e1 with
    | some (.list xs, e2) => some (enumL 0 xs, e2)
    | some (.tuple xs, e2) => some (enumL 0 xs, e2)
    | _ => none
  | none => none) := rfl
theorem x_iZip (a b : FV) (e : En) : iZip a b e = (match a e with
  | some (x, e1) => match frz x e1 with
    | some (p, e2) => match b e2 with
      | some (y, e3) => match frz y e3 with
        | some (q, e4) => match p, q with
          | .list xs, .list ys => some (zipL xs ys, e4)
          | .tuple xs, .tuple ys => some (zipL xs ys, e4)
          | _, _ => none
        | none => none
      | none => none
    | none => none
  | none => none) := rfl
theorem x_iRevd (a : FV) (e : En) : iRevd a e = (match a e with
  | some (x, e1) => match frz x e1 with
    | some (.list xs, e2) => some (xs.reverse, e2)
    | some (.tuple xs, e2) => some (xs.reverse, e2)
    | _ => none
  | none => none) := rfl
theorem x_aNil  (e : En) : aNil  e = (some ([], e)) := rfl
theorem x_aCons (a : FV) (es : FA) (e : En) : aCons a es e = (match a e with
  | some (.loc i, e1) => match es e1 with
    | some (xs, e2) => some (.loc i :: xs, e2)
    | none => none
  | some (.d x, e1) => match es e1 with
    | some (xs, e2) => some (.d x :: xs, e2)
    | none => none
  | some (.own x, e1) => match es e1 with
    | some (xs, e2) => some (.d (.list x) :: xs, e2)
    | none => none
  | none => none) := rfl
theorem x_dNil  (e : En) : dNil  e = (some ([], e)) := rfl
theorem x_sAsg (i : Nat) (a : FV) (e : En) : sAsg i a e = (match a e with
  | some (x, e1) => match store e1 i x with
    | some e2 => some (.nx e2)
    | none => none
  | none => none) := rfl
theorem x_sAsgT (t : Tg) (a : FV) (e : En) : sAsgT t a e = (match a e with
  | some (x, e1) => match frz x e1 with
    | some (d, e2) => match tgt (.tp t) d e2 with
      | some e3 => some (.nx e3)
      | none => none
    | none => none
  | none => none) := rfl
theorem x_sPar (t : Tg) (es : FI) (e : En) : sPar t es e = (match es e with
  | some (ds, e2) => match tgts t ds e2 with
    | some e3 => if small ds then some (.nx e3) else none
    | none => none
  | none => none) := rfl
theorem x_sSet (i : Nat) (ix a : FV) (e : En) : sSet i ix a e = (match a e with
  | some (x, e1) => match frz x e1 with
    | some (d, e2) => match ix e2 with
      | some (.d (.int k), e3) => match e3[i]? with
        | some (.ow b xs) => match L2.ixN xs.length k with
          | some j => if isOw e2 i then some (.nx (e3.set i (.ow b (xs.set j d)))) else none
          | none => none
        | _ => none
      | _ => none
    | none => none
  | none => none) := rfl
theorem x_sAug (i : Nat) (op : Bop) (a : FV) (e : En) : sAug i op a e = (match e[i]? with
  | some (.fz (.int p)) => match a e with
    | some (.d (.int q), e1) => match bop op (.int p) (.int q) with
      | some (.d r) => match put e1 i (.fz r) with
        | some e2 => some (.nx e2)
        | none => none
      | _ => none
    | _ => none
  | _ => none) := rfl
theorem x_sAugS (i : Nat) (ix : FV) (op : Bop) (a : FV) (e : En) : sAugS i ix op a e = (match ix e with
  | some (.d (.int k), e1) => match e1[i]? with
    | some (.ow _ xs) => match ixD xs k with
      | some (.int p) => match a e1 with
        | some (.d (.int q), e2) => match bop op (.int p) (.int q) with
          | some (.d r) => match e2[i]? with
            | some (.ow b ys) => match L2.ixN ys.length k with
              | some j => if isOw e i then some (.nx (e2.set i (.ow b (ys.set j r)))) else none
              | none => none
            | _ => none
          | _ => none
        | _ => none
      | _ => none
    | _ => none
  | _ => none) := rfl
theorem x_sApp (i : Nat) (a : FV) (e : En) : sApp i a e = (match a e with
  | some (x, e1) => match frz x e1 with
    | some (d, e2) => match e2[i]? with
      | some (.ow b xs) => if decide (xs.length < lim) && isOw e i then some (.nx (e2.set i (.ow b (xs ++ [d])))) else none
      | _ => none
    | none => none
  | none => none) := rfl
theorem x_sExt (i : Nat) (a : FV) (e : En) : sExt i a e = (match a e with
  | some (x, e1) => match frz x e1 with
    | some (.list ds, e2) => match e2[i]? with
      | some (.ow b xs) => if decide (xs.length + ds.length ≤ lim) && isOw e i then some (.nx (e2.set i (.ow b (xs ++ ds)))) else none
      | _ => none
    | _ => none
  | none => none) := rfl
theorem x_sEx (a : FV) (e : En) : sEx a e = (match a e with
  | some (_, e1) => some (.nx e1)
  | none => none) := rfl
theorem x_sIte (c : FT) (t f : FS) (e : En) : sIte c t f e = (match c e with
  | some (true, e1) => t e1
  | some (false, e1) => f e1
  | none => none) := rfl
theorem x_sFor (t : Tg) (it : FI) (b : FS) (e : En) : sFor t it b e = (match it e with
  | some (ds, e1) => forL (fun d e => match tgt t d e with
      | some e2 => b e2
      | none => none) ds e1
  | none => none) := rfl
theorem x_sRet (a : FV) (e : En) : sRet a e = (match a e with
  | some (.d x, e1) => some (.rt (.d x) e1)
  | some (.own xs, e1) => some (.rt (.own xs) e1)
  | some (.loc i, e1) => match e1[i]? with
    | some (.fz d) => some (.rt (.d d) e1)
    | some (.ow false xs) => some (.rt (.own xs) (e1.set i .un))
    | _ => none
  | none => none) := rfl
theorem x_sRetN  (e : En) : sRetN  e = (some (.rt (.d .none) e)) := rfl
theorem x_sBrk  (e : En) : sBrk  e = (some (.bk e)) := rfl
theorem x_sCont  (e : En) : sCont  e = (some (.ct e)) := rfl
theorem x_sPass  (e : En) : sPass  e = (some (.nx e)) := rfl
theorem x_sNo  (e : En) : sNo  e = (none) := rfl
theorem x_sSeq (s b : FS) (e : En) : sSeq s b e = (match s e with
  | some (.nx e1) => b e1
  | some (.rt r e1) => some (.rt r e1)
  | some (.bk e1) => some (.bk e1)
  | some (.ct e1) => some (.ct e1)
  | none => none) := rfl
theorem x_dCons (a : FV) (es : FI) (e : En) : dCons a es e = (match a e with
  | some (x, e1) => match frz x e1 with
    | some (d, e2) => match es e2 with
      | some (ds, e3) => some (d :: ds, e3)
      | none => none
    | none => none
  | none => none) := rfl
def forB (t : Tg) (b : FS) : Dt → En → Option Fl := fun d e => match tgt t d e with
  | some e2 => b e2
  | none => none
theorem x_forB (t : Tg) (b : FS) (d : Dt) (e : En) : forB t b d e = (match tgt t d e with
  | some e2 => b e2
  | none => none) := rfl
theorem x_sForB (t : Tg) (it : FI) (b : FS) (e : En) : sFor t it b e = (match it e with
  | some (ds, e1) => forL (forB t b) ds e1
  | none => none) := rfl
theorem x_turnC (elt : FV) (own : List Nat) (t : Tg) (c : FT) (d : Dt) (e : En) : turnC elt own t c d e = (match tgt t d e with
  | some e2 => match c e2 with
    | some (true, e2) => match elt e2 with
      | some (r, e3) => match frz r e3 with
        | some (y, e4) => some ([y], wipeE e4 own)
        | none => none
      | none => none
    | some (false, e2) => some ([], wipeE e2 own)
    | none => none
  | none => none) := rfl
theorem nd0 : (([] : List Nat).Nodup) = True := by simp
theorem nd1 (a : Nat) : (([a] : List Nat).Nodup) = True := by simp
theorem iRng3_of {a b c : FV} {e e1 e2 e3 : En} {m n k : Int} {ds : List Dt} (ha : a e = some (.d (.int m), e1)) (hb : b e1 = some (.d (.int n), e2)) (hc : c e2 = some (.d (.int k), e3)) (h : rng3Ok m n k = true) (hd : rngL m k 0 (Builtin.Range.rangeSize m n k).toNat = ds) : iRng3 a b c e = some (ds, e3) := by
  unfold iRng3
  rw [ha]
  simp only [hb, hc]
  rw [if_pos h, hd]
theorem sSeq_nx {s b : FS} {e e1 : En} {r : Option Fl} (h : s e = some (.nx e1)) (h2 : b e1 = r) : sSeq s b e = r := by
  unfold sSeq
  rw [h]
  exact h2
theorem sSeq_rt {s b : FS} {e e1 : En} {r : Rv} (h : s e = some (.rt r e1)) : sSeq s b e = some (.rt r e1) := by
  unfold sSeq
  rw [h]
theorem sIte_f {c : FT} {t f : FS} {e e1 : En} {r : Option Fl} (h : c e = some (false, e1)) (h2 : f e1 = r) : sIte c t f e = r := by
  unfold sIte
  rw [h]
  exact h2
theorem sIte_t {c : FT} {t f : FS} {e e1 : En} {r : Option Fl} (h : c e = some (true, e1)) (h2 : t e1 = r) : sIte c t f e = r := by
  unfold sIte
  rw [h]
  exact h2
theorem sFor_of {t : Tg} {it : FI} {b : FS} {e e1 : En} {ds : List Dt} {r : Option Fl} (h : it e = some (ds, e1)) (h2 : forL (forB t b) ds e1 = r) : sFor t it b e = r := by
  rw [x_sForB, h]
  exact h2
end De
end

section
set_option maxHeartbeats 4000000
set_option exponentiation.threshold 500000
namespace De
open PySem

def PoolOk (xs : List Dt) : Prop := ∃ (cells : List Int) (i c s t b : Int), xs = [.list (cells.map .int), .int i, .int c, .int s, .int t, .int b] ∧ 0 ≤ i ∧ 0 ≤ s ∧ s < 2147483647
theorem log2_lt {a : Int} {n : Nat} (h : a.natAbs < 2 ^ n) (hn : 0 < n) : a.natAbs.log2 < n := by
  by_cases z : a.natAbs = 0
  · rw [z]
    exact hn
  · exact (Nat.log2_lt z).mpr h
theorem mul_ok {a b : Int} (ha : a.natAbs < 2 ^ 400000) (hb : b.natAbs < 2 ^ 400000) : mulOk a b = true := by
  unfold mulOk
  have h1 := log2_lt ha (by decide)
  have h2 := log2_lt hb (by decide)
  exact decide_eq_true (by omega)
theorem small_mul {a b : Int} (h1 : 0 ≤ a) (h2 : a < 4294967296) (h3 : 0 ≤ b) (h4 : b < 4294967296) : mulOk a b = true := by
  unfold mulOk
  have ha : a.natAbs < 2 ^ 32 := by omega
  have hb : b.natAbs < 2 ^ 32 := by omega
  have h1 := log2_lt ha (by decide)
  have h2 := log2_lt hb (by decide)
  exact decide_eq_true (by omega)
theorem fmod_range {a b : Int} (h : 0 < b) : 0 ≤ a.fmod b ∧ a.fmod b < b := by
  rw [Int.fmod_eq_emod_of_nonneg _ (Int.le_of_lt h)]
  exact ⟨Int.emod_nonneg _ (by omega), Int.emod_lt_of_pos _ h⟩
theorem zpow18 : bop .pow (.int 10) (.int 18) = some (.d (.int 1000000000000000000)) := by rfl
theorem zm31 (a : Int) : bop .mod (.int a) (.int 2147483647) = some (.d (.int (a.fmod 2147483647))) := z_mod (by decide)
theorem cell_at {cells : List Int} {i : Int} (h : 0 ≤ i) (h2 : i < (cells.map PyData.int).length) : ∃ cell, ixD (cells.map PyData.int) i = some (.int cell) := by
  rw [ixNat h h2]
  have : i.toNat < (cells.map PyData.int).length := by omega
  rw [List.getElem?_eq_getElem this, List.getElem_map]
  exact ⟨_, rfl⟩
inductive Dg (f g : Nat → Int → Int) : Nat → Int → List Int → Prop
  | nil {i : Nat} : Dg f g i 0 []
  | cons {i : Nat} {n : Int} {ds : List Int} : n ≠ 0 → Dg f g (i + 1) (g i n) ds → Dg f g i n (f i n :: ds)
abbrev il (ds : List Int) : List Dt := ds.map PyData.int
theorem whl_dg {L : Nat} {f g : Nat → Int → Int} {c : FT} {b : FS} {R : Int → List Int → En → Prop} (hc : ∀ n acc e, R n acc e → c e = some (decide (n ≠ 0), e))
    (hb : ∀ n acc e, R n acc e → n ≠ 0 → acc.length < L → ∃ e', b e = some (.nx e') ∧ R (g acc.length n) (acc ++ [f acc.length n]) e') :
    ∀ (ds : List Int) (n : Int) (acc : List Int) (e : En) (m : Nat), Dg f g acc.length n ds → ds.length < m → acc.length + ds.length < L → R n acc e → ∃ e', whL c b m e = some (.nx e') ∧ R 0 (acc ++ ds) e'
  | [], n, acc, e, m, h, hm, hl, r => by
    cases h
    cases m with
    | zero => exact absurd hm (Nat.not_lt_zero _)
    | succ m =>
      refine ⟨e, ?_, by rw [List.append_nil]; exact r⟩
      rw [whL, hc 0 acc e r]
      rfl
  | d :: ds, n, acc, e, m, h, hm, hl, r => by
    cases m with
    | zero => exact absurd hm (Nat.not_lt_zero _)
    | succ m =>
      cases h with
      | cons hn h =>
        simp only [List.length_cons] at hm hl
        obtain ⟨e', h1, h2⟩ := hb n acc e r hn (by omega)
        have h3 : Dg f g (acc ++ [f acc.length n]).length (g acc.length n) ds := by
          rw [List.length_append]
          exact h
        obtain ⟨e'', h4, h5⟩ := whl_dg hc hb ds _ _ e' m h3 (by omega) (by rw [List.length_append, List.length_singleton]; omega) h2
        refine ⟨e'', ?_, by rw [List.append_assoc] at h5; exact h5⟩
        rw [whL, hc n acc e r, decide_eq_true hn]
        simp only [h1]
        exact h4
theorem div_ok {b : Int} (h : b ≠ 0) (h2 : b.natAbs < 1024) : divOk b = true := by
  unfold divOk
  have h3 : b.natAbs < 2 ^ 10 := h2
  have h4 := log2_lt h3 (by decide)
  rw [decide_eq_true h, decide_eq_true (show b.natAbs.log2 < 9000 by omega)]
  rfl
theorem compL_map {f : Dt → En → Option (List Dt × En)} {e0 : En} {φ : Dt → List Dt} : ∀ (ds : List Dt), (∀ d ∈ ds, f d e0 = some (φ d, e0)) → compL f ds e0 = some (ds.flatMap φ, e0)
  | [], _ => rfl
  | d :: ds, h => by
    rw [compL, h d List.mem_cons_self]
    show (match compL f ds e0 with
      | some (zs, e2) => some (φ d ++ zs, e2)
      | none => none) = _
    rw [compL_map ds fun x hx => h x (List.mem_cons_of_mem _ hx), List.flatMap_cons]
theorem any_false {xs : List Dt} : blt .any [.list (xs.flatMap fun _ => [PyData.bool false])] = some (.d (.bool false)) := by
  have h : ∀ xs : List Dt, ∃ bs, boolsOf (xs.flatMap fun _ => [PyData.bool false]) = some bs ∧ bs.any id = false := fun xs => by
    induction xs with
    | nil => exact ⟨[], rfl, rfl⟩
    | cons x xs ih =>
      obtain ⟨bs, h1, h2⟩ := ih
      refine ⟨false :: bs, ?_, ?_⟩
      · rw [List.flatMap_cons]
        show (match boolsOf (xs.flatMap fun _ => [PyData.bool false]) with
          | some l => some (false :: l)
          | none => none) = _
        rw [h1]
      · rw [List.any_cons, h2]
        rfl
  obtain ⟨bs, h1, h2⟩ := h xs
  show (match boolsOf (xs.flatMap fun _ => [PyData.bool false]) with
    | some bs => some (Rv.d (.bool (bs.any id)))
    | none => none) = _
  rw [h1]
  show some (Rv.d (.bool (bs.any id))) = _
  rw [h2]
theorem flen {c : Dt} : ∀ xs : List Dt, (xs.flatMap fun _ => [c]).length = xs.length
  | [] => rfl
  | x :: xs => by
    simp only [List.flatMap_cons, List.length_append, List.length_cons, List.length_nil, flen xs]
    omega
theorem small_il {xs : List Dt} (h : xs.length ≤ 1000000) : small xs = true := decide_eq_true h
theorem pad_get {ds : List Int} {m k : Nat} (h : k < ds.length + m) : (il ds ++ List.replicate m (PyData.int 0))[k]? = some (.int (ds.getD k 0)) := by
  by_cases c : k < ds.length
  · rw [List.getElem?_append_left (by rw [List.length_map]; exact c), List.getElem?_map, List.getElem?_eq_getElem c, List.getD_eq_getElem?_getD, List.getElem?_eq_getElem c]
    rfl
  · rw [List.getElem?_append_right (by rw [List.length_map]; omega), List.getElem?_replicate, if_pos (by rw [List.length_map]; omega), List.getD_eq_getElem?_getD, List.getElem?_eq_none (by omega)]
    rfl
theorem pad_ix {ds : List Int} {m k : Nat} (h : k < ds.length + m) : ixD (il ds ++ List.replicate m (PyData.int 0)) (k : Int) = some (.int (ds.getD k 0)) := by
  rw [ixNat (by omega) (by rw [List.length_append, List.length_map, List.length_replicate]; omega), Int.toNat_natCast, pad_get h]
theorem rep_zero (m : Nat) : rep m [PyData.int 0] = List.replicate m (.int 0) := by
  unfold rep
  induction m with
  | zero => rfl
  | succ m ih => rw [List.replicate_succ, List.flatten_cons, ih, List.replicate_succ]; rfl
theorem compL_rng {f : Dt → En → Option (List Dt × En)} {e0 : En} {ψ : Nat → Dt} : ∀ (n i : Nat), (∀ j, i ≤ j → j < i + n → f (.int (j : Int)) e0 = some ([ψ j], e0)) → compL f (rngL 0 1 i n) e0 = some ((List.range' i n).map ψ, e0)
  | 0, _, _ => rfl
  | n + 1, i, h => by
    have e : rngL 0 1 i (n + 1) = .int (i : Int) :: rngL 0 1 (i + 1) n := by
      show PyData.int (0 + (i : Int) * 1) :: _ = _
      rw [Int.mul_one, Int.zero_add]
    rw [e, compL, h i (Nat.le_refl _) (by omega)]
    show (match compL f (rngL 0 1 (i + 1) n) e0 with
      | some (zs, e2) => some ([ψ i] ++ zs, e2)
      | none => none) = _
    rw [compL_rng n (i + 1) fun j h1 h2 => h j (by omega) (by omega), List.range'_succ, List.map_cons]
    rfl
theorem rng_ok {n : Nat} (h : n < 1000000) : rngOk (n : Int) = true := by
  unfold rngOk
  rw [decide_eq_true_eq]
  omega
theorem call1_of {c : List Sv → Option (Rv × En)} {a : FV} {e e1 : En} {x : Dt} {r : Rv} {y : Sv} {tl : En} (ha : a e = some (.d x, e1)) (hc : c [.fz x] = some (r, y :: tl)) : vCall c (aCons a aNil) e = some (r, e1) := by
  simp only [List.getElem?_cons_zero, List.getElem?_cons_succ, List.set_cons_zero, List.set_cons_succ, List.replicate_succ, List.replicate_zero, List.cons_append, List.nil_append, x_vCst, x_vNm, x_vBin, x_vNeg, x_vBits, x_vCmp, x_vCmp2, x_vAnd, x_vOr, x_vNot, x_vIte, x_vTup, x_vLst, x_vIx, x_vSlF, x_vSlT, x_vSl, x_vRev, x_vCall, x_vBlt, x_vBlt2, x_vPop, x_vPopAt, x_fYes, x_vFz, x_vNo, x_tOf, x_tAnd, x_tOr, x_tNot, x_iOf, x_iNo, x_iRng1, x_iRng2, x_iRng3, x_iEnum, x_iZip, x_iRevd, x_aNil, x_aCons, x_dNil, x_dCons, x_sAsg, x_sAsgT, x_sPar, x_sSet, x_sAug, x_sAugS, x_sApp, x_sExt, x_sEx, x_sIte, x_sRet, x_sRetN, x_sBrk, x_sCont, x_sPass, x_sNo, x_sSeq, argsOf, argOf, locs, backs, nd0, nd1, store, put, frz, tgt, tgts, isOw, z_add, z_sub, z_xor, z_eq, z_ne, z_lt, z_le, z_gt, z_ge, z_dd, z_do, z_dl, z_tb, z_lenL, z_lenT, z_int, z_intB, z_abs, z_max, z_min, z_tupL, z_tupT, z_lstL, z_lstT, z_scr, ix0, ix1, ix2, ix3, ix4, ixn1, ixn2, ixn3, ixn4, decide_true, decide_false, if_true, if_false, Bool.false_eq_true, Bool.and_true, Bool.true_and, Bool.not_true, Bool.not_false, x_turnC, wipeE, back, x_sForB, x_forB, List.getD_cons_zero, List.getD_cons_succ, ha, hc]
theorem call2_of {c : List Sv → Option (Rv × En)} {a b : FV} {e e1 e2 : En} {x x2 : Dt} {r : Rv} {y z : Sv} {tl : En} (ha : a e = some (.d x, e1)) (hb : b e1 = some (.d x2, e2)) (hc : c [.fz x, .fz x2] = some (r, y :: z :: tl)) : vCall c (aCons a (aCons b aNil)) e = some (r, e2) := by
  simp only [List.getElem?_cons_zero, List.getElem?_cons_succ, List.set_cons_zero, List.set_cons_succ, List.replicate_succ, List.replicate_zero, List.cons_append, List.nil_append, x_vCst, x_vNm, x_vBin, x_vNeg, x_vBits, x_vCmp, x_vCmp2, x_vAnd, x_vOr, x_vNot, x_vIte, x_vTup, x_vLst, x_vIx, x_vSlF, x_vSlT, x_vSl, x_vRev, x_vCall, x_vBlt, x_vBlt2, x_vPop, x_vPopAt, x_fYes, x_vFz, x_vNo, x_tOf, x_tAnd, x_tOr, x_tNot, x_iOf, x_iNo, x_iRng1, x_iRng2, x_iRng3, x_iEnum, x_iZip, x_iRevd, x_aNil, x_aCons, x_dNil, x_dCons, x_sAsg, x_sAsgT, x_sPar, x_sSet, x_sAug, x_sAugS, x_sApp, x_sExt, x_sEx, x_sIte, x_sRet, x_sRetN, x_sBrk, x_sCont, x_sPass, x_sNo, x_sSeq, argsOf, argOf, locs, backs, nd0, nd1, store, put, frz, tgt, tgts, isOw, z_add, z_sub, z_xor, z_eq, z_ne, z_lt, z_le, z_gt, z_ge, z_dd, z_do, z_dl, z_tb, z_lenL, z_lenT, z_int, z_intB, z_abs, z_max, z_min, z_tupL, z_tupT, z_lstL, z_lstT, z_scr, ix0, ix1, ix2, ix3, ix4, ixn1, ixn2, ixn3, ixn4, decide_true, decide_false, if_true, if_false, Bool.false_eq_true, Bool.and_true, Bool.true_and, Bool.not_true, Bool.not_false, x_turnC, wipeE, back, x_sForB, x_forB, List.getD_cons_zero, List.getD_cons_succ, ha, hb, hc]
theorem nm_fz {e : En} {i : Nat} {d : Dt} (h : e[i]? = some (.fz d)) : vNm i e = some (.d d, e) := by
  unfold vNm
  rw [h]
theorem fz_fz {e : En} {i : Nat} {d : Dt} (h : e[i]? = some (.fz d)) : vFz (vNm i) e = some (.d d, e) := by
  unfold vFz
  rw [nm_fz h]
  rfl
theorem add_of {a b : FV} {e e1 e2 : En} {x y : Int} (ha : a e = some (.d (.int x), e1)) (hb : b e1 = some (.d (.int y), e2)) : vBin .add a b e = some (.d (.int (x + y)), e2) := by
  simp only [List.getElem?_cons_zero, List.getElem?_cons_succ, List.set_cons_zero, List.set_cons_succ, List.replicate_succ, List.replicate_zero, List.cons_append, List.nil_append, x_vCst, x_vNm, x_vBin, x_vNeg, x_vBits, x_vCmp, x_vCmp2, x_vAnd, x_vOr, x_vNot, x_vIte, x_vTup, x_vLst, x_vIx, x_vSlF, x_vSlT, x_vSl, x_vRev, x_vCall, x_vBlt, x_vBlt2, x_vPop, x_vPopAt, x_fYes, x_vFz, x_vNo, x_tOf, x_tAnd, x_tOr, x_tNot, x_iOf, x_iNo, x_iRng1, x_iRng2, x_iRng3, x_iEnum, x_iZip, x_iRevd, x_aNil, x_aCons, x_dNil, x_dCons, x_sAsg, x_sAsgT, x_sPar, x_sSet, x_sAug, x_sAugS, x_sApp, x_sExt, x_sEx, x_sIte, x_sRet, x_sRetN, x_sBrk, x_sCont, x_sPass, x_sNo, x_sSeq, argsOf, argOf, locs, backs, nd0, nd1, store, put, frz, tgt, tgts, isOw, z_add, z_sub, z_xor, z_eq, z_ne, z_lt, z_le, z_gt, z_ge, z_dd, z_do, z_dl, z_tb, z_lenL, z_lenT, z_int, z_intB, z_abs, z_max, z_min, z_tupL, z_tupT, z_lstL, z_lstT, z_scr, ix0, ix1, ix2, ix3, ix4, ixn1, ixn2, ixn3, ixn4, decide_true, decide_false, if_true, if_false, Bool.false_eq_true, Bool.and_true, Bool.true_and, Bool.not_true, Bool.not_false, x_turnC, wipeE, back, x_sForB, x_forB, List.getD_cons_zero, List.getD_cons_succ, ha, hb]
theorem sub_of {a b : FV} {e e1 e2 : En} {x y : Int} (ha : a e = some (.d (.int x), e1)) (hb : b e1 = some (.d (.int y), e2)) : vBin .sub a b e = some (.d (.int (x - y)), e2) := by
  simp only [List.getElem?_cons_zero, List.getElem?_cons_succ, List.set_cons_zero, List.set_cons_succ, List.replicate_succ, List.replicate_zero, List.cons_append, List.nil_append, x_vCst, x_vNm, x_vBin, x_vNeg, x_vBits, x_vCmp, x_vCmp2, x_vAnd, x_vOr, x_vNot, x_vIte, x_vTup, x_vLst, x_vIx, x_vSlF, x_vSlT, x_vSl, x_vRev, x_vCall, x_vBlt, x_vBlt2, x_vPop, x_vPopAt, x_fYes, x_vFz, x_vNo, x_tOf, x_tAnd, x_tOr, x_tNot, x_iOf, x_iNo, x_iRng1, x_iRng2, x_iRng3, x_iEnum, x_iZip, x_iRevd, x_aNil, x_aCons, x_dNil, x_dCons, x_sAsg, x_sAsgT, x_sPar, x_sSet, x_sAug, x_sAugS, x_sApp, x_sExt, x_sEx, x_sIte, x_sRet, x_sRetN, x_sBrk, x_sCont, x_sPass, x_sNo, x_sSeq, argsOf, argOf, locs, backs, nd0, nd1, store, put, frz, tgt, tgts, isOw, z_add, z_sub, z_xor, z_eq, z_ne, z_lt, z_le, z_gt, z_ge, z_dd, z_do, z_dl, z_tb, z_lenL, z_lenT, z_int, z_intB, z_abs, z_max, z_min, z_tupL, z_tupT, z_lstL, z_lstT, z_scr, ix0, ix1, ix2, ix3, ix4, ixn1, ixn2, ixn3, ixn4, decide_true, decide_false, if_true, if_false, Bool.false_eq_true, Bool.and_true, Bool.true_and, Bool.not_true, Bool.not_false, x_turnC, wipeE, back, x_sForB, x_forB, List.getD_cons_zero, List.getD_cons_succ, ha, hb]
theorem mul_of {a b : FV} {e e1 e2 : En} {x y : Int} (ha : a e = some (.d (.int x), e1)) (hb : b e1 = some (.d (.int y), e2)) (h : mulOk x y = true) : vBin .mul a b e = some (.d (.int (x * y)), e2) := by
  have := z_mul h
  simp only [List.getElem?_cons_zero, List.getElem?_cons_succ, List.set_cons_zero, List.set_cons_succ, List.replicate_succ, List.replicate_zero, List.cons_append, List.nil_append, x_vCst, x_vNm, x_vBin, x_vNeg, x_vBits, x_vCmp, x_vCmp2, x_vAnd, x_vOr, x_vNot, x_vIte, x_vTup, x_vLst, x_vIx, x_vSlF, x_vSlT, x_vSl, x_vRev, x_vCall, x_vBlt, x_vBlt2, x_vPop, x_vPopAt, x_fYes, x_vFz, x_vNo, x_tOf, x_tAnd, x_tOr, x_tNot, x_iOf, x_iNo, x_iRng1, x_iRng2, x_iRng3, x_iEnum, x_iZip, x_iRevd, x_aNil, x_aCons, x_dNil, x_dCons, x_sAsg, x_sAsgT, x_sPar, x_sSet, x_sAug, x_sAugS, x_sApp, x_sExt, x_sEx, x_sIte, x_sRet, x_sRetN, x_sBrk, x_sCont, x_sPass, x_sNo, x_sSeq, argsOf, argOf, locs, backs, nd0, nd1, store, put, frz, tgt, tgts, isOw, z_add, z_sub, z_xor, z_eq, z_ne, z_lt, z_le, z_gt, z_ge, z_dd, z_do, z_dl, z_tb, z_lenL, z_lenT, z_int, z_intB, z_abs, z_max, z_min, z_tupL, z_tupT, z_lstL, z_lstT, z_scr, ix0, ix1, ix2, ix3, ix4, ixn1, ixn2, ixn3, ixn4, decide_true, decide_false, if_true, if_false, Bool.false_eq_true, Bool.and_true, Bool.true_and, Bool.not_true, Bool.not_false, x_turnC, wipeE, back, x_sForB, x_forB, List.getD_cons_zero, List.getD_cons_succ, ha, hb, this]
theorem zpow6 : bop .pow (.int 10) (.int 6) = some (.d (.int 1000000)) := by rfl
theorem zpow10 : bop .pow (.int 10) (.int 10) = some (.d (.int 10000000000)) := by rfl
theorem zpow20 : bop .pow (.int 10) (.int 20) = some (.d (.int 100000000000000000000)) := by rfl
theorem g_ne {e : En} {i j : Nat} {s t : Sv} (h : e[j]? = some t) (hij : i ≠ j) : (e.set i s)[j]? = some t := by
  rw [List.getElem?_set_ne hij]
  exact h
theorem g_eq {e : En} {i : Nat} {s : Sv} (h : i < e.length) : (e.set i s)[i]? = some s := List.getElem?_set_self h
theorem put_of {e : En} (np : ∀ (i : Nat) (ys : List Dt), e[i]? ≠ some (.ow true ys)) {i : Nat} {s : Sv} (h : i < e.length) : put e i s = some (e.set i s) := by
  unfold put
  have hg := List.getElem?_eq_getElem h
  split
  · rename_i ys z
    exact absurd z (np i ys)
  · rfl
  · rename_i z
    rw [hg] at z
    cases z
theorem asg_d {e e1 : En} {i : Nat} {a : FV} {d : Dt} (ha : a e = some (.d d, e1)) (np : ∀ (i : Nat) (ys : List Dt), e1[i]? ≠ some (.ow true ys)) (h : i < e1.length) : sAsg i a e = some (.nx (e1.set i (.fz d))) := by
  unfold sAsg
  rw [ha]
  show (match put e1 i (.fz d) with
    | some e2 => some (Fl.nx e2)
    | none => none) = _
  rw [put_of np h]
theorem asg_own {e e1 : En} {i : Nat} {a : FV} {d : List Dt} (ha : a e = some (.own d, e1)) (np : ∀ (i : Nat) (ys : List Dt), e1[i]? ≠ some (.ow true ys)) (h : i < e1.length) : sAsg i a e = some (.nx (e1.set i (.ow false d))) := by
  unfold sAsg
  rw [ha]
  show (match put e1 i (.ow false d) with
    | some e2 => some (Fl.nx e2)
    | none => none) = _
  rw [put_of np h]
theorem set_same {e : En} {i : Nat} (h : e[i]? = some .un) : e.set i .un = e := by
  apply List.ext_getElem?
  intro j
  by_cases q : i = j
  · subst q
    rw [List.getElem?_set_self (List.getElem?_eq_some_iff.mp h).1, h]
  · rw [List.getElem?_set_ne q]
theorem comp1 {e : En} {i : Nat} {elt : FV} {c : FT} {it : FI} {ds ys : List Dt} (hu : e[i]? = some .un) (hit : it e = some (ds, e)) (hc : compL (turnC elt [i] (.nm i) c) ds e = some (ys, e)) (hs : small ys = true) : vComp elt [i] (.nm i) it c e = some (.own ys, e) := by
  have hw : wipeE e [i] = e := set_same hu
  have hg : e.getD i .un = .un := by rw [List.getD_eq_getElem?_getD, hu]; rfl
  have hb : back e e [i] = e := by
    show e.set i (e.getD i .un) = e
    rw [hg]
    exact set_same hu
  have ho : ownOk e [i] = true := by
    unfold ownOk
    rw [List.all_cons, hu]
    rfl
  unfold vComp
  rw [hit]
  simp only [hw, hc, hs, ho, Bool.and_true, if_true, hb]
theorem turn1 {e : En} {i : Nat} {elt : FV} {c : FT} {d y : Dt} (hu : e[i]? = some .un) (hc : c (e.set i (.fz d)) = some (true, e.set i (.fz d))) (he : elt (e.set i (.fz d)) = some (.d y, e.set i (.fz d))) : turnC elt [i] (.nm i) c d e = some ([y], e) := by
  have hp : put e i (.fz d) = some (e.set i (.fz d)) := by
    unfold put
    rw [hu]
  have hw : wipeE (e.set i (.fz d)) [i] = e := by
    show (e.set i (.fz d)).set i .un = e
    rw [List.set_set]
    exact set_same hu
  rw [x_turnC]
  simp only [tgt, hp, hc, he, frz, hw]
theorem turn0 {e : En} {i : Nat} {elt : FV} {c : FT} {d : Dt} (hu : e[i]? = some .un) (hc : c (e.set i (.fz d)) = some (false, e.set i (.fz d))) : turnC elt [i] (.nm i) c d e = some ([], e) := by
  have hp : put e i (.fz d) = some (e.set i (.fz d)) := by
    unfold put
    rw [hu]
  have hw : wipeE (e.set i (.fz d)) [i] = e := by
    show (e.set i (.fz d)).set i .un = e
    rw [List.set_set]
    exact set_same hu
  rw [x_turnC]
  simp only [tgt, hp, hc, hw]
theorem compL_rngF {f : Dt → En → Option (List Dt × En)} {e0 : En} {ψ : Nat → List Dt} : ∀ (n i : Nat), (∀ j, i ≤ j → j < i + n → f (.int (j : Int)) e0 = some (ψ j, e0)) → compL f (rngL 0 1 i n) e0 = some ((List.range' i n).flatMap ψ, e0)
  | 0, _, _ => rfl
  | n + 1, i, h => by
    have e : rngL 0 1 i (n + 1) = .int (i : Int) :: rngL 0 1 (i + 1) n := by
      show PyData.int (0 + (i : Int) * 1) :: _ = _
      rw [Int.mul_one, Int.zero_add]
    rw [e, compL, h i (Nat.le_refl _) (by omega)]
    show (match compL f (rngL 0 1 (i + 1) n) e0 with
      | some (zs, e2) => some (ψ i ++ zs, e2)
      | none => none) = _
    rw [compL_rngF n (i + 1) fun j h1 h2 => h j (by omega) (by omega), List.range'_succ, List.flatMap_cons]
theorem rng1_of {a : FV} {e e1 : En} {n : Nat} (ha : a e = some (.d (.int (n : Int)), e1)) (h : n < 1000000) : iRng1 a e = some (rngL 0 1 0 n, e1) := by
  unfold iRng1
  rw [ha]
  show (if rngOk (n : Int) then some (rngL 0 1 0 (n : Int).toNat, e1) else none) = _
  rw [if_pos (rng_ok h), Int.toNat_natCast]
theorem tcmp_of {op : Cop} {a b : FV} {e e1 e2 : En} {x y : Dt} {k : Bool} (ha : a e = some (.d x, e1)) (hb : b e1 = some (.d y, e2)) (h : cop op x y = some k) : tOf (vCmp op a b) e = some (k, e2) := by
  simp only [List.getElem?_cons_zero, List.getElem?_cons_succ, List.set_cons_zero, List.set_cons_succ, List.replicate_succ, List.replicate_zero, List.cons_append, List.nil_append, x_vCst, x_vNm, x_vBin, x_vNeg, x_vBits, x_vCmp, x_vCmp2, x_vAnd, x_vOr, x_vNot, x_vIte, x_vTup, x_vLst, x_vIx, x_vSlF, x_vSlT, x_vSl, x_vRev, x_vCall, x_vBlt, x_vBlt2, x_vPop, x_vPopAt, x_fYes, x_vFz, x_vNo, x_tOf, x_tAnd, x_tOr, x_tNot, x_iOf, x_iNo, x_iRng1, x_iRng2, x_iRng3, x_iEnum, x_iZip, x_iRevd, x_aNil, x_aCons, x_dNil, x_dCons, x_sAsg, x_sAsgT, x_sPar, x_sSet, x_sAug, x_sAugS, x_sApp, x_sExt, x_sEx, x_sIte, x_sRet, x_sRetN, x_sBrk, x_sCont, x_sPass, x_sNo, x_sSeq, argsOf, argOf, locs, backs, nd0, nd1, store, put, frz, tgt, tgts, isOw, z_add, z_sub, z_xor, z_eq, z_ne, z_lt, z_le, z_gt, z_ge, z_dd, z_do, z_dl, z_tb, z_lenL, z_lenT, z_int, z_intB, z_abs, z_max, z_min, z_tupL, z_tupT, z_lstL, z_lstT, z_scr, ix0, ix1, ix2, ix3, ix4, ixn1, ixn2, ixn3, ixn4, decide_true, decide_false, if_true, if_false, Bool.false_eq_true, Bool.and_true, Bool.true_and, Bool.not_true, Bool.not_false, x_turnC, wipeE, back, x_sForB, x_forB, List.getD_cons_zero, List.getD_cons_succ, ha, hb, h]
theorem vcmp_of {op : Cop} {a b : FV} {e e1 e2 : En} {x y : Dt} {k : Bool} (ha : a e = some (.d x, e1)) (hb : b e1 = some (.d y, e2)) (h : cop op x y = some k) : vCmp op a b e = some (.d (.bool k), e2) := by
  simp only [List.getElem?_cons_zero, List.getElem?_cons_succ, List.set_cons_zero, List.set_cons_succ, List.replicate_succ, List.replicate_zero, List.cons_append, List.nil_append, x_vCst, x_vNm, x_vBin, x_vNeg, x_vBits, x_vCmp, x_vCmp2, x_vAnd, x_vOr, x_vNot, x_vIte, x_vTup, x_vLst, x_vIx, x_vSlF, x_vSlT, x_vSl, x_vRev, x_vCall, x_vBlt, x_vBlt2, x_vPop, x_vPopAt, x_fYes, x_vFz, x_vNo, x_tOf, x_tAnd, x_tOr, x_tNot, x_iOf, x_iNo, x_iRng1, x_iRng2, x_iRng3, x_iEnum, x_iZip, x_iRevd, x_aNil, x_aCons, x_dNil, x_dCons, x_sAsg, x_sAsgT, x_sPar, x_sSet, x_sAug, x_sAugS, x_sApp, x_sExt, x_sEx, x_sIte, x_sRet, x_sRetN, x_sBrk, x_sCont, x_sPass, x_sNo, x_sSeq, argsOf, argOf, locs, backs, nd0, nd1, store, put, frz, tgt, tgts, isOw, z_add, z_sub, z_xor, z_eq, z_ne, z_lt, z_le, z_gt, z_ge, z_dd, z_do, z_dl, z_tb, z_lenL, z_lenT, z_int, z_intB, z_abs, z_max, z_min, z_tupL, z_tupT, z_lstL, z_lstT, z_scr, ix0, ix1, ix2, ix3, ix4, ixn1, ixn2, ixn3, ixn4, decide_true, decide_false, if_true, if_false, Bool.false_eq_true, Bool.and_true, Bool.true_and, Bool.not_true, Bool.not_false, x_turnC, wipeE, back, x_sForB, x_forB, List.getD_cons_zero, List.getD_cons_succ, ha, hb, h]
theorem tcmp_oo {op : Cop} {a b : FV} {e e1 e2 : En} {x y : List Dt} {k : Bool} (ha : a e = some (.own x, e1)) (hb : b e1 = some (.own y, e2)) (h : cop op (.list x) (.list y) = some k) : tOf (vCmp op a b) e = some (k, e2) := by
  simp only [List.getElem?_cons_zero, List.getElem?_cons_succ, List.set_cons_zero, List.set_cons_succ, List.replicate_succ, List.replicate_zero, List.cons_append, List.nil_append, x_vCst, x_vNm, x_vBin, x_vNeg, x_vBits, x_vCmp, x_vCmp2, x_vAnd, x_vOr, x_vNot, x_vIte, x_vTup, x_vLst, x_vIx, x_vSlF, x_vSlT, x_vSl, x_vRev, x_vCall, x_vBlt, x_vBlt2, x_vPop, x_vPopAt, x_fYes, x_vFz, x_vNo, x_tOf, x_tAnd, x_tOr, x_tNot, x_iOf, x_iNo, x_iRng1, x_iRng2, x_iRng3, x_iEnum, x_iZip, x_iRevd, x_aNil, x_aCons, x_dNil, x_dCons, x_sAsg, x_sAsgT, x_sPar, x_sSet, x_sAug, x_sAugS, x_sApp, x_sExt, x_sEx, x_sIte, x_sRet, x_sRetN, x_sBrk, x_sCont, x_sPass, x_sNo, x_sSeq, argsOf, argOf, locs, backs, nd0, nd1, store, put, frz, tgt, tgts, isOw, z_add, z_sub, z_xor, z_eq, z_ne, z_lt, z_le, z_gt, z_ge, z_dd, z_do, z_dl, z_tb, z_lenL, z_lenT, z_int, z_intB, z_abs, z_max, z_min, z_tupL, z_tupT, z_lstL, z_lstT, z_scr, ix0, ix1, ix2, ix3, ix4, ixn1, ixn2, ixn3, ixn4, decide_true, decide_false, if_true, if_false, Bool.false_eq_true, Bool.and_true, Bool.true_and, Bool.not_true, Bool.not_false, x_turnC, wipeE, back, x_sForB, x_forB, List.getD_cons_zero, List.getD_cons_succ, ha, hb, h]
theorem tcmp_do {op : Cop} {a b : FV} {e e1 e2 : En} {x : Dt} {y : List Dt} {k : Bool} (ha : a e = some (.d x, e1)) (hb : b e1 = some (.own y, e2)) (h : cop op x (.list y) = some k) : tOf (vCmp op a b) e = some (k, e2) := by
  simp only [List.getElem?_cons_zero, List.getElem?_cons_succ, List.set_cons_zero, List.set_cons_succ, List.replicate_succ, List.replicate_zero, List.cons_append, List.nil_append, x_vCst, x_vNm, x_vBin, x_vNeg, x_vBits, x_vCmp, x_vCmp2, x_vAnd, x_vOr, x_vNot, x_vIte, x_vTup, x_vLst, x_vIx, x_vSlF, x_vSlT, x_vSl, x_vRev, x_vCall, x_vBlt, x_vBlt2, x_vPop, x_vPopAt, x_fYes, x_vFz, x_vNo, x_tOf, x_tAnd, x_tOr, x_tNot, x_iOf, x_iNo, x_iRng1, x_iRng2, x_iRng3, x_iEnum, x_iZip, x_iRevd, x_aNil, x_aCons, x_dNil, x_dCons, x_sAsg, x_sAsgT, x_sPar, x_sSet, x_sAug, x_sAugS, x_sApp, x_sExt, x_sEx, x_sIte, x_sRet, x_sRetN, x_sBrk, x_sCont, x_sPass, x_sNo, x_sSeq, argsOf, argOf, locs, backs, nd0, nd1, store, put, frz, tgt, tgts, isOw, z_add, z_sub, z_xor, z_eq, z_ne, z_lt, z_le, z_gt, z_ge, z_dd, z_do, z_dl, z_tb, z_lenL, z_lenT, z_int, z_intB, z_abs, z_max, z_min, z_tupL, z_tupT, z_lstL, z_lstT, z_scr, ix0, ix1, ix2, ix3, ix4, ixn1, ixn2, ixn3, ixn4, decide_true, decide_false, if_true, if_false, Bool.false_eq_true, Bool.and_true, Bool.true_and, Bool.not_true, Bool.not_false, x_turnC, wipeE, back, x_sForB, x_forB, List.getD_cons_zero, List.getD_cons_succ, ha, hb, h]
theorem tor_f {a b : FT} {e e1 e2 : En} {k : Bool} (ha : a e = some (false, e1)) (hb : b e1 = some (k, e2)) : tOr a b e = some (k, e2) := by
  unfold tOr
  rw [ha]
  exact hb
theorem cat_of {a b : FV} {e e1 e2 : En} {x y : List Dt} (ha : a e = some (.d (.tuple x), e1)) (hb : b e1 = some (.d (.tuple y), e2)) (h : x.length + y.length ≤ 1000000) : vBin .add a b e = some (.d (.tuple (x ++ y)), e2) := by
  have := z_catT h
  simp only [List.getElem?_cons_zero, List.getElem?_cons_succ, List.set_cons_zero, List.set_cons_succ, List.replicate_succ, List.replicate_zero, List.cons_append, List.nil_append, x_vCst, x_vNm, x_vBin, x_vNeg, x_vBits, x_vCmp, x_vCmp2, x_vAnd, x_vOr, x_vNot, x_vIte, x_vTup, x_vLst, x_vIx, x_vSlF, x_vSlT, x_vSl, x_vRev, x_vCall, x_vBlt, x_vBlt2, x_vPop, x_vPopAt, x_fYes, x_vFz, x_vNo, x_tOf, x_tAnd, x_tOr, x_tNot, x_iOf, x_iNo, x_iRng1, x_iRng2, x_iRng3, x_iEnum, x_iZip, x_iRevd, x_aNil, x_aCons, x_dNil, x_dCons, x_sAsg, x_sAsgT, x_sPar, x_sSet, x_sAug, x_sAugS, x_sApp, x_sExt, x_sEx, x_sIte, x_sRet, x_sRetN, x_sBrk, x_sCont, x_sPass, x_sNo, x_sSeq, argsOf, argOf, locs, backs, nd0, nd1, store, put, frz, tgt, tgts, isOw, z_add, z_sub, z_xor, z_eq, z_ne, z_lt, z_le, z_gt, z_ge, z_dd, z_do, z_dl, z_tb, z_lenL, z_lenT, z_int, z_intB, z_abs, z_max, z_min, z_tupL, z_tupT, z_lstL, z_lstT, z_scr, ix0, ix1, ix2, ix3, ix4, ixn1, ixn2, ixn3, ixn4, decide_true, decide_false, if_true, if_false, Bool.false_eq_true, Bool.and_true, Bool.true_and, Bool.not_true, Bool.not_false, x_turnC, wipeE, back, x_sForB, x_forB, List.getD_cons_zero, List.getD_cons_succ, ha, hb, this]
theorem one_of {e : En} {x : Int} : vTup (dCons (vCst (.int x)) dNil) e = some (.d (.tuple [.int x]), e) := by
  have hs : small [PyData.int x] = true := rfl
  simp only [List.getElem?_cons_zero, List.getElem?_cons_succ, List.set_cons_zero, List.set_cons_succ, List.replicate_succ, List.replicate_zero, List.cons_append, List.nil_append, x_vCst, x_vNm, x_vBin, x_vNeg, x_vBits, x_vCmp, x_vCmp2, x_vAnd, x_vOr, x_vNot, x_vIte, x_vTup, x_vLst, x_vIx, x_vSlF, x_vSlT, x_vSl, x_vRev, x_vCall, x_vBlt, x_vBlt2, x_vPop, x_vPopAt, x_fYes, x_vFz, x_vNo, x_tOf, x_tAnd, x_tOr, x_tNot, x_iOf, x_iNo, x_iRng1, x_iRng2, x_iRng3, x_iEnum, x_iZip, x_iRevd, x_aNil, x_aCons, x_dNil, x_dCons, x_sAsg, x_sAsgT, x_sPar, x_sSet, x_sAug, x_sAugS, x_sApp, x_sExt, x_sEx, x_sIte, x_sRet, x_sRetN, x_sBrk, x_sCont, x_sPass, x_sNo, x_sSeq, argsOf, argOf, locs, backs, nd0, nd1, store, put, frz, tgt, tgts, isOw, z_add, z_sub, z_xor, z_eq, z_ne, z_lt, z_le, z_gt, z_ge, z_dd, z_do, z_dl, z_tb, z_lenL, z_lenT, z_int, z_intB, z_abs, z_max, z_min, z_tupL, z_tupT, z_lstL, z_lstT, z_scr, ix0, ix1, ix2, ix3, ix4, ixn1, ixn2, ixn3, ixn4, decide_true, decide_false, if_true, if_false, Bool.false_eq_true, Bool.and_true, Bool.true_and, Bool.not_true, Bool.not_false, x_turnC, wipeE, back, x_sForB, x_forB, List.getD_cons_zero, List.getD_cons_succ, hs]
theorem int_of {a : FV} {e e1 : En} {x : Int} (ha : a e = some (.d (.int x), e1)) : vBlt .int a e = some (.d (.int x), e1) := by
  simp only [List.getElem?_cons_zero, List.getElem?_cons_succ, List.set_cons_zero, List.set_cons_succ, List.replicate_succ, List.replicate_zero, List.cons_append, List.nil_append, x_vCst, x_vNm, x_vBin, x_vNeg, x_vBits, x_vCmp, x_vCmp2, x_vAnd, x_vOr, x_vNot, x_vIte, x_vTup, x_vLst, x_vIx, x_vSlF, x_vSlT, x_vSl, x_vRev, x_vCall, x_vBlt, x_vBlt2, x_vPop, x_vPopAt, x_fYes, x_vFz, x_vNo, x_tOf, x_tAnd, x_tOr, x_tNot, x_iOf, x_iNo, x_iRng1, x_iRng2, x_iRng3, x_iEnum, x_iZip, x_iRevd, x_aNil, x_aCons, x_dNil, x_dCons, x_sAsg, x_sAsgT, x_sPar, x_sSet, x_sAug, x_sAugS, x_sApp, x_sExt, x_sEx, x_sIte, x_sRet, x_sRetN, x_sBrk, x_sCont, x_sPass, x_sNo, x_sSeq, argsOf, argOf, locs, backs, nd0, nd1, store, put, frz, tgt, tgts, isOw, z_add, z_sub, z_xor, z_eq, z_ne, z_lt, z_le, z_gt, z_ge, z_dd, z_do, z_dl, z_tb, z_lenL, z_lenT, z_int, z_intB, z_abs, z_max, z_min, z_tupL, z_tupT, z_lstL, z_lstT, z_scr, ix0, ix1, ix2, ix3, ix4, ixn1, ixn2, ixn3, ixn4, decide_true, decide_false, if_true, if_false, Bool.false_eq_true, Bool.and_true, Bool.true_and, Bool.not_true, Bool.not_false, x_turnC, wipeE, back, x_sForB, x_forB, List.getD_cons_zero, List.getD_cons_succ, ha]
theorem abs_of {a : FV} {e e1 : En} {x : Int} (ha : a e = some (.d (.int x), e1)) : vBlt .abs a e = some (.d (.int x.natAbs), e1) := by
  have h : (if x < 0 then -x else x) = (x.natAbs : Int) := by split <;> omega
  simp only [List.getElem?_cons_zero, List.getElem?_cons_succ, List.set_cons_zero, List.set_cons_succ, List.replicate_succ, List.replicate_zero, List.cons_append, List.nil_append, x_vCst, x_vNm, x_vBin, x_vNeg, x_vBits, x_vCmp, x_vCmp2, x_vAnd, x_vOr, x_vNot, x_vIte, x_vTup, x_vLst, x_vIx, x_vSlF, x_vSlT, x_vSl, x_vRev, x_vCall, x_vBlt, x_vBlt2, x_vPop, x_vPopAt, x_fYes, x_vFz, x_vNo, x_tOf, x_tAnd, x_tOr, x_tNot, x_iOf, x_iNo, x_iRng1, x_iRng2, x_iRng3, x_iEnum, x_iZip, x_iRevd, x_aNil, x_aCons, x_dNil, x_dCons, x_sAsg, x_sAsgT, x_sPar, x_sSet, x_sAug, x_sAugS, x_sApp, x_sExt, x_sEx, x_sIte, x_sRet, x_sRetN, x_sBrk, x_sCont, x_sPass, x_sNo, x_sSeq, argsOf, argOf, locs, backs, nd0, nd1, store, put, frz, tgt, tgts, isOw, z_add, z_sub, z_xor, z_eq, z_ne, z_lt, z_le, z_gt, z_ge, z_dd, z_do, z_dl, z_tb, z_lenL, z_lenT, z_int, z_intB, z_abs, z_max, z_min, z_tupL, z_tupT, z_lstL, z_lstT, z_scr, ix0, ix1, ix2, ix3, ix4, ixn1, ixn2, ixn3, ixn4, decide_true, decide_false, if_true, if_false, Bool.false_eq_true, Bool.and_true, Bool.true_and, Bool.not_true, Bool.not_false, x_turnC, wipeE, back, x_sForB, x_forB, List.getD_cons_zero, List.getD_cons_succ, ha, h]
theorem mod_of {a b : FV} {e e1 e2 : En} {x y : Int} (ha : a e = some (.d (.int x), e1)) (hb : b e1 = some (.d (.int y), e2)) (h : y ≠ 0) : vBin .mod a b e = some (.d (.int (x.fmod y)), e2) := by
  have := z_mod (a := x) h
  simp only [List.getElem?_cons_zero, List.getElem?_cons_succ, List.set_cons_zero, List.set_cons_succ, List.replicate_succ, List.replicate_zero, List.cons_append, List.nil_append, x_vCst, x_vNm, x_vBin, x_vNeg, x_vBits, x_vCmp, x_vCmp2, x_vAnd, x_vOr, x_vNot, x_vIte, x_vTup, x_vLst, x_vIx, x_vSlF, x_vSlT, x_vSl, x_vRev, x_vCall, x_vBlt, x_vBlt2, x_vPop, x_vPopAt, x_fYes, x_vFz, x_vNo, x_tOf, x_tAnd, x_tOr, x_tNot, x_iOf, x_iNo, x_iRng1, x_iRng2, x_iRng3, x_iEnum, x_iZip, x_iRevd, x_aNil, x_aCons, x_dNil, x_dCons, x_sAsg, x_sAsgT, x_sPar, x_sSet, x_sAug, x_sAugS, x_sApp, x_sExt, x_sEx, x_sIte, x_sRet, x_sRetN, x_sBrk, x_sCont, x_sPass, x_sNo, x_sSeq, argsOf, argOf, locs, backs, nd0, nd1, store, put, frz, tgt, tgts, isOw, z_add, z_sub, z_xor, z_eq, z_ne, z_lt, z_le, z_gt, z_ge, z_dd, z_do, z_dl, z_tb, z_lenL, z_lenT, z_int, z_intB, z_abs, z_max, z_min, z_tupL, z_tupT, z_lstL, z_lstT, z_scr, ix0, ix1, ix2, ix3, ix4, ixn1, ixn2, ixn3, ixn4, decide_true, decide_false, if_true, if_false, Bool.false_eq_true, Bool.and_true, Bool.true_and, Bool.not_true, Bool.not_false, x_turnC, wipeE, back, x_sForB, x_forB, List.getD_cons_zero, List.getD_cons_succ, ha, hb, this]
theorem lenT_of {a : FV} {e e1 : En} {x : List Dt} (ha : a e = some (.d (.tuple x), e1)) : vBlt .len a e = some (.d (.int x.length), e1) := by
  simp only [List.getElem?_cons_zero, List.getElem?_cons_succ, List.set_cons_zero, List.set_cons_succ, List.replicate_succ, List.replicate_zero, List.cons_append, List.nil_append, x_vCst, x_vNm, x_vBin, x_vNeg, x_vBits, x_vCmp, x_vCmp2, x_vAnd, x_vOr, x_vNot, x_vIte, x_vTup, x_vLst, x_vIx, x_vSlF, x_vSlT, x_vSl, x_vRev, x_vCall, x_vBlt, x_vBlt2, x_vPop, x_vPopAt, x_fYes, x_vFz, x_vNo, x_tOf, x_tAnd, x_tOr, x_tNot, x_iOf, x_iNo, x_iRng1, x_iRng2, x_iRng3, x_iEnum, x_iZip, x_iRevd, x_aNil, x_aCons, x_dNil, x_dCons, x_sAsg, x_sAsgT, x_sPar, x_sSet, x_sAug, x_sAugS, x_sApp, x_sExt, x_sEx, x_sIte, x_sRet, x_sRetN, x_sBrk, x_sCont, x_sPass, x_sNo, x_sSeq, argsOf, argOf, locs, backs, nd0, nd1, store, put, frz, tgt, tgts, isOw, z_add, z_sub, z_xor, z_eq, z_ne, z_lt, z_le, z_gt, z_ge, z_dd, z_do, z_dl, z_tb, z_lenL, z_lenT, z_int, z_intB, z_abs, z_max, z_min, z_tupL, z_tupT, z_lstL, z_lstT, z_scr, ix0, ix1, ix2, ix3, ix4, ixn1, ixn2, ixn3, ixn4, decide_true, decide_false, if_true, if_false, Bool.false_eq_true, Bool.and_true, Bool.true_and, Bool.not_true, Bool.not_false, x_turnC, wipeE, back, x_sForB, x_forB, List.getD_cons_zero, List.getD_cons_succ, ha]
theorem tupL_of {a : FV} {e e1 : En} {x : List Dt} (ha : a e = some (.own x, e1)) : vBlt .tuple a e = some (.d (.tuple x), e1) := by
  simp only [List.getElem?_cons_zero, List.getElem?_cons_succ, List.set_cons_zero, List.set_cons_succ, List.replicate_succ, List.replicate_zero, List.cons_append, List.nil_append, x_vCst, x_vNm, x_vBin, x_vNeg, x_vBits, x_vCmp, x_vCmp2, x_vAnd, x_vOr, x_vNot, x_vIte, x_vTup, x_vLst, x_vIx, x_vSlF, x_vSlT, x_vSl, x_vRev, x_vCall, x_vBlt, x_vBlt2, x_vPop, x_vPopAt, x_fYes, x_vFz, x_vNo, x_tOf, x_tAnd, x_tOr, x_tNot, x_iOf, x_iNo, x_iRng1, x_iRng2, x_iRng3, x_iEnum, x_iZip, x_iRevd, x_aNil, x_aCons, x_dNil, x_dCons, x_sAsg, x_sAsgT, x_sPar, x_sSet, x_sAug, x_sAugS, x_sApp, x_sExt, x_sEx, x_sIte, x_sRet, x_sRetN, x_sBrk, x_sCont, x_sPass, x_sNo, x_sSeq, argsOf, argOf, locs, backs, nd0, nd1, store, put, frz, tgt, tgts, isOw, z_add, z_sub, z_xor, z_eq, z_ne, z_lt, z_le, z_gt, z_ge, z_dd, z_do, z_dl, z_tb, z_lenL, z_lenT, z_int, z_intB, z_abs, z_max, z_min, z_tupL, z_tupT, z_lstL, z_lstT, z_scr, ix0, ix1, ix2, ix3, ix4, ixn1, ixn2, ixn3, ixn4, decide_true, decide_false, if_true, if_false, Bool.false_eq_true, Bool.and_true, Bool.true_and, Bool.not_true, Bool.not_false, x_turnC, wipeE, back, x_sForB, x_forB, List.getD_cons_zero, List.getD_cons_succ, ha]
theorem ix_of {a b : FV} {e e1 e2 : En} {x : List Dt} {y : Int} {d : Dt} (ha : a e = some (.d (.tuple x), e1)) (hb : b e1 = some (.d (.int y), e2)) (h : ixD x y = some d) : vIx a b e = some (.d d, e2) := by
  simp only [List.getElem?_cons_zero, List.getElem?_cons_succ, List.set_cons_zero, List.set_cons_succ, List.replicate_succ, List.replicate_zero, List.cons_append, List.nil_append, x_vCst, x_vNm, x_vBin, x_vNeg, x_vBits, x_vCmp, x_vCmp2, x_vAnd, x_vOr, x_vNot, x_vIte, x_vTup, x_vLst, x_vIx, x_vSlF, x_vSlT, x_vSl, x_vRev, x_vCall, x_vBlt, x_vBlt2, x_vPop, x_vPopAt, x_fYes, x_vFz, x_vNo, x_tOf, x_tAnd, x_tOr, x_tNot, x_iOf, x_iNo, x_iRng1, x_iRng2, x_iRng3, x_iEnum, x_iZip, x_iRevd, x_aNil, x_aCons, x_dNil, x_dCons, x_sAsg, x_sAsgT, x_sPar, x_sSet, x_sAug, x_sAugS, x_sApp, x_sExt, x_sEx, x_sIte, x_sRet, x_sRetN, x_sBrk, x_sCont, x_sPass, x_sNo, x_sSeq, argsOf, argOf, locs, backs, nd0, nd1, store, put, frz, tgt, tgts, isOw, z_add, z_sub, z_xor, z_eq, z_ne, z_lt, z_le, z_gt, z_ge, z_dd, z_do, z_dl, z_tb, z_lenL, z_lenT, z_int, z_intB, z_abs, z_max, z_min, z_tupL, z_tupT, z_lstL, z_lstT, z_scr, ix0, ix1, ix2, ix3, ix4, ixn1, ixn2, ixn3, ixn4, decide_true, decide_false, if_true, if_false, Bool.false_eq_true, Bool.and_true, Bool.true_and, Bool.not_true, Bool.not_false, x_turnC, wipeE, back, x_sForB, x_forB, List.getD_cons_zero, List.getD_cons_succ, ha, hb, h]
theorem intsOf_il : ∀ ds : List Int, intsOf (il ds) = some ds
  | [] => rfl
  | d :: ds => by
    show (match intsOf (il ds) with
      | some l => some (d :: l)
      | none => none) = _
    rw [intsOf_il ds]
theorem sum_of {a : FV} {e e1 : En} {ds : List Int} (ha : a e = some (.d (.tuple (il ds)), e1)) : vBlt .sum a e = some (.d (.int ds.sum), e1) := by
  have h : blt .sum [.tuple (il ds)] = some (.d (.int ds.sum)) := by
    show (match intsOf (il ds) with
      | some ns => some (Rv.d (.int ns.sum))
      | none => none) = _
    rw [intsOf_il]
  simp only [List.getElem?_cons_zero, List.getElem?_cons_succ, List.set_cons_zero, List.set_cons_succ, List.replicate_succ, List.replicate_zero, List.cons_append, List.nil_append, x_vCst, x_vNm, x_vBin, x_vNeg, x_vBits, x_vCmp, x_vCmp2, x_vAnd, x_vOr, x_vNot, x_vIte, x_vTup, x_vLst, x_vIx, x_vSlF, x_vSlT, x_vSl, x_vRev, x_vCall, x_vBlt, x_vBlt2, x_vPop, x_vPopAt, x_fYes, x_vFz, x_vNo, x_tOf, x_tAnd, x_tOr, x_tNot, x_iOf, x_iNo, x_iRng1, x_iRng2, x_iRng3, x_iEnum, x_iZip, x_iRevd, x_aNil, x_aCons, x_dNil, x_dCons, x_sAsg, x_sAsgT, x_sPar, x_sSet, x_sAug, x_sAugS, x_sApp, x_sExt, x_sEx, x_sIte, x_sRet, x_sRetN, x_sBrk, x_sCont, x_sPass, x_sNo, x_sSeq, argsOf, argOf, locs, backs, nd0, nd1, store, put, frz, tgt, tgts, isOw, z_add, z_sub, z_xor, z_eq, z_ne, z_lt, z_le, z_gt, z_ge, z_dd, z_do, z_dl, z_tb, z_lenL, z_lenT, z_int, z_intB, z_abs, z_max, z_min, z_tupL, z_tupT, z_lstL, z_lstT, z_scr, ix0, ix1, ix2, ix3, ix4, ixn1, ixn2, ixn3, ixn4, decide_true, decide_false, if_true, if_false, Bool.false_eq_true, Bool.and_true, Bool.true_and, Bool.not_true, Bool.not_false, x_turnC, wipeE, back, x_sForB, x_forB, List.getD_cons_zero, List.getD_cons_succ, ha, h]
theorem lay_il : ∀ ds : List Int, PyData.canLayAll0 (il ds) = true ∧ PyData.depthAll (il ds) = 0
  | [] => ⟨rfl, rfl⟩
  | d :: ds => by
    obtain ⟨h1, h2⟩ := lay_il ds
    refine ⟨?_, ?_⟩
    · show (PyData.canLay0 (.int d) && PyData.canLayAll0 (il ds)) = true
      rw [h1]
      rfl
    · show max (PyData.depth (.int d)) (PyData.depthAll (il ds)) = 0
      rw [h2]
      rfl
theorem shaped_tup (ds : List Int) : SeqAt.shaped (.tuple (il ds)) = true := by
  obtain ⟨h1, h2⟩ := lay_il ds
  show (PyData.canLayAll0 (il ds) && decide (PyData.depthAll (il ds) + 1 ≤ 64)) = true
  rw [h1, h2]
  rfl
theorem shaped_lst (ds : List Int) : SeqAt.shaped (.list (il ds)) = true := by
  obtain ⟨h1, h2⟩ := lay_il ds
  show (PyData.canLayAll0 (il ds) && decide (PyData.depthAll (il ds) + 1 ≤ 64)) = true
  rw [h1, h2]
  rfl
theorem eqv_il : ∀ ds : List Int, PyData.eqvAll (il ds) (il ds) = true
  | [] => rfl
  | d :: ds => by
    show (PyData.eqv (.int d) (.int d) && PyData.eqvAll (il ds) (il ds)) = true
    rw [eqv_il ds]
    show ((d == d) && true) = true
    simp
theorem ne_tup (ds : List Int) : cop .ne (.tuple (il ds)) (.tuple (il ds)) = some false := by
  show (if (SeqAt.shaped (.tuple (il ds)) && SeqAt.shaped (.tuple (il ds))) = true then some (!PyData.eqvAll (il ds) (il ds)) else none) = _
  rw [shaped_tup, eqv_il]
  rfl
theorem eq_tup (ds : List Int) : cop .eq (.tuple (il ds)) (.tuple (il ds)) = some true := by
  show (if (SeqAt.shaped (.tuple (il ds)) && SeqAt.shaped (.tuple (il ds))) = true then some (PyData.eqvAll (il ds) (il ds)) else none) = _
  rw [shaped_tup, eqv_il]
  rfl
theorem ne_lst (ds : List Int) : cop .ne (.list (il ds)) (.list (il ds)) = some false := by
  show (if (SeqAt.shaped (.list (il ds)) && SeqAt.shaped (.list (il ds))) = true then some (!PyData.eqvAll (il ds) (il ds)) else none) = _
  rw [shaped_lst, eqv_il]
  rfl
theorem ne_int (a : Int) : cop .ne (.int a) (.int a) = some false := by
  rw [z_ne, decide_eq_true rfl]
  rfl
theorem shaped_bools : ∀ bs : List Bool, SeqAt.shaped (.list (bs.map PyData.bool)) = true := fun bs => by
  have h : PyData.canLayAll0 (bs.map PyData.bool) = true ∧ PyData.depthAll (bs.map PyData.bool) = 0 := by
    induction bs with
    | nil => exact ⟨rfl, rfl⟩
    | cons b bs ih =>
      obtain ⟨h1, h2⟩ := ih
      refine ⟨?_, ?_⟩
      · show (PyData.canLay0 (.bool b) && PyData.canLayAll0 (bs.map PyData.bool)) = true
        rw [h1]
        rfl
      · show max (PyData.depth (.bool b)) (PyData.depthAll (bs.map PyData.bool)) = 0
        rw [h2]
        rfl
  obtain ⟨h1, h2⟩ := h
  show (PyData.canLayAll0 (bs.map PyData.bool) && decide (PyData.depthAll (bs.map PyData.bool) + 1 ≤ 64)) = true
  rw [h1, h2]
  rfl
theorem nmem_bools (bs : List Bool) : cop .nmem (.bool false) (.list (bs.map PyData.bool)) = some (!bs.any fun b => !b) := by
  have hs : SeqAt.shaped (.bool false) = true := rfl
  show (if (SeqAt.shaped (.bool false) && SeqAt.shaped (.list (bs.map PyData.bool))) = true then some (!(bs.map PyData.bool).any fun z => PyData.eqv z (.bool false)) else none) = _
  rw [hs, shaped_bools]
  show some (!(bs.map PyData.bool).any fun z => PyData.eqv z (.bool false)) = _
  congr 2
  induction bs with
  | nil => rfl
  | cons b bs ih =>
    rw [List.map_cons, List.any_cons, List.any_cons, ih]
    cases b <;> rfl
theorem lixD {e : En} {a b : FV} {x : List Dt} {e1 e2 : En} {i : Nat} {y : Int} {d : Dt} (ha : a e = some (.loc i, e1)) (hb : b e1 = some (.d (.int y), e2)) (hi : e2[i]? = some (.ow false x)) (h : ixD x y = some d) : vIx a b e = some (.d d, e2) := by
  simp only [List.getElem?_cons_zero, List.getElem?_cons_succ, List.set_cons_zero, List.set_cons_succ, List.replicate_succ, List.replicate_zero, List.cons_append, List.nil_append, x_vCst, x_vNm, x_vBin, x_vNeg, x_vBits, x_vCmp, x_vCmp2, x_vAnd, x_vOr, x_vNot, x_vIte, x_vTup, x_vLst, x_vIx, x_vSlF, x_vSlT, x_vSl, x_vRev, x_vCall, x_vBlt, x_vBlt2, x_vPop, x_vPopAt, x_fYes, x_vFz, x_vNo, x_tOf, x_tAnd, x_tOr, x_tNot, x_iOf, x_iNo, x_iRng1, x_iRng2, x_iRng3, x_iEnum, x_iZip, x_iRevd, x_aNil, x_aCons, x_dNil, x_dCons, x_sAsg, x_sAsgT, x_sPar, x_sSet, x_sAug, x_sAugS, x_sApp, x_sExt, x_sEx, x_sIte, x_sRet, x_sRetN, x_sBrk, x_sCont, x_sPass, x_sNo, x_sSeq, argsOf, argOf, locs, backs, nd0, nd1, store, put, frz, tgt, tgts, isOw, z_add, z_sub, z_xor, z_eq, z_ne, z_lt, z_le, z_gt, z_ge, z_dd, z_do, z_dl, z_tb, z_lenL, z_lenT, z_int, z_intB, z_abs, z_max, z_min, z_tupL, z_tupT, z_lstL, z_lstT, z_scr, ix0, ix1, ix2, ix3, ix4, ixn1, ixn2, ixn3, ixn4, decide_true, decide_false, if_true, if_false, Bool.false_eq_true, Bool.and_true, Bool.true_and, Bool.not_true, Bool.not_false, x_turnC, wipeE, back, x_sForB, x_forB, List.getD_cons_zero, List.getD_cons_succ, ha, hb, hi, h]
end De
end

section
set_option maxHeartbeats 0
namespace Lawk93
open PySem PySem.Spec PyProof.Rows L2 De
def top (i : Nat) : Stmt := PySem.Challenge.pw_wholeproof_k93_whole_chains_of_sums_put.main.body.getD i (.Pass ⟨0, 0, 0, 0⟩)
def dd (i : Nat) (x y : Str) : He.DefD := ⟨(x, none), y, y, defArgs (top i), defBody (top i), defScope (top i), [], []⟩
def b__law_pool : Ss :=
 (.cons (.ret (.lst (.cons (.blt .list (.nm 0)) (.cons (.cst (.int 0)) (.cons (.cst (.int 0)) (.cons (.cst (.int 1)) (.cons (.cst (.int 0)) (.cons (.nm 1) .nil))))))))
 .nil)
def b__size : Ss :=
 (.cons (.ite (.cmp2 .lt .lt (.neg (.cst (.int 2))) (.nm 0) (.cst (.int 2)))
 (.cons .never
 .nil)
 .nil)
 (.cons (.ret (.blt .abs (.nm 0)))
 .nil))
def b_figures : Ss :=
 (.cons (.asg (.nm 2) (.call 1 (.cons (.nm 1) .nil)))
 (.cons (.ite (.and (.cmp .gt (.nm 1) (.cst (.int 0))) (.one (.cmp .lt (.nm 0) (.cst (.int 0)))))
 (.cons .never
 .nil)
 .nil)
 (.cons (.asg (.nm 3) (.lst .nil))
 (.cons (.whl (.cmp .ne (.nm 0) (.cst (.int 0)))
 (.cons (.app 3 (.bin .mod (.nm 0) (.nm 2)))
 (.cons (.asg (.nm 0) (.bin .fdiv (.bin .sub (.nm 0) (.bin .mod (.nm 0) (.nm 2))) (.nm 1)))
 .nil)))
 (.cons (.ret (.blt .tuple (.nm 3)))
 .nil)))))
def b__law_same : Ss :=
 (.cons (.ite (.or (.isi .tuple (.nm 1)) (.one (.isi .list (.nm 1))))
 (.cons (.ite (.or (.cmp .ne (.isi .tuple (.nm 1)) (.isi .tuple (.nm 0))) (.one (.cmp .ne (.isi .list (.nm 1)) (.isi .list (.nm 0)))))
 (.cons (.ret (.cst (.bool false)))
 .nil)
 .nil)
 (.cons (.ite (.cmp .ne (.blt .len (.nm 0)) (.blt .len (.nm 1)))
 (.cons (.ret (.cst (.bool false)))
 .nil)
 .nil)
 (.cons (.for (.nm 2) (.rng1 (.blt .len (.nm 1)))
 (.cons (.ite (.not (.call 3 (.cons (.ix (.nm 0) (.nm 2)) (.cons (.ix (.nm 1) (.nm 2)) .nil))))
 (.cons (.ret (.cst (.bool false)))
 .nil)
 .nil)
 .nil))
 (.cons (.ret (.cst (.bool true)))
 .nil))))
 .nil)
 (.cons (.ite (.or (.cmp .isn (.nm 1) (.cst .none)) (.one (.isi .bool (.nm 1))))
 (.cons (.ret (.and (.cmp .eq (.cmp .isn (.nm 0) (.cst .none)) (.cmp .isn (.nm 1) (.cst .none))) (.and (.or (.cmp .isn (.nm 1) (.cst .none)) (.one (.isi .bool (.nm 0)))) (.one (.cmp .eq (.nm 0) (.nm 1))))))
 .nil)
 .nil)
 (.cons (.ite (.isi .int (.nm 1))
 (.cons (.ret (.and (.isi .int (.nm 0)) (.and (.not (.isi .bool (.nm 0))) (.one (.cmp .eq (.nm 0) (.nm 1))))))
 .nil)
 .nil)
 (.cons (.ret (.and (.isi .str (.nm 0)) (.one (.cmp .eq (.nm 0) (.nm 1)))))
 .nil))))
def b__law_draw : Ss :=
 (.cons (.ite (.and (.cmp .le (.ix (.nm 0) (.cst (.int 2))) (.cst (.int 0))) (.and (.cmp .le (.ix (.nm 0) (.cst (.int 4))) (.cst (.int 0))) (.one (.cmp .lt (.ix (.nm 0) (.cst (.int 1))) (.blt .len (.ix (.nm 0) (.cst (.int 0))))))))
 (.cons (.asg (.nm 2) (.ix (.ix (.nm 0) (.cst (.int 0))) (.ix (.nm 0) (.cst (.int 1)))))
 (.cons (.set 0 (.cst (.int 1)) (.bin .add (.ix (.nm 0) (.cst (.int 1))) (.cst (.int 1))))
 (.cons (.set 0 (.cst (.int 3)) (.bin .mod (.blt .int (.bin .add (.bin .mul (.ix (.nm 0) (.cst (.int 3))) (.cst (.int 31))) (.nm 2))) (.cst (.int 2147483647))))
 (.cons (.set 0 (.cst (.int 4)) (.cst (.int 7)))
 (.cons (.ite (.cmp .ge (.nm 2) (.bin .pow (.cst (.int 10)) (.cst (.int 18))))
 (.cons (.set 0 (.cst (.int 2)) (.nm 2))
 .nil)
 .nil)
 .nil)))))
 .nil)
 (.cons (.ite (.cmp .gt (.ix (.nm 0) (.cst (.int 2))) (.cst (.int 0)))
 (.cons (.asg (.nm 3) (.bin .mod (.blt .int (.ix (.nm 0) (.cst (.int 2)))) (.nm 1)))
 (.cons (.set 0 (.cst (.int 2)) (.bin .fdiv (.ix (.nm 0) (.cst (.int 2))) (.nm 1)))
 (.cons (.set 0 (.cst (.int 4)) (.cst (.int 0)))
 (.cons (.ret (.nm 3))
 .nil))))
 .nil)
 (.cons (.set 0 (.cst (.int 4)) (.bin .sub (.ix (.nm 0) (.cst (.int 4))) (.cst (.int 1))))
 (.cons (.set 0 (.cst (.int 3)) (.bin .mod (.blt .int (.bin .add (.bin .mul (.ix (.nm 0) (.cst (.int 3))) (.cst (.int 48271))) (.cst (.int 12345)))) (.cst (.int 2147483647))))
 (.cons (.ret (.bin .mod (.bin .mod (.blt .int (.bin .add (.bin .mul (.ix (.nm 0) (.cst (.int 3))) (.cst (.int 69621))) (.cst (.int 7919)))) (.cst (.int 2147483647))) (.nm 1)))
 .nil)))))
def b_adding_right : Ss :=
 (.cons (.asg (.tp (.cons (.nm 1) (.cons (.nm 2) (.cons (.nm 3) .nil)))) (.nm 0))
 (.cons (.ite (.or (.cmp .eq (.blt .len (.nm 3)) (.cst (.int 0))) (.or (.cmp .ne (.ix (.nm 3) (.cst (.int 0))) (.cst (.int 1))) (.one (.cmp .ne (.ix (.nm 3) (.neg (.cst (.int 1)))) (.nm 2)))))
 (.cons (.ret (.cst (.bool false)))
 .nil)
 .nil)
 (.cons (.for (.nm 4) (.rng2 (.cst (.int 1)) (.blt .len (.nm 3)))
 (.cons (.asg (.nm 5) (.slT (.nm 3) (.nm 4)))
 (.cons (.ite (.or (.cmp .le (.ix (.nm 3) (.nm 4)) (.ix (.nm 3) (.bin .sub (.nm 4) (.cst (.int 1))))) (.one (.not (.blt .any (.comp (.cmp .mem (.bin .sub (.ix (.nm 3) (.nm 4)) (.nm 6)) (.nm 5)) [6] (.nm 6) (.nm 5))))))
 (.cons (.ret (.cst (.bool false)))
 .nil)
 .nil)
 .nil)))
 (.cons (.ret (.cst (.bool true)))
 .nil))))
def b_raised : Ss :=
 (.cons (.asg (.nm 2) (.cst (.int 1)))
 (.cons (.whl (.cmp .gt (.nm 1) (.cst (.int 0)))
 (.cons (.ite (.cmp .eq (.bin .mod (.nm 1) (.cst (.int 2))) (.cst (.int 1)))
 (.cons (.asg (.nm 2) (.bin .mul (.nm 2) (.nm 0)))
 .nil)
 .nil)
 (.cons (.asg (.nm 1) (.bin .fdiv (.nm 1) (.cst (.int 2))))
 (.cons (.ite (.cmp .gt (.nm 1) (.cst (.int 0)))
 (.cons (.asg (.nm 0) (.bin .mul (.nm 0) (.nm 0)))
 .nil)
 .nil)
 .nil))))
 (.cons (.ret (.nm 2))
 .nil)))
def b__found : Ss :=
 (.cons (.ite (.cmp .eq (.ix (.nm 0) (.neg (.cst (.int 1)))) (.nm 1))
 (.cons (.ret (.nm 0))
 .nil)
 .nil)
 (.cons (.ite (.or (.cmp .eq (.blt .len (.nm 0)) (.nm 2)) (.one (.cmp .lt (.bin .mul (.ix (.nm 0) (.neg (.cst (.int 1)))) (.call 6 (.cons (.cst (.int 2)) (.cons (.bin .sub (.nm 2) (.blt .len (.nm 0))) .nil)))) (.nm 1))))
 (.cons (.ret (.cst .none))
 .nil)
 .nil)
 (.cons (.for (.nm 3) (.revd (.nm 0))
 (.cons (.ite (.cmp .gt (.bin .add (.ix (.nm 0) (.neg (.cst (.int 1)))) (.nm 3)) (.nm 1))
 (.cons .cont
 .nil)
 .nil)
 (.cons (.asg (.nm 4) (.call 7 (.cons (.bin .add (.nm 0) (.tup (.cons (.bin .add (.ix (.nm 0) (.neg (.cst (.int 1)))) (.nm 3)) .nil))) (.cons (.nm 1) (.cons (.nm 2) .nil)))))
 (.cons (.ite (.cmp .nisn (.nm 4) (.cst .none))
 (.cons (.ret (.nm 4))
 .nil)
 .nil)
 .nil))))
 (.cons (.ret (.cst .none))
 .nil))))
def b_short_chain : Ss :=
 (.cons (.ite (.cmp .lt (.nm 0) (.cst (.int 1)))
 (.cons .never
 .nil)
 .nil)
 (.cons (.ite (.cmp .gt (.nm 0) (.glob "MOST_SHORT" (.int 100)))
 (.cons .never
 .nil)
 .nil)
 (.cons (.asg (.nm 1) (.bits (.nm 0)))
 (.cons (.asg (.nm 2) (.cst .none))
 (.cons (.whl (.cmp .isn (.nm 2) (.cst .none))
 (.cons (.asg (.nm 2) (.call 7 (.cons (.tup (.cons (.cst (.int 1)) .nil)) (.cons (.nm 0) (.cons (.nm 1) .nil)))))
 (.cons (.aug 1 .add (.cst (.int 1)))
 .nil)))
 (.cons (.ret (.tup (.cons (.cst (.str "adding")) (.cons (.nm 0) (.cons (.nm 2) .nil)))))
 .nil))))))
def b__law_some : Ss :=
 (.cons (.asg (.nm 1) (.call 4 (.cons (.nm 0) (.cons (.cst (.int 8)) .nil))))
 (.cons (.ite (.cmp .lt (.nm 1) (.cst (.int 4)))
 (.cons (.ret (.call 4 (.cons (.nm 0) (.cons (.cst (.int 40)) .nil))))
 .nil)
 .nil)
 (.cons (.ite (.cmp .lt (.nm 1) (.cst (.int 6)))
 (.cons (.ret (.call 4 (.cons (.nm 0) (.cons (.cst (.int 3000)) .nil))))
 .nil)
 .nil)
 (.cons (.ite (.cmp .eq (.nm 1) (.cst (.int 6)))
 (.cons (.ret (.call 4 (.cons (.nm 0) (.cons (.bin .pow (.cst (.int 10)) (.cst (.int 6))) .nil))))
 .nil)
 .nil)
 (.cons (.ret (.call 4 (.cons (.nm 0) (.cons (.bin .pow (.cst (.int 10)) (.cst (.int 10))) .nil))))
 .nil)))))
def b_double_chain : Ss :=
 (.cons (.ite (.cmp .lt (.nm 0) (.cst (.int 1)))
 (.cons .never
 .nil)
 .nil)
 (.cons (.asg (.nm 1) (.lst (.cons (.cst (.int 1)) .nil)))
 (.cons (.for (.nm 2) (.rng3 (.bin .sub (.bits (.nm 0)) (.cst (.int 2))) (.neg (.cst (.int 1))) (.neg (.cst (.int 1))))
 (.cons (.asg (.nm 3) (.bin .fdiv (.nm 0) (.call 6 (.cons (.cst (.int 2)) (.cons (.fz (.nm 2)) .nil)))))
 (.cons (.ite (.cmp .eq (.bin .mod (.nm 3) (.cst (.int 2))) (.cst (.int 1)))
 (.cons (.app 1 (.bin .sub (.nm 3) (.cst (.int 1))))
 .nil)
 .nil)
 (.cons (.app 1 (.nm 3))
 .nil))))
 (.cons (.ret (.tup (.cons (.cst (.str "adding")) (.cons (.nm 0) (.cons (.blt .tuple (.nm 1)) .nil)))))
 .nil))))
def b__law_sign : Ss :=
 (.cons (.ret (.bin .mul (.nm 1) (.bin .sub (.cst (.int 1)) (.bin .mul (.cst (.int 2)) (.call 4 (.cons (.nm 0) (.cons (.cst (.int 2)) .nil)))))))
 .nil)
def b__law_huge : Ss :=
 (.cons (.ret (.call 11 (.cons (.nm 0) (.cons (.bin .add (.bin .mul (.call 4 (.cons (.nm 0) (.cons (.bin .pow (.cst (.int 10)) (.cst (.int 20))) .nil))) (.call 4 (.cons (.nm 0) (.cons (.bin .pow (.cst (.int 10)) (.cst (.int 20))) .nil)))) (.call 4 (.cons (.nm 0) (.cons (.bin .pow (.cst (.int 10)) (.cst (.int 20))) .nil)))) .nil))))
 .nil)
def b_law : Ss :=
 (.cons (.asg (.nm 1) (.call 0 (.cons (.nm 0) (.cons (.cst (.int 0)) .nil))))
 (.cons (.for (.nm 2) (.rng1 (.cst (.int 3)))
 (.cons (.par (.cons (.nm 3) (.cons (.nm 4) .nil)) (.cons (.bin .add (.cst (.int 1)) (.call 4 (.cons (.nm 1) (.cons (.cst (.int 9)) .nil)))) (.cons (.bin .add (.cst (.int 1)) (.call 4 (.cons (.nm 1) (.cons (.cst (.int 10)) .nil)))) .nil)))
 (.cons (.par (.cons (.nm 5) (.cons (.nm 6) (.cons (.nm 7) .nil))) (.cons (.ix (.call 8 (.cons (.fz (.nm 3)) .nil)) (.cst (.int 2))) (.cons (.ix (.call 8 (.cons (.fz (.nm 4)) .nil)) (.cst (.int 2))) (.cons (.ix (.call 8 (.cons (.bin .mul (.nm 3) (.nm 4)) .nil)) (.cst (.int 2))) .nil))))
 (.cons (.asg (.nm 8) (.bin .add (.nm 5) (.blt .tuple (.comp (.bin .mul (.nm 3) (.nm 19)) [19] (.nm 19) (.slF (.nm 6) (.cst (.int 1)))))))
 (.cons (.ite (.or (.not (.call 3 (.cons (.call 5 (.cons (.tup (.cons (.cst (.str "adding")) (.cons (.bin .mul (.nm 3) (.nm 4)) (.cons (.nm 8) .nil)))) .nil)) (.cons (.cst (.bool true)) .nil)))) (.one (.cmp .gt (.blt .len (.nm 7)) (.blt .len (.nm 8)))))
 (.cons (.ret (.cst (.bool false)))
 .nil)
 .nil)
 (.cons (.asg (.nm 9) (.bin .add (.cst (.int 1)) (.call 4 (.cons (.nm 1) (.cons (.cst (.int 50)) .nil)))))
 (.cons (.par (.cons (.nm 10) (.cons (.nm 11) .nil)) (.cons (.ix (.call 8 (.cons (.fz (.nm 9)) .nil)) (.cst (.int 2))) (.cons (.ix (.call 8 (.cons (.bin .mul (.cst (.int 2)) (.nm 9)) .nil)) (.cst (.int 2))) .nil)))
 (.cons (.asg (.nm 12) (.call 2 (.cons (.fz (.nm 9)) (.cons (.cst (.int 2)) .nil))))
 (.cons (.ite (.or (.cmp .lt (.blt .len (.nm 10)) (.blt .len (.nm 12))) (.or (.cmp .ne (.blt .len (.ix (.call 10 (.cons (.fz (.nm 9)) .nil)) (.cst (.int 2)))) (.bin .sub (.bin .add (.blt .len (.nm 12)) (.blt .sum (.nm 12))) (.cst (.int 1)))) (.one (.cmp .gt (.blt .len (.nm 10)) (.blt .len (.ix (.call 10 (.cons (.fz (.nm 9)) .nil)) (.cst (.int 2))))))))
 (.cons (.ret (.cst (.bool false)))
 .nil)
 .nil)
 (.cons (.ite (.or (.cmp .gt (.blt .len (.nm 11)) (.bin .add (.blt .len (.nm 10)) (.cst (.int 1)))) (.one (.not (.call 3 (.cons (.call 5 (.cons (.tup (.cons (.cst (.str "adding")) (.cons (.bin .mul (.cst (.int 2)) (.nm 9)) (.cons (.bin .add (.nm 10) (.tup (.cons (.bin .mul (.cst (.int 2)) (.nm 9)) .nil))) .nil)))) .nil)) (.cons (.cst (.bool true)) .nil))))))
 (.cons (.ret (.cst (.bool false)))
 .nil)
 .nil)
 (.cons (.ite (.or (.and (.cmp .eq (.blt .sum (.nm 12)) (.cst (.int 1))) (.one (.cmp .ne (.blt .len (.nm 10)) (.blt .len (.nm 12))))) (.one (.and (.cmp .eq (.blt .sum (.nm 12)) (.cst (.int 2))) (.one (.cmp .ne (.blt .len (.nm 10)) (.bin .add (.blt .len (.nm 12)) (.cst (.int 1))))))))
 (.cons (.ret (.cst (.bool false)))
 .nil)
 .nil)
 (.cons (.par (.cons (.nm 13) (.cons (.nm 14) .nil)) (.cons (.bin .add (.cst (.int 1)) (.call 9 (.cons (.nm 1) .nil))) (.cons (.bin .add (.cst (.int 1)) (.blt .abs (.call 12 (.cons (.nm 1) .nil)))) .nil)))
 (.cons (.par (.cons (.nm 15) (.cons (.nm 16) .nil)) (.cons (.ix (.call 10 (.cons (.fz (.nm 13)) .nil)) (.cst (.int 2))) (.cons (.ix (.call 10 (.cons (.fz (.nm 14)) .nil)) (.cst (.int 2))) .nil)))
 (.cons (.asg (.nm 8) (.bin .add (.nm 15) (.blt .tuple (.comp (.bin .mul (.nm 13) (.nm 19)) [19] (.nm 19) (.slF (.nm 16) (.cst (.int 1)))))))
 (.cons (.ite (.not (.call 3 (.cons (.call 5 (.cons (.tup (.cons (.cst (.str "adding")) (.cons (.bin .mul (.nm 13) (.nm 14)) (.cons (.nm 8) .nil)))) .nil)) (.cons (.cst (.bool true)) .nil))))
 (.cons (.ret (.cst (.bool false)))
 .nil)
 .nil)
 (.cons (.ite (.call 3 (.cons (.call 5 (.cons (.tup (.cons (.cst (.str "adding")) (.cons (.bin .add (.bin .mul (.nm 13) (.nm 14)) (.cst (.int 1))) (.cons (.nm 8) .nil)))) .nil)) (.cons (.cst (.bool true)) .nil)))
 (.cons (.ret (.cst (.bool false)))
 .nil)
 .nil)
 (.cons (.ite (.cmp .gt (.blt .len (.nm 8)) (.cst (.int 1)))
 (.cons (.asg (.nm 17) (.call 4 (.cons (.nm 1) (.cons (.bin .sub (.blt .len (.nm 8)) (.cst (.int 1))) .nil))))
 (.cons (.asg (.nm 18) (.bin .add (.bin .add (.slT (.nm 8) (.nm 17)) (.tup (.cons (.ix (.nm 8) (.bin .add (.nm 17) (.cst (.int 1)))) (.cons (.ix (.nm 8) (.nm 17)) .nil)))) (.slF (.nm 8) (.bin .add (.nm 17) (.cst (.int 2))))))
 (.cons (.ite (.not (.call 3 (.cons (.call 5 (.cons (.tup (.cons (.cst (.str "adding")) (.cons (.bin .mul (.nm 13) (.nm 14)) (.cons (.nm 18) .nil)))) .nil)) (.cons (.cst (.bool false)) .nil))))
 (.cons (.ret (.cst (.bool false)))
 .nil)
 .nil)
 .nil)))
 .nil)
 .nil)))))))))))))))))
 (.cons (.ret (.cst (.bool true)))
 .nil)))
def P : List Df := [⟨"_law_pool", 2, 2, b__law_pool⟩,
  ⟨"_size", 1, 1, b__size⟩,
  ⟨"figures", 2, 4, b_figures⟩,
  ⟨"_law_same", 2, 3, b__law_same⟩,
  ⟨"_law_draw", 2, 4, b__law_draw⟩,
  ⟨"adding_right", 1, 7, b_adding_right⟩,
  ⟨"raised", 2, 3, b_raised⟩,
  ⟨"_found", 3, 5, b__found⟩,
  ⟨"short_chain", 1, 3, b_short_chain⟩,
  ⟨"_law_some", 1, 2, b__law_some⟩,
  ⟨"double_chain", 1, 4, b_double_chain⟩,
  ⟨"_law_sign", 2, 2, b__law_sign⟩,
  ⟨"_law_huge", 1, 1, b__law_huge⟩,
  ⟨"law", 1, 20, b_law⟩]
def nm : List Str := ["_law_pool", "_size", "figures", "_law_same", "_law_draw", "adding_right", "raised", "_found", "short_chain", "_law_some", "double_chain", "_law_sign", "_law_huge", "law"]
def gl : List (Str × Int) := [("MOST_SHORT", 100)]
def Ns : List (List Str) := [["script", "budget"],
  ["base"],
  ["n", "base", "size", "found"],
  ["actual", "due", "k"],
  ["pool", "size", "cell", "value"],
  ["claim", "_", "n", "chain", "at", "before", "number"],
  ["base", "exponent", "result"],
  ["chain", "n", "most", "other", "found"],
  ["n", "most", "found"],
  ["pool", "way"],
  ["n", "chain", "at", "here"],
  ["pool", "n"],
  ["pool"],
  ["script", "pool", "again", "n", "m", "one", "other", "both", "joined", "k", "short", "twice", "rows", "great", "more", "first", "second", "at", "wrong", "number"]]
def fn : List He.DefD := [dd 16 "_law_pool" "_law_pool", dd 13 "_size" "_size", dd 14 "figures" "figures", dd 18 "_law_same" "_law_same", dd 17 "_law_draw" "_law_draw", dd 11 "adding_right" "adding_right", dd 5 "raised" "raised", dd 9 "_found" "_found", dd 10 "short_chain" "short_chain", dd 19 "_law_some" "_law_some", dd 8 "double_chain" "double_chain", dd 20 "_law_sign" "_law_sign", dd 21 "_law_huge" "_law_huge", dd 22 "law" "law"]
def G : Pg := ⟨P, nm, gl, 1000000⟩
def fa : List He.Fa := [.glo "_law_pool", .glo "_size", .glo "figures", .glo "_law_same", .glo "_law_draw", .glo "adding_right", .glo "raised", .glo "_found", .glo "short_chain", .glo "_law_some", .glo "double_chain", .glo "_law_sign", .glo "_law_huge", .glo "law", .int "MOST_SHORT" (100), .free "len", .free "abs", .free "int", .free "max", .free "min", .free "sum", .free "any", .free "all", .free "tuple", .free "list", .free "sorted", .free "range", .free "enumerate", .free "zip", .free "reversed", .free "isinstance", .free "bool", .free "str", .free "set"]
def loose0 : List Str := ["WholeError", "BadNumber", "TooLarge", "raised", "MOST_SHORT", "double_chain", "_found", "short_chain", "adding_right", "_size", "figures", "_law_pool", "_law_draw", "_law_same", "_law_some", "_law_sign", "_law_huge"]
def loose : List Str := loose0
abbrev R : PySem.W.OpenRow := PySem.W.OpenLaw.row PySem.Challenge.rw_wholeproof_k93_whole_chains_of_sums_put
abbrev hk : PySem.W.Hook := He.hookD 4 fa fn
def ob (s : PySem.W.SharedT) : He.AlD := He.obsDG 4 fa fn (HandSHeadRun.getT s)
theorem ob_eq (s : PySem.W.SharedT) : ob s = hk.obs s.abs := He.obsDG_eq (HandSHeadRun.getT_eq s)
theorem fa_eq : fa = facts G := by rfl
theorem run_eq (w : World) : HandSHeadRun.RunEq R (PySem.W.view R.prog [22]) hk ob 4000 loose w := by
  intro os
  kernel_rfl
theorem chk : chkAll G G.P G.nm fn Ns = true := by decide +kernel
end Lawk93
end

section
set_option maxHeartbeats 4000000
set_option exponentiation.threshold 500000
namespace Lawk93
open PySem De

theorem draw_ok (k : Nat) (b0 : Bool) {xs : List Dt} (h : PoolOk xs) {size : Int} (hs : 0 < size) (hl : size.natAbs.log2 < 9000) :
    ∃ v xs' tl, 0 ≤ v ∧ v < size ∧ PoolOk xs' ∧ run G.M G.P (k + 1) 4 [.ow b0 xs, .fz (.int size)] = some (.d (.int v), .ow b0 xs' :: .fz (.int size) :: tl) := by
  obtain ⟨cells, i, c, s, t, b, rfl, hi, h0, h1⟩ := h
  show ∃ v xs' tl, 0 ≤ v ∧ v < size ∧ PoolOk xs' ∧ runD (run G.M G.P k) G.M ⟨"_law_draw", 2, 4, b__law_draw⟩ [.ow b0 [.list (cells.map .int), .int i, .int c, .int s, .int t, .int b], .fz (.int size)] = some (.d (.int v), .ow b0 xs' :: .fz (.int size) :: tl)
  have hs' : size ≠ 0 := by omega
  have zms : ∀ a, bop .mod (.int a) (.int size) = some (.d (.int (a.fmod size))) := fun a => z_mod hs'
  have zds : ∀ a, bop .fdiv (.int a) (.int size) = some (.d (.int (a.fdiv size))) := fun a => z_fdiv (by unfold divOk; rw [decide_eq_true hs', decide_eq_true hl]; rfl)
  have mm : ∀ a b : Int, 0 ≤ a → a < 2147483647 → 0 ≤ b → b < 100000 → bop .mul (.int a) (.int b) = some (.d (.int (a * b))) := fun a b x1 x2 x3 x4 => z_mul (small_mul x1 (by omega) x3 (by omega))
  have key : ∀ c s t i : Int, 0 ≤ i → 0 ≤ s → s < 2147483647 → ∀ e2 e3 : Sv, e2 ≠ .ow true [] → (∀ xs, e3 ≠ .ow true xs) → ∃ v xs' tl, 0 ≤ v ∧ v < size ∧ PoolOk xs' ∧
      evB (run G.M G.P k) G.M ((match b__law_draw with | .cons _ r => r | _ => .nil)) [.ow b0 [.list (cells.map .int), .int i, .int c, .int s, .int t, .int b], .fz (.int size), e2, e3] = some (.rt (.d (.int v)) (.ow b0 xs' :: .fz (.int size) :: tl)) := by
    intro c s t i hi h0 h1 e2 e3 _ he3
    simp only [b__law_draw, evB, evS, ev, evs, mkV, mkI]
    by_cases hc : 0 < c
    · refine ⟨c.fmod size, [.list (cells.map .int), .int i, .int (c.fdiv size), .int s, .int 0, .int b], [e2, .fz (.int (c.fmod size))], (fmod_range hs).1, (fmod_range hs).2, ⟨cells, i, _, s, _, b, rfl, hi, h0, h1⟩, ?_⟩
      have hput : (match e3 with | .ow true _ => none | x => some (List.set ([.ow b0 [.list (cells.map .int), .int i, .int c, .int s, .int t, .int b], .fz (.int size), e2, e3] : En) 3 (.fz (.int (c.fmod size))))) = some [.ow b0 [.list (cells.map .int), .int i, .int c, .int s, .int t, .int b], .fz (.int size), e2, .fz (.int (c.fmod size))] := by
        cases e3 with
        | ow b xs => cases b with
          | true => exact absurd rfl (he3 xs)
          | false => rfl
        | _ => rfl
      cases e3 with
      | ow b3 xs3 => cases b3 with
        | true => exact absurd rfl (he3 xs3)
        | false => simp only [List.getElem?_cons_zero, List.getElem?_cons_succ, List.set_cons_zero, List.set_cons_succ, List.replicate_succ, List.replicate_zero, List.cons_append, List.nil_append, vCst, vNm, vBin, vNeg, vBits, vCmp, vCmp2, vAnd, vOr, vNot, vIte, vTup, vLst, vIx, vSlF, vSlT, vSl, vRev, vBlt, vBlt2, vFz, tOf, tAnd, tOr, tNot, iOf, iRng1, iRng2, iRng3, iEnum, iZip, iRevd, aNil, aCons, dNil, dCons, sAsg, sAsgT, sPar, sSet, sAug, sAugS, sApp, sExt, sEx, sIte, sRet, sRetN, sBrk, sCont, sPass, sNo, sSeq, store, put, frz, tgt, tgts, isOw, z_add, z_sub, z_xor, z_eq, z_ne, z_lt, z_le, z_gt, z_ge, z_dd, z_do, z_dl, z_tb, z_lenL, z_lenT, z_int, z_intB, z_abs, z_max, z_min, z_tupL, z_tupT, z_lstL, z_lstT, z_scr, ix0, ix1, ix2, ix3, ix4, ixn1, ixn2, ixn3, ixn4, decide_true, decide_false, if_true, if_false, Bool.false_eq_true, Bool.and_true, Bool.true_and, Bool.not_true, Bool.not_false, hc, zms, zds]
      | _ => simp only [List.getElem?_cons_zero, List.getElem?_cons_succ, List.set_cons_zero, List.set_cons_succ, List.replicate_succ, List.replicate_zero, List.cons_append, List.nil_append, vCst, vNm, vBin, vNeg, vBits, vCmp, vCmp2, vAnd, vOr, vNot, vIte, vTup, vLst, vIx, vSlF, vSlT, vSl, vRev, vBlt, vBlt2, vFz, tOf, tAnd, tOr, tNot, iOf, iRng1, iRng2, iRng3, iEnum, iZip, iRevd, aNil, aCons, dNil, dCons, sAsg, sAsgT, sPar, sSet, sAug, sAugS, sApp, sExt, sEx, sIte, sRet, sRetN, sBrk, sCont, sPass, sNo, sSeq, store, put, frz, tgt, tgts, isOw, z_add, z_sub, z_xor, z_eq, z_ne, z_lt, z_le, z_gt, z_ge, z_dd, z_do, z_dl, z_tb, z_lenL, z_lenT, z_int, z_intB, z_abs, z_max, z_min, z_tupL, z_tupT, z_lstL, z_lstT, z_scr, ix0, ix1, ix2, ix3, ix4, ixn1, ixn2, ixn3, ixn4, decide_true, decide_false, if_true, if_false, Bool.false_eq_true, Bool.and_true, Bool.true_and, Bool.not_true, Bool.not_false, hc, zms, zds]
    · have r1 := fmod_range (a := s * 48271 + 12345) (b := 2147483647) (by decide)
      refine ⟨(((s * 48271 + 12345).fmod 2147483647 * 69621 + 7919).fmod 2147483647).fmod size, [.list (cells.map .int), .int i, .int c, .int ((s * 48271 + 12345).fmod 2147483647), .int (t - 1), .int b], [e2, e3], (fmod_range hs).1, (fmod_range hs).2, ⟨cells, i, _, _, _, b, rfl, hi, r1.1, r1.2⟩, ?_⟩
      have m1 := mm s 48271 h0 h1 (by decide) (by decide)
      have m2 := mm ((s * 48271 + 12345).fmod 2147483647) 69621 r1.1 r1.2 (by decide) (by decide)
      simp only [List.getElem?_cons_zero, List.getElem?_cons_succ, List.set_cons_zero, List.set_cons_succ, List.replicate_succ, List.replicate_zero, List.cons_append, List.nil_append, vCst, vNm, vBin, vNeg, vBits, vCmp, vCmp2, vAnd, vOr, vNot, vIte, vTup, vLst, vIx, vSlF, vSlT, vSl, vRev, vBlt, vBlt2, vFz, tOf, tAnd, tOr, tNot, iOf, iRng1, iRng2, iRng3, iEnum, iZip, iRevd, aNil, aCons, dNil, dCons, sAsg, sAsgT, sPar, sSet, sAug, sAugS, sApp, sExt, sEx, sIte, sRet, sRetN, sBrk, sCont, sPass, sNo, sSeq, store, put, frz, tgt, tgts, isOw, z_add, z_sub, z_xor, z_eq, z_ne, z_lt, z_le, z_gt, z_ge, z_dd, z_do, z_dl, z_tb, z_lenL, z_lenT, z_int, z_intB, z_abs, z_max, z_min, z_tupL, z_tupT, z_lstL, z_lstT, z_scr, ix0, ix1, ix2, ix3, ix4, ixn1, ixn2, ixn3, ixn4, decide_true, decide_false, if_true, if_false, Bool.false_eq_true, Bool.and_true, Bool.true_and, Bool.not_true, Bool.not_false, hc, zms, zm31, m1, m2]
  have fin : ∀ {e : En} {v : Int} {xs' : List Dt} {tl : En}, evB (run G.M G.P k) G.M b__law_draw e = some (.rt (.d (.int v)) (.ow b0 xs' :: .fz (.int size) :: tl)) → e = [.ow b0 [.list (cells.map .int), .int i, .int c, .int s, .int t, .int b], .fz (.int size), .un, .un] →
      runD (run G.M G.P k) G.M ⟨"_law_draw", 2, 4, b__law_draw⟩ [.ow b0 [.list (cells.map .int), .int i, .int c, .int s, .int t, .int b], .fz (.int size)] = some (.d (.int v), .ow b0 xs' :: .fz (.int size) :: tl) := fun {e v xs' tl} h1 h2 => by
    subst h2
    exact runD_d _ rfl rfl h1
  by_cases hc : c ≤ 0 ∧ t ≤ 0 ∧ i < (cells.map PyData.int).length
  · obtain ⟨hc, ht, hl⟩ := hc
    obtain ⟨cell, hcell⟩ := cell_at hi hl
    have r1 := fmod_range (a := s * 31 + cell) (b := 2147483647) (by decide)
    have m1 := mm s 31 h0 h1 (by decide) (by decide)
    by_cases hg : 1000000000000000000 ≤ cell
    · obtain ⟨v, xs', tl, h2, h3, h4, h5⟩ := key cell ((s * 31 + cell).fmod 2147483647) 7 (i + 1) (by omega) r1.1 r1.2 (.fz (.int cell)) .un (fun z => nomatch z) (fun _ z => nomatch z)
      refine ⟨v, xs', tl, h2, h3, h4, fin (e := [.ow b0 [.list (cells.map .int), .int i, .int c, .int s, .int t, .int b], .fz (.int size), .un, .un]) ?_ rfl⟩
      rw [← h5]
      simp only [b__law_draw, evB, evS, ev, evs, mkV, mkI]
      simp only [List.getElem?_cons_zero, List.getElem?_cons_succ, List.set_cons_zero, List.set_cons_succ, List.replicate_succ, List.replicate_zero, List.cons_append, List.nil_append, vCst, vNm, vBin, vNeg, vBits, vCmp, vCmp2, vAnd, vOr, vNot, vIte, vTup, vLst, vIx, vSlF, vSlT, vSl, vRev, vBlt, vBlt2, vFz, tOf, tAnd, tOr, tNot, iOf, iRng1, iRng2, iRng3, iEnum, iZip, iRevd, aNil, aCons, dNil, dCons, sAsg, sAsgT, sPar, sSet, sAug, sAugS, sApp, sExt, sEx, sIte, sRet, sRetN, sBrk, sCont, sPass, sNo, sSeq, store, put, frz, tgt, tgts, isOw, z_add, z_sub, z_xor, z_eq, z_ne, z_lt, z_le, z_gt, z_ge, z_dd, z_do, z_dl, z_tb, z_lenL, z_lenT, z_int, z_intB, z_abs, z_max, z_min, z_tupL, z_tupT, z_lstL, z_lstT, z_scr, ix0, ix1, ix2, ix3, ix4, ixn1, ixn2, ixn3, ixn4, decide_true, decide_false, if_true, if_false, Bool.false_eq_true, Bool.and_true, Bool.true_and, Bool.not_true, Bool.not_false, hc, ht, hl, hcell, m1, zm31, zpow18, hg]
    · obtain ⟨v, xs', tl, h2, h3, h4, h5⟩ := key c ((s * 31 + cell).fmod 2147483647) 7 (i + 1) (by omega) r1.1 r1.2 (.fz (.int cell)) .un (fun z => nomatch z) (fun _ z => nomatch z)
      refine ⟨v, xs', tl, h2, h3, h4, fin (e := [.ow b0 [.list (cells.map .int), .int i, .int c, .int s, .int t, .int b], .fz (.int size), .un, .un]) ?_ rfl⟩
      rw [← h5]
      simp only [b__law_draw, evB, evS, ev, evs, mkV, mkI]
      simp only [List.getElem?_cons_zero, List.getElem?_cons_succ, List.set_cons_zero, List.set_cons_succ, List.replicate_succ, List.replicate_zero, List.cons_append, List.nil_append, vCst, vNm, vBin, vNeg, vBits, vCmp, vCmp2, vAnd, vOr, vNot, vIte, vTup, vLst, vIx, vSlF, vSlT, vSl, vRev, vBlt, vBlt2, vFz, tOf, tAnd, tOr, tNot, iOf, iRng1, iRng2, iRng3, iEnum, iZip, iRevd, aNil, aCons, dNil, dCons, sAsg, sAsgT, sPar, sSet, sAug, sAugS, sApp, sExt, sEx, sIte, sRet, sRetN, sBrk, sCont, sPass, sNo, sSeq, store, put, frz, tgt, tgts, isOw, z_add, z_sub, z_xor, z_eq, z_ne, z_lt, z_le, z_gt, z_ge, z_dd, z_do, z_dl, z_tb, z_lenL, z_lenT, z_int, z_intB, z_abs, z_max, z_min, z_tupL, z_tupT, z_lstL, z_lstT, z_scr, ix0, ix1, ix2, ix3, ix4, ixn1, ixn2, ixn3, ixn4, decide_true, decide_false, if_true, if_false, Bool.false_eq_true, Bool.and_true, Bool.true_and, Bool.not_true, Bool.not_false, hc, ht, hl, hcell, m1, zm31, zpow18, hg]
  · obtain ⟨v, xs', tl, h2, h3, h4, h5⟩ := key c s t i hi h0 h1 .un .un (fun z => nomatch z) (fun _ z => nomatch z)
    refine ⟨v, xs', tl, h2, h3, h4, fin (e := [.ow b0 [.list (cells.map .int), .int i, .int c, .int s, .int t, .int b], .fz (.int size), .un, .un]) ?_ rfl⟩
    rw [← h5]
    simp only [b__law_draw, evB, evS, ev, evs, mkV, mkI]
    by_cases q1 : c ≤ 0
    · by_cases q2 : t ≤ 0
      · have q3 : ¬ i < (cells.map PyData.int).length := fun z => hc ⟨q1, q2, z⟩
        simp only [List.getElem?_cons_zero, List.getElem?_cons_succ, List.set_cons_zero, List.set_cons_succ, List.replicate_succ, List.replicate_zero, List.cons_append, List.nil_append, vCst, vNm, vBin, vNeg, vBits, vCmp, vCmp2, vAnd, vOr, vNot, vIte, vTup, vLst, vIx, vSlF, vSlT, vSl, vRev, vBlt, vBlt2, vFz, tOf, tAnd, tOr, tNot, iOf, iRng1, iRng2, iRng3, iEnum, iZip, iRevd, aNil, aCons, dNil, dCons, sAsg, sAsgT, sPar, sSet, sAug, sAugS, sApp, sExt, sEx, sIte, sRet, sRetN, sBrk, sCont, sPass, sNo, sSeq, store, put, frz, tgt, tgts, isOw, z_add, z_sub, z_xor, z_eq, z_ne, z_lt, z_le, z_gt, z_ge, z_dd, z_do, z_dl, z_tb, z_lenL, z_lenT, z_int, z_intB, z_abs, z_max, z_min, z_tupL, z_tupT, z_lstL, z_lstT, z_scr, ix0, ix1, ix2, ix3, ix4, ixn1, ixn2, ixn3, ixn4, decide_true, decide_false, if_true, if_false, Bool.false_eq_true, Bool.and_true, Bool.true_and, Bool.not_true, Bool.not_false, q1, q2, q3]
      · simp only [List.getElem?_cons_zero, List.getElem?_cons_succ, List.set_cons_zero, List.set_cons_succ, List.replicate_succ, List.replicate_zero, List.cons_append, List.nil_append, vCst, vNm, vBin, vNeg, vBits, vCmp, vCmp2, vAnd, vOr, vNot, vIte, vTup, vLst, vIx, vSlF, vSlT, vSl, vRev, vBlt, vBlt2, vFz, tOf, tAnd, tOr, tNot, iOf, iRng1, iRng2, iRng3, iEnum, iZip, iRevd, aNil, aCons, dNil, dCons, sAsg, sAsgT, sPar, sSet, sAug, sAugS, sApp, sExt, sEx, sIte, sRet, sRetN, sBrk, sCont, sPass, sNo, sSeq, store, put, frz, tgt, tgts, isOw, z_add, z_sub, z_xor, z_eq, z_ne, z_lt, z_le, z_gt, z_ge, z_dd, z_do, z_dl, z_tb, z_lenL, z_lenT, z_int, z_intB, z_abs, z_max, z_min, z_tupL, z_tupT, z_lstL, z_lstT, z_scr, ix0, ix1, ix2, ix3, ix4, ixn1, ixn2, ixn3, ixn4, decide_true, decide_false, if_true, if_false, Bool.false_eq_true, Bool.and_true, Bool.true_and, Bool.not_true, Bool.not_false, q1, q2]
    · simp only [List.getElem?_cons_zero, List.getElem?_cons_succ, List.set_cons_zero, List.set_cons_succ, List.replicate_succ, List.replicate_zero, List.cons_append, List.nil_append, vCst, vNm, vBin, vNeg, vBits, vCmp, vCmp2, vAnd, vOr, vNot, vIte, vTup, vLst, vIx, vSlF, vSlT, vSl, vRev, vBlt, vBlt2, vFz, tOf, tAnd, tOr, tNot, iOf, iRng1, iRng2, iRng3, iEnum, iZip, iRevd, aNil, aCons, dNil, dCons, sAsg, sAsgT, sPar, sSet, sAug, sAugS, sApp, sExt, sEx, sIte, sRet, sRetN, sBrk, sCont, sPass, sNo, sSeq, store, put, frz, tgt, tgts, isOw, z_add, z_sub, z_xor, z_eq, z_ne, z_lt, z_le, z_gt, z_ge, z_dd, z_do, z_dl, z_tb, z_lenL, z_lenT, z_int, z_intB, z_abs, z_max, z_min, z_tupL, z_tupT, z_lstL, z_lstT, z_scr, ix0, ix1, ix2, ix3, ix4, ixn1, ixn2, ixn3, ixn4, decide_true, decide_false, if_true, if_false, Bool.false_eq_true, Bool.and_true, Bool.true_and, Bool.not_true, Bool.not_false, q1]
theorem draw_of (k : Nat) {e : En} {b : Bool} {xs : List Dt} {a : FV} {size : Int} (h1 : e[1]? = some (.ow b xs)) (hp : PoolOk xs) (ha : a e = some (.d (.int size), e)) (hs : 0 < size) (hl : size.natAbs < 2 ^ 100) :
    ∃ v xs', 0 ≤ v ∧ v < size ∧ PoolOk xs' ∧ vCall (run G.M G.P (k + 1) 4) (aCons (vNm 1) (aCons a aNil)) e = some (.d (.int v), e.set 1 (.ow b xs')) := by
  have hlog := log2_lt hl (by decide)
  obtain ⟨v, xs', tl, k1, k2, k3, k4⟩ := draw_ok k true hp hs (by omega)
  refine ⟨v, xs', k1, k2, k3, ?_⟩
  simp only [List.getElem?_cons_zero, List.getElem?_cons_succ, List.set_cons_zero, List.set_cons_succ, List.replicate_succ, List.replicate_zero, List.cons_append, List.nil_append, x_vCst, x_vNm, x_vBin, x_vNeg, x_vBits, x_vCmp, x_vCmp2, x_vAnd, x_vOr, x_vNot, x_vIte, x_vTup, x_vLst, x_vIx, x_vSlF, x_vSlT, x_vSl, x_vRev, x_vCall, x_vBlt, x_vBlt2, x_vPop, x_vPopAt, x_fYes, x_vFz, x_vNo, x_tOf, x_tAnd, x_tOr, x_tNot, x_iOf, x_iNo, x_iRng1, x_iRng2, x_iRng3, x_iEnum, x_iZip, x_iRevd, x_aNil, x_aCons, x_dNil, x_dCons, x_sAsg, x_sAsgT, x_sPar, x_sSet, x_sAug, x_sAugS, x_sApp, x_sExt, x_sEx, x_sIte, x_sRet, x_sRetN, x_sBrk, x_sCont, x_sPass, x_sNo, x_sSeq, argsOf, argOf, locs, backs, nd0, nd1, store, put, frz, tgt, tgts, isOw, z_add, z_sub, z_xor, z_eq, z_ne, z_lt, z_le, z_gt, z_ge, z_dd, z_do, z_dl, z_tb, z_lenL, z_lenT, z_int, z_intB, z_abs, z_max, z_min, z_tupL, z_tupT, z_lstL, z_lstT, z_scr, ix0, ix1, ix2, ix3, ix4, ixn1, ixn2, ixn3, ixn4, decide_true, decide_false, if_true, if_false, Bool.false_eq_true, Bool.and_true, Bool.true_and, Bool.not_true, Bool.not_false, x_turnC, wipeE, back, x_sForB, x_forB, List.getD_cons_zero, List.getD_cons_succ, h1, ha, k4]
theorem draw0_of (k : Nat) {e : En} {b : Bool} {xs : List Dt} {a : FV} {size : Int} (h1 : e[0]? = some (.ow b xs)) (hp : PoolOk xs) (ha : a e = some (.d (.int size), e)) (hs : 0 < size) (hl : size.natAbs < 2 ^ 100) :
    ∃ v xs', 0 ≤ v ∧ v < size ∧ PoolOk xs' ∧ vCall (run G.M G.P (k + 1) 4) (aCons (vNm 0) (aCons a aNil)) e = some (.d (.int v), e.set 0 (.ow b xs')) := by
  have hlog := log2_lt hl (by decide)
  obtain ⟨v, xs', tl, k1, k2, k3, k4⟩ := draw_ok k true hp hs (by omega)
  refine ⟨v, xs', k1, k2, k3, ?_⟩
  simp only [List.getElem?_cons_zero, List.getElem?_cons_succ, List.set_cons_zero, List.set_cons_succ, List.replicate_succ, List.replicate_zero, List.cons_append, List.nil_append, x_vCst, x_vNm, x_vBin, x_vNeg, x_vBits, x_vCmp, x_vCmp2, x_vAnd, x_vOr, x_vNot, x_vIte, x_vTup, x_vLst, x_vIx, x_vSlF, x_vSlT, x_vSl, x_vRev, x_vCall, x_vBlt, x_vBlt2, x_vPop, x_vPopAt, x_fYes, x_vFz, x_vNo, x_tOf, x_tAnd, x_tOr, x_tNot, x_iOf, x_iNo, x_iRng1, x_iRng2, x_iRng3, x_iEnum, x_iZip, x_iRevd, x_aNil, x_aCons, x_dNil, x_dCons, x_sAsg, x_sAsgT, x_sPar, x_sSet, x_sAug, x_sAugS, x_sApp, x_sExt, x_sEx, x_sIte, x_sRet, x_sRetN, x_sBrk, x_sCont, x_sPass, x_sNo, x_sSeq, argsOf, argOf, locs, backs, nd0, nd1, store, put, frz, tgt, tgts, isOw, z_add, z_sub, z_xor, z_eq, z_ne, z_lt, z_le, z_gt, z_ge, z_dd, z_do, z_dl, z_tb, z_lenL, z_lenT, z_int, z_intB, z_abs, z_max, z_min, z_tupL, z_tupT, z_lstL, z_lstT, z_scr, ix0, ix1, ix2, ix3, ix4, ixn1, ixn2, ixn3, ixn4, decide_true, decide_false, if_true, if_false, Bool.false_eq_true, Bool.and_true, Bool.true_and, Bool.not_true, Bool.not_false, x_turnC, wipeE, back, x_sForB, x_forB, List.getD_cons_zero, List.getD_cons_succ, h1, ha, k4]
theorem some_ok (k : Nat) (b : Bool) {xs : List Dt} (hp : PoolOk xs) : ∃ v xs' tl, 0 ≤ v ∧ v < 10000000000 ∧ PoolOk xs' ∧ run G.M G.P (k + 2) 9 [.ow b xs] = some (.d (.int v), .ow b xs' :: tl) := by
  obtain ⟨way, x1, w1, w2, w3, w4⟩ := draw0_of k (e := [.ow b xs, .un]) (b := b) (a := vCst (.int 8)) (size := 8) rfl hp rfl (by decide) (by decide)
  have fin : ∀ {v : Int} {e' : En}, evB (run G.M G.P (k + 1)) G.M b__law_some [.ow b xs, .un] = some (.rt (.d (.int v)) e') → run G.M G.P (k + 2) 9 [.ow b xs] = some (.d (.int v), e') := fun {v e'} h => by
    show runD (run G.M G.P (k + 1)) G.M ⟨"_law_some", 1, 2, b__law_some⟩ [.ow b xs] = _
    exact runD_d [.ow b xs, .un] rfl rfl h
  have s1 : sAsg 1 (vCall (run G.M G.P (k + 1) 4) (aCons (vNm 0) (aCons (vCst (.int 8)) aNil))) [.ow b xs, .un] = some (.nx [.ow b x1, .fz (.int way)]) := by
    unfold sAsg
    rw [w4]
    rfl
  by_cases c1 : way < 4
  · obtain ⟨v, x2, v1, v2, v3, v4⟩ := draw0_of k (e := [.ow b x1, .fz (.int way)]) (b := b) (a := vCst (.int 40)) (size := 40) rfl w3 rfl (by decide) (by decide)
    refine ⟨v, x2, [.fz (.int way)], v1, by omega, v3, fin ?_⟩
    simp only [b__law_some, evB, evS, ev, evs, mkV, mkI]
    refine sSeq_nx s1 (sSeq_rt (sIte_t (e1 := [.ow b x1, .fz (.int way)]) (by simp only [List.getElem?_cons_zero, List.getElem?_cons_succ, List.set_cons_zero, List.set_cons_succ, List.replicate_succ, List.replicate_zero, List.cons_append, List.nil_append, x_vCst, x_vNm, x_vBin, x_vNeg, x_vBits, x_vCmp, x_vCmp2, x_vAnd, x_vOr, x_vNot, x_vIte, x_vTup, x_vLst, x_vIx, x_vSlF, x_vSlT, x_vSl, x_vRev, x_vCall, x_vBlt, x_vBlt2, x_vPop, x_vPopAt, x_fYes, x_vFz, x_vNo, x_tOf, x_tAnd, x_tOr, x_tNot, x_iOf, x_iNo, x_iRng1, x_iRng2, x_iRng3, x_iEnum, x_iZip, x_iRevd, x_aNil, x_aCons, x_dNil, x_dCons, x_sAsg, x_sAsgT, x_sPar, x_sSet, x_sAug, x_sAugS, x_sApp, x_sExt, x_sEx, x_sIte, x_sRet, x_sRetN, x_sBrk, x_sCont, x_sPass, x_sNo, x_sSeq, argsOf, argOf, locs, backs, nd0, nd1, store, put, frz, tgt, tgts, isOw, z_add, z_sub, z_xor, z_eq, z_ne, z_lt, z_le, z_gt, z_ge, z_dd, z_do, z_dl, z_tb, z_lenL, z_lenT, z_int, z_intB, z_abs, z_max, z_min, z_tupL, z_tupT, z_lstL, z_lstT, z_scr, ix0, ix1, ix2, ix3, ix4, ixn1, ixn2, ixn3, ixn4, decide_true, decide_false, if_true, if_false, Bool.false_eq_true, Bool.and_true, Bool.true_and, Bool.not_true, Bool.not_false, x_turnC, wipeE, back, x_sForB, x_forB, List.getD_cons_zero, List.getD_cons_succ, c1]) (sSeq_rt ?_)))
    unfold sRet
    rw [v4]
    rfl
  · by_cases c2 : way < 6
    · obtain ⟨v, x2, v1, v2, v3, v4⟩ := draw0_of k (e := [.ow b x1, .fz (.int way)]) (b := b) (a := vCst (.int 3000)) (size := 3000) rfl w3 rfl (by decide) (by decide)
      refine ⟨v, x2, [.fz (.int way)], v1, by omega, v3, fin ?_⟩
      simp only [b__law_some, evB, evS, ev, evs, mkV, mkI]
      refine sSeq_nx s1 (sSeq_nx (sIte_f (e1 := [.ow b x1, .fz (.int way)]) (by simp only [List.getElem?_cons_zero, List.getElem?_cons_succ, List.set_cons_zero, List.set_cons_succ, List.replicate_succ, List.replicate_zero, List.cons_append, List.nil_append, x_vCst, x_vNm, x_vBin, x_vNeg, x_vBits, x_vCmp, x_vCmp2, x_vAnd, x_vOr, x_vNot, x_vIte, x_vTup, x_vLst, x_vIx, x_vSlF, x_vSlT, x_vSl, x_vRev, x_vCall, x_vBlt, x_vBlt2, x_vPop, x_vPopAt, x_fYes, x_vFz, x_vNo, x_tOf, x_tAnd, x_tOr, x_tNot, x_iOf, x_iNo, x_iRng1, x_iRng2, x_iRng3, x_iEnum, x_iZip, x_iRevd, x_aNil, x_aCons, x_dNil, x_dCons, x_sAsg, x_sAsgT, x_sPar, x_sSet, x_sAug, x_sAugS, x_sApp, x_sExt, x_sEx, x_sIte, x_sRet, x_sRetN, x_sBrk, x_sCont, x_sPass, x_sNo, x_sSeq, argsOf, argOf, locs, backs, nd0, nd1, store, put, frz, tgt, tgts, isOw, z_add, z_sub, z_xor, z_eq, z_ne, z_lt, z_le, z_gt, z_ge, z_dd, z_do, z_dl, z_tb, z_lenL, z_lenT, z_int, z_intB, z_abs, z_max, z_min, z_tupL, z_tupT, z_lstL, z_lstT, z_scr, ix0, ix1, ix2, ix3, ix4, ixn1, ixn2, ixn3, ixn4, decide_true, decide_false, if_true, if_false, Bool.false_eq_true, Bool.and_true, Bool.true_and, Bool.not_true, Bool.not_false, x_turnC, wipeE, back, x_sForB, x_forB, List.getD_cons_zero, List.getD_cons_succ, c1]) rfl) (sSeq_rt (sIte_t (e1 := [.ow b x1, .fz (.int way)]) (by simp only [List.getElem?_cons_zero, List.getElem?_cons_succ, List.set_cons_zero, List.set_cons_succ, List.replicate_succ, List.replicate_zero, List.cons_append, List.nil_append, x_vCst, x_vNm, x_vBin, x_vNeg, x_vBits, x_vCmp, x_vCmp2, x_vAnd, x_vOr, x_vNot, x_vIte, x_vTup, x_vLst, x_vIx, x_vSlF, x_vSlT, x_vSl, x_vRev, x_vCall, x_vBlt, x_vBlt2, x_vPop, x_vPopAt, x_fYes, x_vFz, x_vNo, x_tOf, x_tAnd, x_tOr, x_tNot, x_iOf, x_iNo, x_iRng1, x_iRng2, x_iRng3, x_iEnum, x_iZip, x_iRevd, x_aNil, x_aCons, x_dNil, x_dCons, x_sAsg, x_sAsgT, x_sPar, x_sSet, x_sAug, x_sAugS, x_sApp, x_sExt, x_sEx, x_sIte, x_sRet, x_sRetN, x_sBrk, x_sCont, x_sPass, x_sNo, x_sSeq, argsOf, argOf, locs, backs, nd0, nd1, store, put, frz, tgt, tgts, isOw, z_add, z_sub, z_xor, z_eq, z_ne, z_lt, z_le, z_gt, z_ge, z_dd, z_do, z_dl, z_tb, z_lenL, z_lenT, z_int, z_intB, z_abs, z_max, z_min, z_tupL, z_tupT, z_lstL, z_lstT, z_scr, ix0, ix1, ix2, ix3, ix4, ixn1, ixn2, ixn3, ixn4, decide_true, decide_false, if_true, if_false, Bool.false_eq_true, Bool.and_true, Bool.true_and, Bool.not_true, Bool.not_false, x_turnC, wipeE, back, x_sForB, x_forB, List.getD_cons_zero, List.getD_cons_succ, c2]) (sSeq_rt ?_))))
      unfold sRet
      rw [v4]
      rfl
    · by_cases c3 : way = 6
      · obtain ⟨v, x2, v1, v2, v3, v4⟩ := draw0_of k (e := [.ow b x1, .fz (.int way)]) (b := b) (a := vBin .pow (vCst (.int 10)) (vCst (.int 6))) (size := 1000000) rfl w3 (by simp only [List.getElem?_cons_zero, List.getElem?_cons_succ, List.set_cons_zero, List.set_cons_succ, List.replicate_succ, List.replicate_zero, List.cons_append, List.nil_append, x_vCst, x_vNm, x_vBin, x_vNeg, x_vBits, x_vCmp, x_vCmp2, x_vAnd, x_vOr, x_vNot, x_vIte, x_vTup, x_vLst, x_vIx, x_vSlF, x_vSlT, x_vSl, x_vRev, x_vCall, x_vBlt, x_vBlt2, x_vPop, x_vPopAt, x_fYes, x_vFz, x_vNo, x_tOf, x_tAnd, x_tOr, x_tNot, x_iOf, x_iNo, x_iRng1, x_iRng2, x_iRng3, x_iEnum, x_iZip, x_iRevd, x_aNil, x_aCons, x_dNil, x_dCons, x_sAsg, x_sAsgT, x_sPar, x_sSet, x_sAug, x_sAugS, x_sApp, x_sExt, x_sEx, x_sIte, x_sRet, x_sRetN, x_sBrk, x_sCont, x_sPass, x_sNo, x_sSeq, argsOf, argOf, locs, backs, nd0, nd1, store, put, frz, tgt, tgts, isOw, z_add, z_sub, z_xor, z_eq, z_ne, z_lt, z_le, z_gt, z_ge, z_dd, z_do, z_dl, z_tb, z_lenL, z_lenT, z_int, z_intB, z_abs, z_max, z_min, z_tupL, z_tupT, z_lstL, z_lstT, z_scr, ix0, ix1, ix2, ix3, ix4, ixn1, ixn2, ixn3, ixn4, decide_true, decide_false, if_true, if_false, Bool.false_eq_true, Bool.and_true, Bool.true_and, Bool.not_true, Bool.not_false, x_turnC, wipeE, back, x_sForB, x_forB, List.getD_cons_zero, List.getD_cons_succ, zpow6]) (by decide) (by decide)
        refine ⟨v, x2, [.fz (.int way)], v1, by omega, v3, fin ?_⟩
        simp only [b__law_some, evB, evS, ev, evs, mkV, mkI]
        refine sSeq_nx s1 (sSeq_nx (sIte_f (e1 := [.ow b x1, .fz (.int way)]) (by simp only [List.getElem?_cons_zero, List.getElem?_cons_succ, List.set_cons_zero, List.set_cons_succ, List.replicate_succ, List.replicate_zero, List.cons_append, List.nil_append, x_vCst, x_vNm, x_vBin, x_vNeg, x_vBits, x_vCmp, x_vCmp2, x_vAnd, x_vOr, x_vNot, x_vIte, x_vTup, x_vLst, x_vIx, x_vSlF, x_vSlT, x_vSl, x_vRev, x_vCall, x_vBlt, x_vBlt2, x_vPop, x_vPopAt, x_fYes, x_vFz, x_vNo, x_tOf, x_tAnd, x_tOr, x_tNot, x_iOf, x_iNo, x_iRng1, x_iRng2, x_iRng3, x_iEnum, x_iZip, x_iRevd, x_aNil, x_aCons, x_dNil, x_dCons, x_sAsg, x_sAsgT, x_sPar, x_sSet, x_sAug, x_sAugS, x_sApp, x_sExt, x_sEx, x_sIte, x_sRet, x_sRetN, x_sBrk, x_sCont, x_sPass, x_sNo, x_sSeq, argsOf, argOf, locs, backs, nd0, nd1, store, put, frz, tgt, tgts, isOw, z_add, z_sub, z_xor, z_eq, z_ne, z_lt, z_le, z_gt, z_ge, z_dd, z_do, z_dl, z_tb, z_lenL, z_lenT, z_int, z_intB, z_abs, z_max, z_min, z_tupL, z_tupT, z_lstL, z_lstT, z_scr, ix0, ix1, ix2, ix3, ix4, ixn1, ixn2, ixn3, ixn4, decide_true, decide_false, if_true, if_false, Bool.false_eq_true, Bool.and_true, Bool.true_and, Bool.not_true, Bool.not_false, x_turnC, wipeE, back, x_sForB, x_forB, List.getD_cons_zero, List.getD_cons_succ, c1]) rfl) (sSeq_nx (sIte_f (e1 := [.ow b x1, .fz (.int way)]) (by simp only [List.getElem?_cons_zero, List.getElem?_cons_succ, List.set_cons_zero, List.set_cons_succ, List.replicate_succ, List.replicate_zero, List.cons_append, List.nil_append, x_vCst, x_vNm, x_vBin, x_vNeg, x_vBits, x_vCmp, x_vCmp2, x_vAnd, x_vOr, x_vNot, x_vIte, x_vTup, x_vLst, x_vIx, x_vSlF, x_vSlT, x_vSl, x_vRev, x_vCall, x_vBlt, x_vBlt2, x_vPop, x_vPopAt, x_fYes, x_vFz, x_vNo, x_tOf, x_tAnd, x_tOr, x_tNot, x_iOf, x_iNo, x_iRng1, x_iRng2, x_iRng3, x_iEnum, x_iZip, x_iRevd, x_aNil, x_aCons, x_dNil, x_dCons, x_sAsg, x_sAsgT, x_sPar, x_sSet, x_sAug, x_sAugS, x_sApp, x_sExt, x_sEx, x_sIte, x_sRet, x_sRetN, x_sBrk, x_sCont, x_sPass, x_sNo, x_sSeq, argsOf, argOf, locs, backs, nd0, nd1, store, put, frz, tgt, tgts, isOw, z_add, z_sub, z_xor, z_eq, z_ne, z_lt, z_le, z_gt, z_ge, z_dd, z_do, z_dl, z_tb, z_lenL, z_lenT, z_int, z_intB, z_abs, z_max, z_min, z_tupL, z_tupT, z_lstL, z_lstT, z_scr, ix0, ix1, ix2, ix3, ix4, ixn1, ixn2, ixn3, ixn4, decide_true, decide_false, if_true, if_false, Bool.false_eq_true, Bool.and_true, Bool.true_and, Bool.not_true, Bool.not_false, x_turnC, wipeE, back, x_sForB, x_forB, List.getD_cons_zero, List.getD_cons_succ, c2]) rfl) (sSeq_rt (sIte_t (e1 := [.ow b x1, .fz (.int way)]) (by simp only [List.getElem?_cons_zero, List.getElem?_cons_succ, List.set_cons_zero, List.set_cons_succ, List.replicate_succ, List.replicate_zero, List.cons_append, List.nil_append, x_vCst, x_vNm, x_vBin, x_vNeg, x_vBits, x_vCmp, x_vCmp2, x_vAnd, x_vOr, x_vNot, x_vIte, x_vTup, x_vLst, x_vIx, x_vSlF, x_vSlT, x_vSl, x_vRev, x_vCall, x_vBlt, x_vBlt2, x_vPop, x_vPopAt, x_fYes, x_vFz, x_vNo, x_tOf, x_tAnd, x_tOr, x_tNot, x_iOf, x_iNo, x_iRng1, x_iRng2, x_iRng3, x_iEnum, x_iZip, x_iRevd, x_aNil, x_aCons, x_dNil, x_dCons, x_sAsg, x_sAsgT, x_sPar, x_sSet, x_sAug, x_sAugS, x_sApp, x_sExt, x_sEx, x_sIte, x_sRet, x_sRetN, x_sBrk, x_sCont, x_sPass, x_sNo, x_sSeq, argsOf, argOf, locs, backs, nd0, nd1, store, put, frz, tgt, tgts, isOw, z_add, z_sub, z_xor, z_eq, z_ne, z_lt, z_le, z_gt, z_ge, z_dd, z_do, z_dl, z_tb, z_lenL, z_lenT, z_int, z_intB, z_abs, z_max, z_min, z_tupL, z_tupT, z_lstL, z_lstT, z_scr, ix0, ix1, ix2, ix3, ix4, ixn1, ixn2, ixn3, ixn4, decide_true, decide_false, if_true, if_false, Bool.false_eq_true, Bool.and_true, Bool.true_and, Bool.not_true, Bool.not_false, x_turnC, wipeE, back, x_sForB, x_forB, List.getD_cons_zero, List.getD_cons_succ, c3]) (sSeq_rt ?_)))))
        unfold sRet
        rw [v4]
        rfl
      · obtain ⟨v, x2, v1, v2, v3, v4⟩ := draw0_of k (e := [.ow b x1, .fz (.int way)]) (b := b) (a := vBin .pow (vCst (.int 10)) (vCst (.int 10))) (size := 10000000000) rfl w3 (by simp only [List.getElem?_cons_zero, List.getElem?_cons_succ, List.set_cons_zero, List.set_cons_succ, List.replicate_succ, List.replicate_zero, List.cons_append, List.nil_append, x_vCst, x_vNm, x_vBin, x_vNeg, x_vBits, x_vCmp, x_vCmp2, x_vAnd, x_vOr, x_vNot, x_vIte, x_vTup, x_vLst, x_vIx, x_vSlF, x_vSlT, x_vSl, x_vRev, x_vCall, x_vBlt, x_vBlt2, x_vPop, x_vPopAt, x_fYes, x_vFz, x_vNo, x_tOf, x_tAnd, x_tOr, x_tNot, x_iOf, x_iNo, x_iRng1, x_iRng2, x_iRng3, x_iEnum, x_iZip, x_iRevd, x_aNil, x_aCons, x_dNil, x_dCons, x_sAsg, x_sAsgT, x_sPar, x_sSet, x_sAug, x_sAugS, x_sApp, x_sExt, x_sEx, x_sIte, x_sRet, x_sRetN, x_sBrk, x_sCont, x_sPass, x_sNo, x_sSeq, argsOf, argOf, locs, backs, nd0, nd1, store, put, frz, tgt, tgts, isOw, z_add, z_sub, z_xor, z_eq, z_ne, z_lt, z_le, z_gt, z_ge, z_dd, z_do, z_dl, z_tb, z_lenL, z_lenT, z_int, z_intB, z_abs, z_max, z_min, z_tupL, z_tupT, z_lstL, z_lstT, z_scr, ix0, ix1, ix2, ix3, ix4, ixn1, ixn2, ixn3, ixn4, decide_true, decide_false, if_true, if_false, Bool.false_eq_true, Bool.and_true, Bool.true_and, Bool.not_true, Bool.not_false, x_turnC, wipeE, back, x_sForB, x_forB, List.getD_cons_zero, List.getD_cons_succ, zpow10]) (by decide) (by decide)
        refine ⟨v, x2, [.fz (.int way)], v1, by omega, v3, fin ?_⟩
        simp only [b__law_some, evB, evS, ev, evs, mkV, mkI]
        refine sSeq_nx s1 (sSeq_nx (sIte_f (e1 := [.ow b x1, .fz (.int way)]) (by simp only [List.getElem?_cons_zero, List.getElem?_cons_succ, List.set_cons_zero, List.set_cons_succ, List.replicate_succ, List.replicate_zero, List.cons_append, List.nil_append, x_vCst, x_vNm, x_vBin, x_vNeg, x_vBits, x_vCmp, x_vCmp2, x_vAnd, x_vOr, x_vNot, x_vIte, x_vTup, x_vLst, x_vIx, x_vSlF, x_vSlT, x_vSl, x_vRev, x_vCall, x_vBlt, x_vBlt2, x_vPop, x_vPopAt, x_fYes, x_vFz, x_vNo, x_tOf, x_tAnd, x_tOr, x_tNot, x_iOf, x_iNo, x_iRng1, x_iRng2, x_iRng3, x_iEnum, x_iZip, x_iRevd, x_aNil, x_aCons, x_dNil, x_dCons, x_sAsg, x_sAsgT, x_sPar, x_sSet, x_sAug, x_sAugS, x_sApp, x_sExt, x_sEx, x_sIte, x_sRet, x_sRetN, x_sBrk, x_sCont, x_sPass, x_sNo, x_sSeq, argsOf, argOf, locs, backs, nd0, nd1, store, put, frz, tgt, tgts, isOw, z_add, z_sub, z_xor, z_eq, z_ne, z_lt, z_le, z_gt, z_ge, z_dd, z_do, z_dl, z_tb, z_lenL, z_lenT, z_int, z_intB, z_abs, z_max, z_min, z_tupL, z_tupT, z_lstL, z_lstT, z_scr, ix0, ix1, ix2, ix3, ix4, ixn1, ixn2, ixn3, ixn4, decide_true, decide_false, if_true, if_false, Bool.false_eq_true, Bool.and_true, Bool.true_and, Bool.not_true, Bool.not_false, x_turnC, wipeE, back, x_sForB, x_forB, List.getD_cons_zero, List.getD_cons_succ, c1]) rfl) (sSeq_nx (sIte_f (e1 := [.ow b x1, .fz (.int way)]) (by simp only [List.getElem?_cons_zero, List.getElem?_cons_succ, List.set_cons_zero, List.set_cons_succ, List.replicate_succ, List.replicate_zero, List.cons_append, List.nil_append, x_vCst, x_vNm, x_vBin, x_vNeg, x_vBits, x_vCmp, x_vCmp2, x_vAnd, x_vOr, x_vNot, x_vIte, x_vTup, x_vLst, x_vIx, x_vSlF, x_vSlT, x_vSl, x_vRev, x_vCall, x_vBlt, x_vBlt2, x_vPop, x_vPopAt, x_fYes, x_vFz, x_vNo, x_tOf, x_tAnd, x_tOr, x_tNot, x_iOf, x_iNo, x_iRng1, x_iRng2, x_iRng3, x_iEnum, x_iZip, x_iRevd, x_aNil, x_aCons, x_dNil, x_dCons, x_sAsg, x_sAsgT, x_sPar, x_sSet, x_sAug, x_sAugS, x_sApp, x_sExt, x_sEx, x_sIte, x_sRet, x_sRetN, x_sBrk, x_sCont, x_sPass, x_sNo, x_sSeq, argsOf, argOf, locs, backs, nd0, nd1, store, put, frz, tgt, tgts, isOw, z_add, z_sub, z_xor, z_eq, z_ne, z_lt, z_le, z_gt, z_ge, z_dd, z_do, z_dl, z_tb, z_lenL, z_lenT, z_int, z_intB, z_abs, z_max, z_min, z_tupL, z_tupT, z_lstL, z_lstT, z_scr, ix0, ix1, ix2, ix3, ix4, ixn1, ixn2, ixn3, ixn4, decide_true, decide_false, if_true, if_false, Bool.false_eq_true, Bool.and_true, Bool.true_and, Bool.not_true, Bool.not_false, x_turnC, wipeE, back, x_sForB, x_forB, List.getD_cons_zero, List.getD_cons_succ, c2]) rfl) (sSeq_nx (sIte_f (e1 := [.ow b x1, .fz (.int way)]) (by simp only [List.getElem?_cons_zero, List.getElem?_cons_succ, List.set_cons_zero, List.set_cons_succ, List.replicate_succ, List.replicate_zero, List.cons_append, List.nil_append, x_vCst, x_vNm, x_vBin, x_vNeg, x_vBits, x_vCmp, x_vCmp2, x_vAnd, x_vOr, x_vNot, x_vIte, x_vTup, x_vLst, x_vIx, x_vSlF, x_vSlT, x_vSl, x_vRev, x_vCall, x_vBlt, x_vBlt2, x_vPop, x_vPopAt, x_fYes, x_vFz, x_vNo, x_tOf, x_tAnd, x_tOr, x_tNot, x_iOf, x_iNo, x_iRng1, x_iRng2, x_iRng3, x_iEnum, x_iZip, x_iRevd, x_aNil, x_aCons, x_dNil, x_dCons, x_sAsg, x_sAsgT, x_sPar, x_sSet, x_sAug, x_sAugS, x_sApp, x_sExt, x_sEx, x_sIte, x_sRet, x_sRetN, x_sBrk, x_sCont, x_sPass, x_sNo, x_sSeq, argsOf, argOf, locs, backs, nd0, nd1, store, put, frz, tgt, tgts, isOw, z_add, z_sub, z_xor, z_eq, z_ne, z_lt, z_le, z_gt, z_ge, z_dd, z_do, z_dl, z_tb, z_lenL, z_lenT, z_int, z_intB, z_abs, z_max, z_min, z_tupL, z_tupT, z_lstL, z_lstT, z_scr, ix0, ix1, ix2, ix3, ix4, ixn1, ixn2, ixn3, ixn4, decide_true, decide_false, if_true, if_false, Bool.false_eq_true, Bool.and_true, Bool.true_and, Bool.not_true, Bool.not_false, x_turnC, wipeE, back, x_sForB, x_forB, List.getD_cons_zero, List.getD_cons_succ, c3]) rfl) (sSeq_rt ?_))))
        unfold sRet
        rw [v4]
        rfl
theorem sign_ok (k : Nat) (b : Bool) {xs : List Dt} (hp : PoolOk xs) {n : Int} (hn : n.natAbs < 2 ^ 400) : ∃ v xs' tl, v.natAbs = n.natAbs ∧ PoolOk xs' ∧ run G.M G.P (k + 2) 11 [.ow b xs, .fz (.int n)] = some (.d (.int v), .ow b xs' :: .fz (.int n) :: tl) := by
  obtain ⟨w, x1, w1, w2, w3, w4⟩ := draw0_of k (e := [.ow b xs, .fz (.int n)]) (b := b) (a := vCst (.int 2)) (size := 2) rfl hp rfl (by decide) (by decide)
  have hlog := log2_lt hn (by decide)
  have m1 : mulOk 2 w = true := by
    rcases (show w = 0 ∨ w = 1 by omega) with rfl | rfl <;> decide +kernel
  have m2 : mulOk n (1 - 2 * w) = true := by
    unfold mulOk
    have : (1 - 2 * w).natAbs = 1 := by omega
    rw [this]
    have h1 : (1 : Nat).log2 = 0 := by decide +kernel
    rw [h1]
    exact decide_eq_true (by omega)
  refine ⟨n * (1 - 2 * w), x1, [], ?_, w3, ?_⟩
  · rw [Int.natAbs_mul, show (1 - 2 * w).natAbs = 1 by omega, Nat.mul_one]
  · show runD (run G.M G.P (k + 1)) G.M ⟨"_law_sign", 2, 2, b__law_sign⟩ [.ow b xs, .fz (.int n)] = _
    refine runD_d [.ow b xs, .fz (.int n)] rfl rfl ?_
    show evB _ _ b__law_sign _ = _
    simp only [b__law_sign, evB, evS, ev, evs, mkV, mkI]
    have key : vBin Bop.mul (vNm 1) (vBin Bop.sub (vCst (.int 1)) (vBin Bop.mul (vCst (.int 2)) (vCall (run G.M G.P (k + 1) 4) (aCons (vNm 0) (aCons (vCst (.int 2)) aNil))))) [.ow b xs, .fz (.int n)] = some (.d (.int (n * (1 - 2 * w))), [.ow b x1, .fz (.int n)]) :=
      mul_of (nm_fz rfl) (sub_of rfl (mul_of rfl w4 m1)) m2
    refine sSeq_rt ?_
    unfold sRet
    rw [key]
theorem huge_ok (k : Nat) (b : Bool) {xs : List Dt} (hp : PoolOk xs) : ∃ v xs' tl, v.natAbs < 2 ^ 139 ∧ PoolOk xs' ∧ run G.M G.P (k + 3) 12 [.ow b xs] = some (.d (.int v), .ow b xs' :: tl) := by
  have hb : vBin .pow (vCst (.int 10)) (vCst (.int 20)) = vBin .pow (vCst (.int 10)) (vCst (.int 20)) := rfl
  have ha : ∀ e : En, vBin .pow (vCst (.int 10)) (vCst (.int 20)) e = some (.d (.int 100000000000000000000), e) := fun e => by simp only [List.getElem?_cons_zero, List.getElem?_cons_succ, List.set_cons_zero, List.set_cons_succ, List.replicate_succ, List.replicate_zero, List.cons_append, List.nil_append, x_vCst, x_vNm, x_vBin, x_vNeg, x_vBits, x_vCmp, x_vCmp2, x_vAnd, x_vOr, x_vNot, x_vIte, x_vTup, x_vLst, x_vIx, x_vSlF, x_vSlT, x_vSl, x_vRev, x_vCall, x_vBlt, x_vBlt2, x_vPop, x_vPopAt, x_fYes, x_vFz, x_vNo, x_tOf, x_tAnd, x_tOr, x_tNot, x_iOf, x_iNo, x_iRng1, x_iRng2, x_iRng3, x_iEnum, x_iZip, x_iRevd, x_aNil, x_aCons, x_dNil, x_dCons, x_sAsg, x_sAsgT, x_sPar, x_sSet, x_sAug, x_sAugS, x_sApp, x_sExt, x_sEx, x_sIte, x_sRet, x_sRetN, x_sBrk, x_sCont, x_sPass, x_sNo, x_sSeq, argsOf, argOf, locs, backs, nd0, nd1, store, put, frz, tgt, tgts, isOw, z_add, z_sub, z_xor, z_eq, z_ne, z_lt, z_le, z_gt, z_ge, z_dd, z_do, z_dl, z_tb, z_lenL, z_lenT, z_int, z_intB, z_abs, z_max, z_min, z_tupL, z_tupT, z_lstL, z_lstT, z_scr, ix0, ix1, ix2, ix3, ix4, ixn1, ixn2, ixn3, ixn4, decide_true, decide_false, if_true, if_false, Bool.false_eq_true, Bool.and_true, Bool.true_and, Bool.not_true, Bool.not_false, x_turnC, wipeE, back, x_sForB, x_forB, List.getD_cons_zero, List.getD_cons_succ, zpow20]
  obtain ⟨u, x1, u1, u2, u3, u4⟩ := draw0_of (k + 1) (e := [.ow b xs]) (b := b) (a := vBin .pow (vCst (.int 10)) (vCst (.int 20))) (size := 100000000000000000000) rfl hp (ha _) (by decide) (by decide)
  obtain ⟨v, x2, v1, v2, v3, v4⟩ := draw0_of (k + 1) (e := [.ow b x1]) (b := b) (a := vBin .pow (vCst (.int 10)) (vCst (.int 20))) (size := 100000000000000000000) rfl u3 (ha _) (by decide) (by decide)
  obtain ⟨w, x3, w1, w2, w3, w4⟩ := draw0_of (k + 1) (e := [.ow b x2]) (b := b) (a := vBin .pow (vCst (.int 10)) (vCst (.int 20))) (size := 100000000000000000000) rfl v3 (ha _) (by decide) (by decide)
  have hm : mulOk u v = true := mul_ok (Nat.lt_of_lt_of_le (show u.natAbs < 2 ^ 70 by omega) (Nat.pow_le_pow_right (by decide) (by decide))) (Nat.lt_of_lt_of_le (show v.natAbs < 2 ^ 70 by omega) (Nat.pow_le_pow_right (by decide) (by decide)))
  have hbound : (u * v + w).natAbs < 2 ^ 139 := by
    have h1 : u * v ≤ 99999999999999999999 * 99999999999999999999 := Int.mul_le_mul (by omega) (by omega) v1 (by omega)
    have h2 : 0 ≤ u * v := Int.mul_nonneg u1 v1
    omega
  obtain ⟨z, x4, tl, z1, z2, z3⟩ := sign_ok k true w3 (n := u * v + w) (Nat.lt_of_lt_of_le hbound (Nat.pow_le_pow_right (by decide) (by decide)))
  refine ⟨z, x4, [], by rw [z1]; exact hbound, z2, ?_⟩
  show runD (run G.M G.P (k + 2)) G.M ⟨"_law_huge", 1, 1, b__law_huge⟩ [.ow b xs] = _
  refine runD_d [.ow b xs] rfl rfl ?_
  show evB _ _ b__law_huge _ = _
  simp only [b__law_huge, evB, evS, ev, evs, mkV, mkI]
  have key := add_of (mul_of u4 v4 hm) w4
  refine sSeq_rt ?_
  have key2 : vCall (run G.M G.P (k + 2) 11) (aCons (vNm 0) (aCons (vBin Bop.add (vBin Bop.mul (vCall (run G.M G.P (k + 2) 4) (aCons (vNm 0) (aCons (vBin .pow (vCst (.int 10)) (vCst (.int 20))) aNil))) (vCall (run G.M G.P (k + 2) 4) (aCons (vNm 0) (aCons (vBin .pow (vCst (.int 10)) (vCst (.int 20))) aNil)))) (vCall (run G.M G.P (k + 2) 4) (aCons (vNm 0) (aCons (vBin .pow (vCst (.int 10)) (vCst (.int 20))) aNil)))) aNil)) [.ow b xs] = some (.d (.int z), [.ow b x4]) := by
    generalize vBin Bop.add (vBin Bop.mul (vCall (run G.M G.P (k + 2) 4) (aCons (vNm 0) (aCons (vBin .pow (vCst (.int 10)) (vCst (.int 20))) aNil))) (vCall (run G.M G.P (k + 2) 4) (aCons (vNm 0) (aCons (vBin .pow (vCst (.int 10)) (vCst (.int 20))) aNil)))) (vCall (run G.M G.P (k + 2) 4) (aCons (vNm 0) (aCons (vBin .pow (vCst (.int 10)) (vCst (.int 20))) aNil))) = E at key
    have key' : E [.ow b xs] = some (.d (.int (u * v + w)), [.ow b x3]) := key
    simp only [List.getElem?_cons_zero, List.getElem?_cons_succ, List.set_cons_zero, List.set_cons_succ, List.replicate_succ, List.replicate_zero, List.cons_append, List.nil_append, x_vCst, x_vNm, x_vBin, x_vNeg, x_vBits, x_vCmp, x_vCmp2, x_vAnd, x_vOr, x_vNot, x_vIte, x_vTup, x_vLst, x_vIx, x_vSlF, x_vSlT, x_vSl, x_vRev, x_vCall, x_vBlt, x_vBlt2, x_vPop, x_vPopAt, x_fYes, x_vFz, x_vNo, x_tOf, x_tAnd, x_tOr, x_tNot, x_iOf, x_iNo, x_iRng1, x_iRng2, x_iRng3, x_iEnum, x_iZip, x_iRevd, x_aNil, x_aCons, x_dNil, x_dCons, x_sAsg, x_sAsgT, x_sPar, x_sSet, x_sAug, x_sAugS, x_sApp, x_sExt, x_sEx, x_sIte, x_sRet, x_sRetN, x_sBrk, x_sCont, x_sPass, x_sNo, x_sSeq, argsOf, argOf, locs, backs, nd0, nd1, store, put, frz, tgt, tgts, isOw, z_add, z_sub, z_xor, z_eq, z_ne, z_lt, z_le, z_gt, z_ge, z_dd, z_do, z_dl, z_tb, z_lenL, z_lenT, z_int, z_intB, z_abs, z_max, z_min, z_tupL, z_tupT, z_lstL, z_lstT, z_scr, ix0, ix1, ix2, ix3, ix4, ixn1, ixn2, ixn3, ixn4, decide_true, decide_false, if_true, if_false, Bool.false_eq_true, Bool.and_true, Bool.true_and, Bool.not_true, Bool.not_false, x_turnC, wipeE, back, x_sForB, x_forB, List.getD_cons_zero, List.getD_cons_succ, key', z3]
  unfold sRet
  rw [key2]
end Lawk93
end

section
set_option maxHeartbeats 4000000
set_option exponentiation.threshold 500000
namespace Lawk93
open PySem De

theorem nat_mul {r b X : Nat} (hr : r ≤ X) (hb : b ≤ X) (hX : X < 2 ^ 300000) : bop .mul (.int (r : Int)) (.int (b : Int)) = some (.d (.int ((r * b : Nat) : Int))) := by
  have h1 := log2_lt (a := (r : Int)) (n := 300000) (Nat.lt_of_le_of_lt (show (r : Int).natAbs ≤ X by omega) hX) (by decide)
  have h2 := log2_lt (a := (b : Int)) (n := 300000) (Nat.lt_of_le_of_lt (show (b : Int).natAbs ≤ X by omega) hX) (by decide)
  rw [z_mul (show mulOk (r : Int) (b : Int) = true by unfold mulOk; exact decide_eq_true (by omega))]
  simp
theorem half_nat (n : Nat) : bop .fdiv (.int (n : Int)) (.int 2) = some (.d (.int ((n / 2 : Nat) : Int))) := by
  rw [z_fdiv (div_ok (by decide) (by decide)), Int.fdiv_eq_ediv_of_nonneg _ (by decide)]
  congr 3
theorem mod2_nat (n : Nat) : bop .mod (.int (n : Int)) (.int 2) = some (.d (.int ((n % 2 : Nat) : Int))) := by
  rw [z_mod (by decide), Int.fmod_eq_emod_of_nonneg _ (by decide)]
  congr 3
abbrev rC : FT := tOf (vCmp .gt (vNm 1) (vCst (.int 0)))
abbrev rB : FS := sSeq (sIte (tOf (vCmp .eq (vBin .mod (vNm 1) (vCst (.int 2))) (vCst (.int 1)))) (sSeq (sAsg 2 (vBin .mul (vNm 2) (vNm 0))) sPass) sPass)
  (sSeq (sAsg 1 (vBin .fdiv (vNm 1) (vCst (.int 2)))) (sSeq (sIte (tOf (vCmp .gt (vNm 1) (vCst (.int 0)))) (sSeq (sAsg 0 (vBin .mul (vNm 0) (vNm 0))) sPass) sPass) sPass))
theorem raise_loop : ∀ (E b r m X : Nat), E < m → 1 ≤ b → 1 ≤ r → r * b ^ E ≤ X → X < 2 ^ 300000 → (E ≠ 0 → b ≤ X) → ∃ b', whL rC rB m [.fz (.int b), .fz (.int E), .fz (.int r)] = some (.nx [.fz b', .fz (.int 0), .fz (.int ((r * b ^ E : Nat) : Int))]) := by
  intro E
  induction E using Nat.strongRecOn with
  | _ E ih =>
    intro b r m X hm hb hr hx hX hbX
    cases m with
    | zero => omega
    | succ m =>
      by_cases z : E = 0
      · subst z
        refine ⟨.int b, ?_⟩
        have h0 : ¬ (0 : Int) < ((0 : Nat) : Int) := by decide
        rw [whL]
        simp only [rC, List.getElem?_cons_zero, List.getElem?_cons_succ, List.set_cons_zero, List.set_cons_succ, List.replicate_succ, List.replicate_zero, List.cons_append, List.nil_append, x_vCst, x_vNm, x_vBin, x_vNeg, x_vBits, x_vCmp, x_vCmp2, x_vAnd, x_vOr, x_vNot, x_vIte, x_vTup, x_vLst, x_vIx, x_vSlF, x_vSlT, x_vSl, x_vRev, x_vCall, x_vBlt, x_vBlt2, x_vPop, x_vPopAt, x_fYes, x_vFz, x_vNo, x_tOf, x_tAnd, x_tOr, x_tNot, x_iOf, x_iNo, x_iRng1, x_iRng2, x_iRng3, x_iEnum, x_iZip, x_iRevd, x_aNil, x_aCons, x_dNil, x_dCons, x_sAsg, x_sAsgT, x_sPar, x_sSet, x_sAug, x_sAugS, x_sApp, x_sExt, x_sEx, x_sIte, x_sRet, x_sRetN, x_sBrk, x_sCont, x_sPass, x_sNo, x_sSeq, argsOf, argOf, locs, backs, nd0, nd1, store, put, frz, tgt, tgts, isOw, z_add, z_sub, z_xor, z_eq, z_ne, z_lt, z_le, z_gt, z_ge, z_dd, z_do, z_dl, z_tb, z_lenL, z_lenT, z_int, z_intB, z_abs, z_max, z_min, z_tupL, z_tupT, z_lstL, z_lstT, z_scr, ix0, ix1, ix2, ix3, ix4, ixn1, ixn2, ixn3, ixn4, decide_true, decide_false, if_true, if_false, Bool.false_eq_true, Bool.and_true, Bool.true_and, Bool.not_true, Bool.not_false, x_turnC, wipeE, back, x_sForB, x_forB, List.getD_cons_zero, List.getD_cons_succ, h0, Nat.pow_zero, Nat.mul_one]
        rfl
      · have hE : (0 : Int) < (E : Int) := by omega
        have hpb : b ≤ b ^ E := by
          have := Nat.pow_le_pow_right hb (show 1 ≤ E by omega)
          rw [Nat.pow_one] at this
          exact this
        have hrX : r ≤ X := Nat.le_trans (Nat.le_mul_of_pos_right _ (Nat.pow_pos hb)) hx
        have hrb : r * b ≤ X := Nat.le_trans (Nat.mul_le_mul_left r hpb) hx
        have m1 := nat_mul hrX (hbX z) hX
        have m2 := nat_mul (hbX z) (hbX z) hX
        have d1 := half_nat E
        have d2 := mod2_nat E
        by_cases odd : E % 2 = 1
        · have e1 : b ^ E = b * (b * b) ^ (E / 2) := by
            have : E = 2 * (E / 2) + 1 := by omega
            rw [this, Nat.pow_succ, Nat.pow_mul, Nat.mul_comm, ← Nat.pow_two, show (2 * (E / 2) + 1) / 2 = E / 2 by omega]
          have o1 : ((E % 2 : Nat) : Int) = 1 := by omega
          by_cases half : E / 2 = 0
          · obtain ⟨b', h⟩ := ih 0 (by omega) b (r * b) m X (by omega) hb (Nat.mul_pos hr hb) (by rw [Nat.pow_zero, Nat.mul_one]; exact hrb) hX (fun w => absurd rfl w)
            refine ⟨b', ?_⟩
            have h3 : ¬ (0 : Int) < ((0 : Nat) : Int) := by decide
            have e2 : r * b ^ E = r * b * b ^ 0 := by rw [e1, half, Nat.pow_zero, Nat.pow_zero, Nat.mul_one, Nat.mul_one]
            rw [e2, ← h, whL]
            rw [half] at d1
            simp only [rC, rB, List.getElem?_cons_zero, List.getElem?_cons_succ, List.set_cons_zero, List.set_cons_succ, List.replicate_succ, List.replicate_zero, List.cons_append, List.nil_append, x_vCst, x_vNm, x_vBin, x_vNeg, x_vBits, x_vCmp, x_vCmp2, x_vAnd, x_vOr, x_vNot, x_vIte, x_vTup, x_vLst, x_vIx, x_vSlF, x_vSlT, x_vSl, x_vRev, x_vCall, x_vBlt, x_vBlt2, x_vPop, x_vPopAt, x_fYes, x_vFz, x_vNo, x_tOf, x_tAnd, x_tOr, x_tNot, x_iOf, x_iNo, x_iRng1, x_iRng2, x_iRng3, x_iEnum, x_iZip, x_iRevd, x_aNil, x_aCons, x_dNil, x_dCons, x_sAsg, x_sAsgT, x_sPar, x_sSet, x_sAug, x_sAugS, x_sApp, x_sExt, x_sEx, x_sIte, x_sRet, x_sRetN, x_sBrk, x_sCont, x_sPass, x_sNo, x_sSeq, argsOf, argOf, locs, backs, nd0, nd1, store, put, frz, tgt, tgts, isOw, z_add, z_sub, z_xor, z_eq, z_ne, z_lt, z_le, z_gt, z_ge, z_dd, z_do, z_dl, z_tb, z_lenL, z_lenT, z_int, z_intB, z_abs, z_max, z_min, z_tupL, z_tupT, z_lstL, z_lstT, z_scr, ix0, ix1, ix2, ix3, ix4, ixn1, ixn2, ixn3, ixn4, decide_true, decide_false, if_true, if_false, Bool.false_eq_true, Bool.and_true, Bool.true_and, Bool.not_true, Bool.not_false, x_turnC, wipeE, back, x_sForB, x_forB, List.getD_cons_zero, List.getD_cons_succ, hE, d1, d2, o1, m1, h3]
          · obtain ⟨b', h⟩ := ih (E / 2) (by omega) (b * b) (r * b) m X (by omega) (Nat.mul_pos hb hb) (Nat.mul_pos hr hb) (by rw [Nat.mul_assoc, ← e1]; exact hx) hX (fun _ => by
              have h5 : b * b ≤ b ^ E := by
                have := Nat.pow_le_pow_right hb (show 2 ≤ E by omega)
                rw [Nat.pow_two] at this
                exact this
              exact Nat.le_trans h5 (Nat.le_trans (Nat.le_mul_of_pos_left _ hr) hx))
            refine ⟨b', ?_⟩
            have h3 : (0 : Int) < ((E / 2 : Nat) : Int) := by omega
            have e2 : r * b ^ E = r * b * (b * b) ^ (E / 2) := by rw [e1, Nat.mul_assoc]
            rw [e2, ← h, whL]
            simp only [rC, rB, List.getElem?_cons_zero, List.getElem?_cons_succ, List.set_cons_zero, List.set_cons_succ, List.replicate_succ, List.replicate_zero, List.cons_append, List.nil_append, x_vCst, x_vNm, x_vBin, x_vNeg, x_vBits, x_vCmp, x_vCmp2, x_vAnd, x_vOr, x_vNot, x_vIte, x_vTup, x_vLst, x_vIx, x_vSlF, x_vSlT, x_vSl, x_vRev, x_vCall, x_vBlt, x_vBlt2, x_vPop, x_vPopAt, x_fYes, x_vFz, x_vNo, x_tOf, x_tAnd, x_tOr, x_tNot, x_iOf, x_iNo, x_iRng1, x_iRng2, x_iRng3, x_iEnum, x_iZip, x_iRevd, x_aNil, x_aCons, x_dNil, x_dCons, x_sAsg, x_sAsgT, x_sPar, x_sSet, x_sAug, x_sAugS, x_sApp, x_sExt, x_sEx, x_sIte, x_sRet, x_sRetN, x_sBrk, x_sCont, x_sPass, x_sNo, x_sSeq, argsOf, argOf, locs, backs, nd0, nd1, store, put, frz, tgt, tgts, isOw, z_add, z_sub, z_xor, z_eq, z_ne, z_lt, z_le, z_gt, z_ge, z_dd, z_do, z_dl, z_tb, z_lenL, z_lenT, z_int, z_intB, z_abs, z_max, z_min, z_tupL, z_tupT, z_lstL, z_lstT, z_scr, ix0, ix1, ix2, ix3, ix4, ixn1, ixn2, ixn3, ixn4, decide_true, decide_false, if_true, if_false, Bool.false_eq_true, Bool.and_true, Bool.true_and, Bool.not_true, Bool.not_false, x_turnC, wipeE, back, x_sForB, x_forB, List.getD_cons_zero, List.getD_cons_succ, hE, d1, d2, o1, m1, m2, h3]
        · have e1 : b ^ E = (b * b) ^ (E / 2) := by
            have : E = 2 * (E / 2) := by omega
            rw [this, Nat.pow_mul, ← Nat.pow_two, show 2 * (E / 2) / 2 = E / 2 by omega]
          have o1 : ¬ ((E % 2 : Nat) : Int) = 1 := by omega
          obtain ⟨b', h⟩ := ih (E / 2) (by omega) (b * b) r m X (by omega) (Nat.mul_pos hb hb) hr (by rw [← e1]; exact hx) hX (fun _ => by
              have h5 : b * b ≤ b ^ E := by
                have := Nat.pow_le_pow_right hb (show 2 ≤ E by omega)
                rw [Nat.pow_two] at this
                exact this
              exact Nat.le_trans h5 (Nat.le_trans (Nat.le_mul_of_pos_left _ hr) hx))
          refine ⟨b', ?_⟩
          have h3 : (0 : Int) < ((E / 2 : Nat) : Int) := by omega
          rw [e1, ← h, whL]
          simp only [rC, rB, List.getElem?_cons_zero, List.getElem?_cons_succ, List.set_cons_zero, List.set_cons_succ, List.replicate_succ, List.replicate_zero, List.cons_append, List.nil_append, x_vCst, x_vNm, x_vBin, x_vNeg, x_vBits, x_vCmp, x_vCmp2, x_vAnd, x_vOr, x_vNot, x_vIte, x_vTup, x_vLst, x_vIx, x_vSlF, x_vSlT, x_vSl, x_vRev, x_vCall, x_vBlt, x_vBlt2, x_vPop, x_vPopAt, x_fYes, x_vFz, x_vNo, x_tOf, x_tAnd, x_tOr, x_tNot, x_iOf, x_iNo, x_iRng1, x_iRng2, x_iRng3, x_iEnum, x_iZip, x_iRevd, x_aNil, x_aCons, x_dNil, x_dCons, x_sAsg, x_sAsgT, x_sPar, x_sSet, x_sAug, x_sAugS, x_sApp, x_sExt, x_sEx, x_sIte, x_sRet, x_sRetN, x_sBrk, x_sCont, x_sPass, x_sNo, x_sSeq, argsOf, argOf, locs, backs, nd0, nd1, store, put, frz, tgt, tgts, isOw, z_add, z_sub, z_xor, z_eq, z_ne, z_lt, z_le, z_gt, z_ge, z_dd, z_do, z_dl, z_tb, z_lenL, z_lenT, z_int, z_intB, z_abs, z_max, z_min, z_tupL, z_tupT, z_lstL, z_lstT, z_scr, ix0, ix1, ix2, ix3, ix4, ixn1, ixn2, ixn3, ixn4, decide_true, decide_false, if_true, if_false, Bool.false_eq_true, Bool.and_true, Bool.true_and, Bool.not_true, Bool.not_false, x_turnC, wipeE, back, x_sForB, x_forB, List.getD_cons_zero, List.getD_cons_succ, hE, d1, d2, o1, m2, h3]
theorem raised_ok (k : Nat) {b E : Nat} (hb : 1 ≤ b) (hE : E < 900000) (hX : b ^ E < 2 ^ 300000) (hb2 : b < 2 ^ 300000) : ∃ y z tl, run G.M G.P (k + 1) 6 [.fz (.int b), .fz (.int E)] = some (.d (.int ((b ^ E : Nat) : Int)), y :: z :: tl) := by
  obtain ⟨b', h⟩ := raise_loop E b 1 G.M (max b (b ^ E)) (show E < 1000000 by omega) hb (Nat.le_refl _) (by rw [Nat.one_mul]; exact Nat.le_max_right _ _) (by rw [Nat.max_def]; split <;> assumption) (fun _ => Nat.le_max_left _ _)
  rw [Nat.one_mul] at h
  refine ⟨.fz b', .fz (.int 0), [.fz (.int ((b ^ E : Nat) : Int))], ?_⟩
  show runD (run G.M G.P k) G.M ⟨"raised", 2, 3, b_raised⟩ [.fz (.int b), .fz (.int E)] = _
  refine runD_d [.fz (.int b), .fz (.int E), .un] rfl rfl ?_
  show evB _ _ b_raised _ = _
  simp only [b_raised, evB, evS, ev, evs, mkV, mkI]
  refine sSeq_nx (e1 := [.fz (.int b), .fz (.int E), .fz (.int 1)]) (by simp only [List.getElem?_cons_zero, List.getElem?_cons_succ, List.set_cons_zero, List.set_cons_succ, List.replicate_succ, List.replicate_zero, List.cons_append, List.nil_append, x_vCst, x_vNm, x_vBin, x_vNeg, x_vBits, x_vCmp, x_vCmp2, x_vAnd, x_vOr, x_vNot, x_vIte, x_vTup, x_vLst, x_vIx, x_vSlF, x_vSlT, x_vSl, x_vRev, x_vCall, x_vBlt, x_vBlt2, x_vPop, x_vPopAt, x_fYes, x_vFz, x_vNo, x_tOf, x_tAnd, x_tOr, x_tNot, x_iOf, x_iNo, x_iRng1, x_iRng2, x_iRng3, x_iEnum, x_iZip, x_iRevd, x_aNil, x_aCons, x_dNil, x_dCons, x_sAsg, x_sAsgT, x_sPar, x_sSet, x_sAug, x_sAugS, x_sApp, x_sExt, x_sEx, x_sIte, x_sRet, x_sRetN, x_sBrk, x_sCont, x_sPass, x_sNo, x_sSeq, argsOf, argOf, locs, backs, nd0, nd1, store, put, frz, tgt, tgts, isOw, z_add, z_sub, z_xor, z_eq, z_ne, z_lt, z_le, z_gt, z_ge, z_dd, z_do, z_dl, z_tb, z_lenL, z_lenT, z_int, z_intB, z_abs, z_max, z_min, z_tupL, z_tupT, z_lstL, z_lstT, z_scr, ix0, ix1, ix2, ix3, ix4, ixn1, ixn2, ixn3, ixn4, decide_true, decide_false, if_true, if_false, Bool.false_eq_true, Bool.and_true, Bool.true_and, Bool.not_true, Bool.not_false, x_turnC, wipeE, back, x_sForB, x_forB, List.getD_cons_zero, List.getD_cons_succ]) (sSeq_nx h (sSeq_rt ?_))
  simp only [List.getElem?_cons_zero, List.getElem?_cons_succ, List.set_cons_zero, List.set_cons_succ, List.replicate_succ, List.replicate_zero, List.cons_append, List.nil_append, x_vCst, x_vNm, x_vBin, x_vNeg, x_vBits, x_vCmp, x_vCmp2, x_vAnd, x_vOr, x_vNot, x_vIte, x_vTup, x_vLst, x_vIx, x_vSlF, x_vSlT, x_vSl, x_vRev, x_vCall, x_vBlt, x_vBlt2, x_vPop, x_vPopAt, x_fYes, x_vFz, x_vNo, x_tOf, x_tAnd, x_tOr, x_tNot, x_iOf, x_iNo, x_iRng1, x_iRng2, x_iRng3, x_iEnum, x_iZip, x_iRevd, x_aNil, x_aCons, x_dNil, x_dCons, x_sAsg, x_sAsgT, x_sPar, x_sSet, x_sAug, x_sAugS, x_sApp, x_sExt, x_sEx, x_sIte, x_sRet, x_sRetN, x_sBrk, x_sCont, x_sPass, x_sNo, x_sSeq, argsOf, argOf, locs, backs, nd0, nd1, store, put, frz, tgt, tgts, isOw, z_add, z_sub, z_xor, z_eq, z_ne, z_lt, z_le, z_gt, z_ge, z_dd, z_do, z_dl, z_tb, z_lenL, z_lenT, z_int, z_intB, z_abs, z_max, z_min, z_tupL, z_tupT, z_lstL, z_lstT, z_scr, ix0, ix1, ix2, ix3, ix4, ixn1, ixn2, ixn3, ixn4, decide_true, decide_false, if_true, if_false, Bool.false_eq_true, Bool.and_true, Bool.true_and, Bool.not_true, Bool.not_false, x_turnC, wipeE, back, x_sForB, x_forB, List.getD_cons_zero, List.getD_cons_succ]
end Lawk93
end

section
set_option maxHeartbeats 4000000
set_option exponentiation.threshold 500000
namespace Lawk93
open PySem De

def tryA (f : List Nat → Nat → Option (List Nat)) (r : List Nat) (n : Nat) : List Nat → Option (List Nat)
  | [] => none
  | o :: os => bif Nat.blt n (r.headD 0 + o) then tryA f r n os else match f ((r.headD 0 + o) :: r) n with
    | some x => some x
    | none => tryA f r n os
/-- the search, the chain turned -/
def fnd : Nat → List Nat → Nat → Option (List Nat)
  | 0, r, n => bif Nat.beq (r.headD 0) n then some r else none
  | m + 1, r, n => bif Nat.beq (r.headD 0) n then some r else bif Nat.blt (r.headD 0 * 2 ^ (m + 1)) n then none else tryA (fnd m) r n r
abbrev cl (r : List Nat) : List Dt := r.reverse.map fun (x : Nat) => PyData.int (x : Int)
def resD : Option (List Nat) → Dt
  | none => .none
  | some r => .tuple (cl r)
theorem cl_cons (a : Nat) (r : List Nat) : cl (a :: r) = cl r ++ [.int (a : Int)] := by
  unfold cl
  rw [List.reverse_cons, List.map_append]
  rfl
theorem cl_len (r : List Nat) : (cl r).length = r.length := by
  unfold cl
  rw [List.length_map, List.length_reverse]
theorem last_ix {xs : List Dt} {d : Dt} : ixD (xs ++ [d]) (-1) = some d := by
  unfold ixD L2.atI L2.ixN
  rw [if_neg (by decide), if_pos (by rw [List.length_append, List.length_singleton]; omega)]
  show (xs ++ [d])[(-1 + (((xs ++ [d]).length : Nat) : Int)).toNat]? = some d
  rw [show (-1 + (((xs ++ [d]).length : Nat) : Int)).toNat = xs.length by rw [List.length_append, List.length_singleton]; omega, List.getElem?_append_right (Nat.le_refl _), Nat.sub_self]
  rfl
theorem call3_of {c : List Sv → Option (Rv × En)} {a b d : FV} {e e1 e2 e3 : En} {x x2 x3 : Dt} {r : Rv} {y z w : Sv} {tl : En} (ha : a e = some (.d x, e1)) (hb : b e1 = some (.d x2, e2)) (hd : d e2 = some (.d x3, e3)) (hc : c [.fz x, .fz x2, .fz x3] = some (r, y :: z :: w :: tl)) : vCall c (aCons a (aCons b (aCons d aNil))) e = some (r, e3) := by
  simp only [List.getElem?_cons_zero, List.getElem?_cons_succ, List.set_cons_zero, List.set_cons_succ, List.replicate_succ, List.replicate_zero, List.cons_append, List.nil_append, x_vCst, x_vNm, x_vBin, x_vNeg, x_vBits, x_vCmp, x_vCmp2, x_vAnd, x_vOr, x_vNot, x_vIte, x_vTup, x_vLst, x_vIx, x_vSlF, x_vSlT, x_vSl, x_vRev, x_vCall, x_vBlt, x_vBlt2, x_vPop, x_vPopAt, x_fYes, x_vFz, x_vNo, x_tOf, x_tAnd, x_tOr, x_tNot, x_iOf, x_iNo, x_iRng1, x_iRng2, x_iRng3, x_iEnum, x_iZip, x_iRevd, x_aNil, x_aCons, x_dNil, x_dCons, x_sAsg, x_sAsgT, x_sPar, x_sSet, x_sAug, x_sAugS, x_sApp, x_sExt, x_sEx, x_sIte, x_sRet, x_sRetN, x_sBrk, x_sCont, x_sPass, x_sNo, x_sSeq, argsOf, argOf, locs, backs, nd0, nd1, store, put, frz, tgt, tgts, isOw, z_add, z_sub, z_xor, z_eq, z_ne, z_lt, z_le, z_gt, z_ge, z_dd, z_do, z_dl, z_tb, z_lenL, z_lenT, z_int, z_intB, z_abs, z_max, z_min, z_tupL, z_tupT, z_lstL, z_lstT, z_scr, ix0, ix1, ix2, ix3, ix4, ixn1, ixn2, ixn3, ixn4, decide_true, decide_false, if_true, if_false, Bool.false_eq_true, Bool.and_true, Bool.true_and, Bool.not_true, Bool.not_false, x_turnC, wipeE, back, x_sForB, x_forB, List.getD_cons_zero, List.getD_cons_succ, ha, hb, hd, hc]
theorem neg1 {e : En} : vNeg (vCst (.int 1)) e = some (.d (.int (-1)), e) := rfl
theorem tup1_of {a : FV} {e e1 : En} {x : Dt} (ha : a e = some (.d x, e1)) : vTup (dCons a dNil) e = some (.d (.tuple [x]), e1) := by
  have hs : small [x] = true := rfl
  simp only [List.getElem?_cons_zero, List.getElem?_cons_succ, List.set_cons_zero, List.set_cons_succ, List.replicate_succ, List.replicate_zero, List.cons_append, List.nil_append, x_vCst, x_vNm, x_vBin, x_vNeg, x_vBits, x_vCmp, x_vCmp2, x_vAnd, x_vOr, x_vNot, x_vIte, x_vTup, x_vLst, x_vIx, x_vSlF, x_vSlT, x_vSl, x_vRev, x_vCall, x_vBlt, x_vBlt2, x_vPop, x_vPopAt, x_fYes, x_vFz, x_vNo, x_tOf, x_tAnd, x_tOr, x_tNot, x_iOf, x_iNo, x_iRng1, x_iRng2, x_iRng3, x_iEnum, x_iZip, x_iRevd, x_aNil, x_aCons, x_dNil, x_dCons, x_sAsg, x_sAsgT, x_sPar, x_sSet, x_sAug, x_sAugS, x_sApp, x_sExt, x_sEx, x_sIte, x_sRet, x_sRetN, x_sBrk, x_sCont, x_sPass, x_sNo, x_sSeq, argsOf, argOf, locs, backs, nd0, nd1, store, put, frz, tgt, tgts, isOw, z_add, z_sub, z_xor, z_eq, z_ne, z_lt, z_le, z_gt, z_ge, z_dd, z_do, z_dl, z_tb, z_lenL, z_lenT, z_int, z_intB, z_abs, z_max, z_min, z_tupL, z_tupT, z_lstL, z_lstT, z_scr, ix0, ix1, ix2, ix3, ix4, ixn1, ixn2, ixn3, ixn4, decide_true, decide_false, if_true, if_false, Bool.false_eq_true, Bool.and_true, Bool.true_and, Bool.not_true, Bool.not_false, x_turnC, wipeE, back, x_sForB, x_forB, List.getD_cons_zero, List.getD_cons_succ, ha, hs]
section
variable {L : Nat} {a n most : Nat} {r : List Nat} {f : List Nat → Nat → Option (List Nat)}
theorem last_of {e : En} {ch : List Dt} {v : Int} (h : e[0]? = some (.fz (.tuple (ch ++ [.int v])))) : vIx (vNm 0) (vNeg (vCst (.int 1))) e = some (.d (.int v), e) := ix_of (nm_fz h) neg1 last_ix
/-- the tries -/
theorem try_ok (hr : r.headD 0 = a) (hcl : ∃ ch, cl r = ch ++ [.int (a : Int)]) (ha : a ≤ 1000) (hl : r.length ≤ 100)
    (hf : ∀ o : Nat, a + o ≤ n → ∃ y z w tl, run G.M G.P L 7 [.fz (.tuple (cl ((a + o) :: r))), .fz (.int n), .fz (.int most)] = some (.d (resD (f ((a + o) :: r) n)), y :: z :: w :: tl)) :
    ∀ (os : List Nat) (s3 s4 : Sv), (∀ ys, s3 ≠ Sv.ow true ys) → (∀ ys, s4 ≠ Sv.ow true ys) →
    (∀ x, tryA f r n os = some x → ∃ tl, forL (forB (.nm 3) (sSeq (sIte (tOf (vCmp .gt (vBin .add (vIx (vNm 0) (vNeg (vCst (.int 1)))) (vNm 3)) (vNm 1))) (sSeq sCont sPass) sPass) (sSeq (sAsg 4 (vCall ((run G.M G.P L) 7) (aCons (vBin .add (vNm 0) (vTup (dCons (vBin .add (vIx (vNm 0) (vNeg (vCst (.int 1)))) (vNm 3)) dNil))) (aCons (vNm 1) (aCons (vNm 2) aNil))))) (sSeq (sIte (tOf (vCmp .nisn (vNm 4) (vCst .none))) (sSeq (sRet (vNm 4)) sPass) sPass) sPass)))) (os.map fun (o : Nat) => PyData.int (o : Int)) [.fz (.tuple (cl r)), .fz (.int n), .fz (.int most), s3, s4] = some (.rt (.d (.tuple (cl x))) (.fz (.tuple (cl r)) :: .fz (.int n) :: .fz (.int most) :: tl))) ∧
    (tryA f r n os = none → ∃ s3' s4', forL (forB (.nm 3) (sSeq (sIte (tOf (vCmp .gt (vBin .add (vIx (vNm 0) (vNeg (vCst (.int 1)))) (vNm 3)) (vNm 1))) (sSeq sCont sPass) sPass) (sSeq (sAsg 4 (vCall ((run G.M G.P L) 7) (aCons (vBin .add (vNm 0) (vTup (dCons (vBin .add (vIx (vNm 0) (vNeg (vCst (.int 1)))) (vNm 3)) dNil))) (aCons (vNm 1) (aCons (vNm 2) aNil))))) (sSeq (sIte (tOf (vCmp .nisn (vNm 4) (vCst .none))) (sSeq (sRet (vNm 4)) sPass) sPass) sPass)))) (os.map fun (o : Nat) => PyData.int (o : Int)) [.fz (.tuple (cl r)), .fz (.int n), .fz (.int most), s3, s4] = some (.nx [.fz (.tuple (cl r)), .fz (.int n), .fz (.int most), s3', s4']))
  | [], s3, s4, _, _ => ⟨fun x h => by simp [tryA] at h, fun _ => ⟨s3, s4, rfl⟩⟩
  | o :: os, s3, s4, h3, h4 => by
    obtain ⟨ch, hch⟩ := hcl
    have np : ∀ s4 : Sv, (∀ ys, s4 ≠ Sv.ow true ys) → ∀ (i : Nat) (ys : List Dt), ([.fz (.tuple (cl r)), .fz (.int n), .fz (.int most), s3, s4] : En)[i]? ≠ some (.ow true ys) := fun s4 h4 i ys z => by
      match i, z with
      | 0, z => cases z
      | 1, z => cases z
      | 2, z => cases z
      | 3, z => exact h3 ys (Option.some.inj z)
      | 4, z => exact h4 ys (Option.some.inj z)
      | i + 5, z => simp at z
    have np2 : ∀ (i : Nat) (ys : List Dt), ([.fz (.tuple (cl r)), .fz (.int n), .fz (.int most), .fz (.int (o : Int)), s4] : En)[i]? ≠ some (.ow true ys) := fun i ys z => by
      match i, z with
      | 0, z => cases z
      | 1, z => cases z
      | 2, z => cases z
      | 3, z => cases z
      | 4, z => exact h4 ys (Option.some.inj z)
      | i + 5, z => simp at z
    have hp : tgt (.nm 3) (.int (o : Int)) [.fz (.tuple (cl r)), .fz (.int n), .fz (.int most), s3, s4] = some [.fz (.tuple (cl r)), .fz (.int n), .fz (.int most), .fz (.int (o : Int)), s4] := put_of (np s4 h4) (by show 3 < 5; decide)
    have g0 : ([.fz (.tuple (cl r)), .fz (.int n), .fz (.int most), .fz (.int (o : Int)), s4] : En)[0]? = some (.fz (.tuple (ch ++ [.int (a : Int)]))) := by rw [← hch]; rfl
    have hl1 := last_of g0
    have hsum := add_of hl1 (nm_fz (e := [.fz (.tuple (cl r)), .fz (.int n), .fz (.int most), .fz (.int (o : Int)), s4]) (i := 3) rfl)
    have hn : vNm 1 [.fz (.tuple (cl r)), .fz (.int n), .fz (.int most), .fz (.int (o : Int)), s4] = some (.d (.int (n : Int)), [.fz (.tuple (cl r)), .fz (.int n), .fz (.int most), .fz (.int (o : Int)), s4]) := rfl
    have tg : tryA f r n (o :: os) = (bif Nat.blt n (a + o) then tryA f r n os else match f ((a + o) :: r) n with
      | some x => some x
      | none => tryA f r n os) := by
      rw [← hr]
      rfl
    by_cases c : n < a + o
    · have e1 : Nat.blt n (a + o) = true := Nat.ble_eq_true_of_le c
      rw [e1] at tg
      have st : forB (.nm 3) (sSeq (sIte (tOf (vCmp .gt (vBin .add (vIx (vNm 0) (vNeg (vCst (.int 1)))) (vNm 3)) (vNm 1))) (sSeq sCont sPass) sPass) (sSeq (sAsg 4 (vCall ((run G.M G.P L) 7) (aCons (vBin .add (vNm 0) (vTup (dCons (vBin .add (vIx (vNm 0) (vNeg (vCst (.int 1)))) (vNm 3)) dNil))) (aCons (vNm 1) (aCons (vNm 2) aNil))))) (sSeq (sIte (tOf (vCmp .nisn (vNm 4) (vCst .none))) (sSeq (sRet (vNm 4)) sPass) sPass) sPass))) (.int (o : Int)) [.fz (.tuple (cl r)), .fz (.int n), .fz (.int most), s3, s4] = some (.ct [.fz (.tuple (cl r)), .fz (.int n), .fz (.int most), .fz (.int (o : Int)), s4]) := by
        rw [x_forB, hp]
        show sSeq _ _ _ = _
        unfold sSeq
        rw [sIte_t (tcmp_of hsum hn (by rw [z_gt, decide_eq_true (show (n : Int) < (a : Int) + (o : Int) by omega)])) (r := some (.ct [.fz (.tuple (cl r)), .fz (.int n), .fz (.int most), .fz (.int (o : Int)), s4])) rfl]
      obtain ⟨ih1, ih2⟩ := try_ok hr ⟨ch, hch⟩ ha hl hf os (.fz (.int (o : Int))) s4 (fun _ z => nomatch z) h4
      rw [tg]
      refine ⟨fun x hx => ?_, fun hx => ?_⟩
      · obtain ⟨tl, h⟩ := ih1 x hx
        refine ⟨tl, ?_⟩
        rw [List.map_cons, forL, st]
        exact h
      · obtain ⟨u, v, h⟩ := ih2 hx
        refine ⟨u, v, ?_⟩
        rw [List.map_cons, forL, st]
        exact h
    · have e1 : Nat.blt n (a + o) = false := by
        cases h : Nat.blt n (a + o) with
        | false => rfl
        | true => exact absurd (Nat.le_of_ble_eq_true h) c
      rw [e1] at tg
      obtain ⟨y, z, w, tl, hrun⟩ := hf o (by omega)
      rw [cl_cons] at hrun
      have hcat := cat_of (nm_fz (e := [.fz (.tuple (cl r)), .fz (.int n), .fz (.int most), .fz (.int (o : Int)), s4]) (i := 0) rfl) (tup1_of hsum) (by rw [cl_len]; simp; omega)
      rw [show (a : Int) + (o : Int) = ((a + o : Nat) : Int) by omega] at hcat
      have hcall := call3_of hcat hn (nm_fz (e := [.fz (.tuple (cl r)), .fz (.int n), .fz (.int most), .fz (.int (o : Int)), s4]) (i := 2) rfl) hrun
      have hasg : sAsg 4 _ _ = _ := asg_d hcall np2 (by show 4 < 5; decide)
      have st : ∀ fl, sIte (tOf (vCmp .nisn (vNm 4) (vCst .none))) (sSeq (sRet (vNm 4)) sPass) sPass [.fz (.tuple (cl r)), .fz (.int n), .fz (.int most), .fz (.int (o : Int)), .fz (resD (f ((a + o) :: r) n))] = some fl → (fl = .nx [.fz (.tuple (cl r)), .fz (.int n), .fz (.int most), .fz (.int (o : Int)), .fz (resD (f ((a + o) :: r) n))] ∨ ∃ q, fl = .rt q [.fz (.tuple (cl r)), .fz (.int n), .fz (.int most), .fz (.int (o : Int)), .fz (resD (f ((a + o) :: r) n))]) →
          forB (.nm 3) (sSeq (sIte (tOf (vCmp .gt (vBin .add (vIx (vNm 0) (vNeg (vCst (.int 1)))) (vNm 3)) (vNm 1))) (sSeq sCont sPass) sPass) (sSeq (sAsg 4 (vCall ((run G.M G.P L) 7) (aCons (vBin .add (vNm 0) (vTup (dCons (vBin .add (vIx (vNm 0) (vNeg (vCst (.int 1)))) (vNm 3)) dNil))) (aCons (vNm 1) (aCons (vNm 2) aNil))))) (sSeq (sIte (tOf (vCmp .nisn (vNm 4) (vCst .none))) (sSeq (sRet (vNm 4)) sPass) sPass) sPass))) (.int (o : Int)) [.fz (.tuple (cl r)), .fz (.int n), .fz (.int most), s3, s4] = some fl := fun fl h hfl => by
        rw [x_forB, hp]
        refine sSeq_nx (sIte_f (tcmp_of hsum hn (by rw [z_gt, decide_eq_false (show ¬ (n : Int) < (a : Int) + (o : Int) by omega)])) rfl) (sSeq_nx hasg ?_)
        rcases hfl with rfl | ⟨q, rfl⟩
        · exact sSeq_nx h rfl
        · exact sSeq_rt h
      cases hres : f ((a + o) :: r) n with
      | some x =>
        rw [hres] at tg st
        refine ⟨fun x' hx => ?_, fun hx => by rw [tg] at hx; cases hx⟩
        rw [tg] at hx
        cases hx
        refine ⟨[.fz (.int (o : Int)), .fz (resD (some x))], ?_⟩
        rw [List.map_cons, forL, st (.rt (.d (.tuple (cl x))) [.fz (.tuple (cl r)), .fz (.int n), .fz (.int most), .fz (.int (o : Int)), .fz (resD (some x))]) rfl (.inr ⟨_, rfl⟩)]
      | none =>
        rw [hres] at tg st
        have st' := st (.nx [.fz (.tuple (cl r)), .fz (.int n), .fz (.int most), .fz (.int (o : Int)), .fz (resD none)]) rfl (.inl rfl)
        obtain ⟨ih1, ih2⟩ := try_ok hr ⟨ch, hch⟩ ha hl hf os (.fz (.int (o : Int))) (.fz (resD none)) (fun _ z => nomatch z) (fun _ z => nomatch z)
        rw [tg]
        refine ⟨fun x hx => ?_, fun hx => ?_⟩
        · obtain ⟨tl, h⟩ := ih1 x hx
          refine ⟨tl, ?_⟩
          rw [List.map_cons, forL, st']
          exact h
        · obtain ⟨u, v, h⟩ := ih2 hx
          refine ⟨u, v, ?_⟩
          rw [List.map_cons, forL, st']
          exact h
end
theorem tor_t {a b : FT} {e e1 : En} (ha : a e = some (true, e1)) : tOr a b e = some (true, e1) := by
  rw [x_tOr, ha]
theorem cl_split {r : List Nat} (hr : r ≠ []) : ∃ ch, cl r = ch ++ [.int ((r.headD 0 : Nat) : Int)] := by
  cases r with
  | nil => exact absurd rfl hr
  | cons a r => exact ⟨cl r, cl_cons a r⟩
theorem cl_rev (r : List Nat) : (cl r).reverse = r.map fun (x : Nat) => PyData.int (x : Int) := by
  unfold cl
  rw [← List.map_reverse, List.reverse_reverse]
theorem beq_dec (a n : Nat) : Nat.beq a n = decide ((a : Int) = (n : Int)) := by
  cases h : Nat.beq a n with
  | true => exact (decide_eq_true (by have := Nat.eq_of_beq_eq_true h; omega)).symm
  | false => exact (decide_eq_false (by have := Nat.ne_of_beq_eq_false h; omega)).symm
theorem blt_dec (a n : Nat) : Nat.blt a n = decide ((a : Int) < (n : Int)) := by
  cases h : Nat.blt a n with
  | true => exact (decide_eq_true (by have := Nat.le_of_ble_eq_true h; omega)).symm
  | false =>
    refine (decide_eq_false fun w => ?_).symm
    have : Nat.blt a n = true := Nat.ble_eq_true_of_le (show a + 1 ≤ n by omega)
    rw [h] at this
    cases this
theorem found_ok (k : Nat) {n : Nat} (hn : n ≤ 1000) : ∀ (m : Nat) (r : List Nat), m ≤ 50 → r ≠ [] → r.headD 0 ≤ 1000 → r.length + m ≤ 90 →
    ∃ y z w tl, run G.M G.P (k + m + 2) 7 [.fz (.tuple (cl r)), .fz (.int n), .fz (.int ((r.length + m : Nat) : Int))] = some (.d (resD (fnd m r n)), y :: z :: w :: tl) := by
  intro m
  induction m with
  | zero =>
    intro r hm hr ha hl
    obtain ⟨ch, hch⟩ := cl_split hr
    refine ⟨.fz (.tuple (cl r)), .fz (.int n), .fz (.int ((r.length + 0 : Nat) : Int)), [.un, .un], ?_⟩
    show runD (run G.M G.P (k + 1)) G.M ⟨"_found", 3, 5, b__found⟩ [.fz (.tuple (cl r)), .fz (.int n), .fz (.int ((r.length + 0 : Nat) : Int))] = _
    have g0 : ([.fz (.tuple (cl r)), .fz (.int n), .fz (.int ((r.length + 0 : Nat) : Int)), .un, .un] : En)[0]? = some (.fz (.tuple (ch ++ [.int ((r.headD 0 : Nat) : Int)]))) := by rw [← hch]; rfl
    have h1 := tcmp_of (last_of g0) (nm_fz (e := [.fz (.tuple (cl r)), .fz (.int n), .fz (.int ((r.length + 0 : Nat) : Int)), .un, .un]) (i := 1) rfl) (z_eq)
    rw [← beq_dec] at h1
    refine runD_d [.fz (.tuple (cl r)), .fz (.int n), .fz (.int ((r.length + 0 : Nat) : Int)), .un, .un] rfl rfl ?_
    show evB _ _ b__found _ = _
    simp only [b__found, evB, evS, ev, evs, mkV, mkI]
    unfold fnd
    cases hb : Nat.beq (r.headD 0) n with
    | true =>
      rw [hb] at h1
      exact sSeq_rt (sIte_t h1 rfl)
    | false =>
      rw [hb] at h1
      refine sSeq_nx (sIte_f h1 rfl) (sSeq_rt (sIte_t (tor_t (tcmp_of (lenT_of (nm_fz (i := 0) rfl)) (nm_fz (i := 2) rfl) ?_)) rfl))
      rw [z_eq, cl_len, decide_eq_true (by omega)]
  | succ m ih =>
    intro r hm hr ha hl
    obtain ⟨ch, hch⟩ := cl_split hr
    have g0 : ([.fz (.tuple (cl r)), .fz (.int n), .fz (.int ((r.length + (m + 1) : Nat) : Int)), .un, .un] : En)[0]? = some (.fz (.tuple (ch ++ [.int ((r.headD 0 : Nat) : Int)]))) := by rw [← hch]; rfl
    have h1 := tcmp_of (last_of g0) (nm_fz (e := [.fz (.tuple (cl r)), .fz (.int n), .fz (.int ((r.length + (m + 1) : Nat) : Int)), .un, .un]) (i := 1) rfl) (z_eq)
    rw [← beq_dec] at h1
    have hlt := @try_ok (k + m + 2) (r.headD 0) n (r.length + (m + 1)) r (fnd m) rfl ⟨ch, hch⟩ ha (by omega) (fun o ho => by
      obtain ⟨y, z, w, tl, h⟩ := ih ((r.headD 0 + o) :: r) (by omega) (by simp) (by show r.headD 0 + o ≤ 1000; omega) (by rw [List.length_cons]; omega)
      rw [List.length_cons, show r.length + 1 + m = r.length + (m + 1) by omega] at h
      exact ⟨y, z, w, tl, h⟩) r .un .un (fun _ z => nomatch z) (fun _ z => nomatch z)
    suffices hs : ∃ tl, evB (run G.M G.P (k + m + 2)) G.M b__found [.fz (.tuple (cl r)), .fz (.int n), .fz (.int ((r.length + (m + 1) : Nat) : Int)), .un, .un] = some (.rt (.d (resD (fnd (m + 1) r n))) (.fz (.tuple (cl r)) :: .fz (.int n) :: .fz (.int ((r.length + (m + 1) : Nat) : Int)) :: tl)) by
      obtain ⟨tl, hs⟩ := hs
      exact ⟨_, _, _, tl, by
        show runD (run G.M G.P (k + m + 2)) G.M ⟨"_found", 3, 5, b__found⟩ [.fz (.tuple (cl r)), .fz (.int n), .fz (.int ((r.length + (m + 1) : Nat) : Int))] = _
        exact runD_d [.fz (.tuple (cl r)), .fz (.int n), .fz (.int ((r.length + (m + 1) : Nat) : Int)), .un, .un] rfl rfl hs⟩
    simp only [b__found, evB, evS, ev, evs, mkV, mkI]
    rw [fnd]
    cases hb : Nat.beq (r.headD 0) n with
    | true =>
      rw [hb] at h1
      exact ⟨_, sSeq_rt (sIte_t h1 rfl)⟩
    | false =>
      rw [hb] at h1
      have hsm : 2 ^ (m + 1) ≤ 2 ^ 51 := Nat.pow_le_pow_right (by decide) (by omega)
      have h2a : tOf (vCmp .eq (vBlt .len (vNm 0)) (vNm 2)) [.fz (.tuple (cl r)), .fz (.int n), .fz (.int ((r.length + (m + 1) : Nat) : Int)), .un, .un] = some (false, _) := tcmp_of (lenT_of (nm_fz (i := 0) rfl)) (nm_fz (i := 2) rfl) (by rw [z_eq, cl_len, decide_eq_false (by omega)])
      obtain ⟨y, z, tl, hra⟩ := raised_ok (k + m + 1) (b := 2) (E := m + 1) (by decide) (by omega) (Nat.lt_of_le_of_lt hsm (Nat.pow_lt_pow_right (by decide) (by decide))) (Nat.lt_of_le_of_lt (show 2 ≤ 2 ^ 1 by decide) (Nat.pow_lt_pow_right (by decide) (by decide)))
      have hd : vBin .sub (vNm 2) (vBlt .len (vNm 0)) [.fz (.tuple (cl r)), .fz (.int n), .fz (.int ((r.length + (m + 1) : Nat) : Int)), .un, .un] = some (.d (.int ((m + 1 : Nat) : Int)), [.fz (.tuple (cl r)), .fz (.int n), .fz (.int ((r.length + (m + 1) : Nat) : Int)), .un, .un]) := by
        rw [sub_of (nm_fz (i := 2) rfl) (lenT_of (nm_fz (i := 0) rfl)), cl_len]
        congr 4
        omega
      have h2b : vCall (run G.M G.P (k + m + 2) 6) (aCons (vCst (.int 2)) (aCons (vBin .sub (vNm 2) (vBlt .len (vNm 0))) aNil)) [.fz (.tuple (cl r)), .fz (.int n), .fz (.int ((r.length + (m + 1) : Nat) : Int)), .un, .un] = some (.d (.int ((2 ^ (m + 1) : Nat) : Int)), [.fz (.tuple (cl r)), .fz (.int n), .fz (.int ((r.length + (m + 1) : Nat) : Int)), .un, .un]) := call2_of (x := .int 2) rfl hd hra
      have h2c := tcmp_of (mul_of (last_of g0) h2b (mul_ok (by rw [Int.natAbs_natCast]; exact Nat.lt_of_le_of_lt ha (Nat.lt_of_lt_of_le (show 1000 < 2 ^ 10 by decide) (Nat.pow_le_pow_right (by decide) (by decide)))) (by rw [Int.natAbs_natCast]; exact Nat.lt_of_le_of_lt hsm (Nat.pow_lt_pow_right (by decide) (by decide))))) (nm_fz (i := 1) rfl) z_lt
      rw [← Int.natCast_mul, ← blt_dec] at h2c
      have h2 := tor_f h2a h2c
      cases hc : Nat.blt (r.headD 0 * 2 ^ (m + 1)) n with
      | true =>
        rw [hc] at h2
        exact ⟨_, sSeq_nx (sIte_f h1 rfl) (sSeq_rt (sIte_t h2 rfl))⟩
      | false =>
        rw [hc] at h2
        have hit : iRevd (vNm 0) [.fz (.tuple (cl r)), .fz (.int n), .fz (.int ((r.length + (m + 1) : Nat) : Int)), .un, .un] = some (r.map fun (x : Nat) => PyData.int (x : Int), [.fz (.tuple (cl r)), .fz (.int n), .fz (.int ((r.length + (m + 1) : Nat) : Int)), .un, .un]) := by
          rw [← cl_rev]
          rfl
        show ∃ tl, _ = some (Fl.rt (.d (resD (tryA (fnd m) r n r))) _)
        cases ht : tryA (fnd m) r n r with
        | some x =>
          obtain ⟨tl, h⟩ := hlt.1 x ht
          exact ⟨tl, sSeq_nx (sIte_f h1 rfl) (sSeq_nx (sIte_f h2 rfl) (sSeq_rt (sFor_of hit h)))⟩
        | none =>
          obtain ⟨s3, s4, h⟩ := hlt.2 ht
          exact ⟨_, sSeq_nx (sIte_f h1 rfl) (sSeq_nx (sIte_f h2 rfl) (sSeq_nx (sFor_of hit h) (sSeq_rt rfl)))⟩
end Lawk93
end

section
set_option maxHeartbeats 4000000
set_option exponentiation.threshold 500000
namespace Lawk93
open PySem De

/-- the first limit at which the search finds -/
def sch (n : Nat) : Nat → Nat → Option (List Nat)
  | 0, _ => none
  | f + 1, m => match fnd m [1] n with
    | some x => some x
    | none => sch n f (m + 1)
def bl (n : Nat) : Nat := n.log2 + 1
/-- the short chain of n, turned -/
def shr (n : Nat) : List Nat := match sch n 9 n.log2 with
  | some x => x
  | none => []
section
variable {L : Nat}
theorem short_loop {n : Nat} (hn : n ≤ 1000) : ∀ (f m M : Nat) (x : List Nat), sch n f m = some x → f < M → m + f ≤ 30 → 40 ≤ L → ∃ q, whL (tOf (vCmp .isn (vNm 2) (vCst .none))) (sSeq (sAsg 2 (vCall ((run G.M G.P L) 7) (aCons (vTup (dCons (vCst (.int 1)) dNil)) (aCons (vNm 0) (aCons (vNm 1) aNil))))) (sSeq (sAug 1 .add (vCst (.int 1))) sPass)) M [.fz (.int n), .fz (.int ((1 + m : Nat) : Int)), .fz .none] = some (.nx [.fz (.int n), q, .fz (.tuple (cl x))])
  | 0, m, M, x, h, _, _, _ => by cases h
  | f + 1, m, 0, x, h, hM, _, _ => by omega
  | f + 1, m, M + 1, x, h, hM, hf, hL => by
    obtain ⟨y, z, w, tl, hr⟩ := found_ok (L - m - 2) hn m [1] (by omega) (by simp) (by decide) (by show 1 + m ≤ 90; omega)
    rw [show L - m - 2 + m + 2 = L by omega] at hr
    have hc : (tOf (vCmp .isn (vNm 2) (vCst .none))) [.fz (.int n), .fz (.int ((1 + m : Nat) : Int)), .fz .none] = some (true, [.fz (.int n), .fz (.int ((1 + m : Nat) : Int)), .fz .none]) := rfl
    have hcall : vCall (run G.M G.P L 7) (aCons (vTup (dCons (vCst (.int 1)) dNil)) (aCons (vNm 0) (aCons (vNm 1) aNil))) [.fz (.int n), .fz (.int ((1 + m : Nat) : Int)), .fz .none] = some (.d (resD (fnd m [1] n)), [.fz (.int n), .fz (.int ((1 + m : Nat) : Int)), .fz .none]) := call3_of (x := .tuple [.int 1]) rfl rfl rfl hr
    have hasg : sAsg 2 _ _ = _ := asg_d hcall (fun i ys z => by
      match i, z with
      | 0, z => cases z
      | 1, z => cases z
      | 2, z => cases z
      | i + 3, z => simp at z) (by show 2 < 3; decide)
    have hb : (sSeq (sAsg 2 (vCall ((run G.M G.P L) 7) (aCons (vTup (dCons (vCst (.int 1)) dNil)) (aCons (vNm 0) (aCons (vNm 1) aNil))))) (sSeq (sAug 1 .add (vCst (.int 1))) sPass)) [.fz (.int n), .fz (.int ((1 + m : Nat) : Int)), .fz .none] = some (.nx [.fz (.int n), .fz (.int ((1 + (m + 1) : Nat) : Int)), .fz (resD (fnd m [1] n))]) := by
      refine sSeq_nx hasg ?_
      show sSeq (sAug 1 .add (vCst (.int 1))) sPass [.fz (.int n), .fz (.int ((1 + m : Nat) : Int)), .fz (resD (fnd m [1] n))] = _
      have : (((1 + m : Nat) : Int)) + 1 = ((1 + (m + 1) : Nat) : Int) := by omega
      rw [← this]
      rfl
    rw [whL, hc]
    simp only [hb]
    rw [sch] at h
    cases hfd : fnd m [1] n with
    | some x' =>
      rw [hfd] at h
      cases h
      refine ⟨.fz (.int ((1 + (m + 1) : Nat) : Int)), ?_⟩
      cases M with
      | zero => omega
      | succ M => rfl
    | none =>
      rw [hfd] at h
      obtain ⟨q, ih⟩ := short_loop hn f (m + 1) M x h (by omega) (by omega) hL
      exact ⟨q, ih⟩
end
theorem bits_of (n : Nat) (h : 1 ≤ n) : Builtin.Int.intBits (n : Int) = 1 + n.log2 := by
  unfold Builtin.Int.intBits
  rw [if_neg (by simp; omega), Int.natAbs_natCast, Nat.add_comm]
abbrev adg (n : Nat) (c : List Dt) : Dt := .tuple [.str "adding", .int (n : Int), .tuple c]
theorem short_ok (k : Nat) {n : Nat} (h1 : 1 ≤ n) (h2 : n ≤ 100) {x : List Nat} (h : sch n 9 n.log2 = some x) : ∃ tl, run G.M G.P (k + 41) 8 [.fz (.int (n : Int))] = some (.d (adg n (cl x)), .fz (.int (n : Int)) :: tl) := by
  have hlog : n.log2 ≤ 10 := by
    have := (Nat.log2_lt (n := n) (k := 10) (by omega)).2 (by omega)
    omega
  obtain ⟨q, hl⟩ := @short_loop (k + 40) n (by omega) 9 n.log2 G.M x h (by decide) (by omega) (by omega)
  refine ⟨[q, .fz (.tuple (cl x))], ?_⟩
  show runD (run G.M G.P (k + 40)) G.M ⟨"short_chain", 1, 3, b_short_chain⟩ [.fz (.int n)] = _
  refine runD_d [.fz (.int n), .un, .un] rfl rfl ?_
  show evB _ _ b_short_chain _ = _
  simp only [b_short_chain, evB, evS, ev, evs, mkV, mkI]
  refine sSeq_nx (sIte_f (tcmp_of (nm_fz (i := 0) rfl) rfl (by rw [z_lt, decide_eq_false (by omega)])) rfl) ?_
  refine sSeq_nx (sIte_f (tcmp_of (nm_fz (i := 0) rfl) rfl (by rw [z_gt, decide_eq_false (by omega)])) rfl) ?_
  refine sSeq_nx (e1 := [.fz (.int n), .fz (.int ((1 + n.log2 : Nat) : Int)), .un]) ?_ ?_
  · rw [← bits_of n h1]
    rfl
  refine sSeq_nx (e1 := [.fz (.int n), .fz (.int ((1 + n.log2 : Nat) : Int)), .fz .none]) rfl ?_
  refine sSeq_nx hl (sSeq_rt ?_)
  rfl
theorem tab0 : (List.range 101).all (fun n => Nat.beq n 0 || (sch n 9 n.log2).isSome) = true := by decide +kernel
end Lawk93
end

section
set_option maxHeartbeats 4000000
set_option exponentiation.threshold 500000
namespace Lawk93
open PySem De

abbrev nl (xs : List Nat) : List Dt := xs.map fun (x : Nat) => PyData.int (x : Int)
theorem nl_get {xs : List Nat} {k : Nat} (h : k < xs.length) : (nl xs)[k]? = some (.int ((xs.getD k 0 : Nat) : Int)) := by
  unfold nl
  rw [List.getElem?_map, List.getD_eq_getElem?_getD, List.getElem?_eq_getElem h]
  rfl
theorem nl_ix {xs : List Nat} {k : Nat} (h : k < xs.length) : ixD (nl xs) (k : Int) = some (.int ((xs.getD k 0 : Nat) : Int)) := by
  unfold ixD L2.atI L2.ixN
  rw [if_pos (by omega), if_pos (by rw [List.length_map]; omega)]
  show (nl xs)[(k : Int).toNat]? = _
  rw [Int.toNat_natCast, nl_get h]
theorem slT_of {a b : FV} {e e1 e2 : En} {x : List Dt} {k : Nat} (ha : a e = some (.d (.tuple x), e1)) (hb : b e1 = some (.d (.int (k : Int)), e2)) : vSlT a b e = some (.d (.tuple (x.take k)), e2) := by
  have hc : cut x none (some (k : Int)) = x.take k := by
    unfold cut
    rw [HT.sIx_none, HT.sIx_nat, List.drop_zero, Nat.sub_zero]
    by_cases c : k ≤ x.length
    · rw [Nat.min_eq_left c]
    · rw [Nat.min_eq_right (by omega), List.take_length, List.take_of_length_le (by omega)]
  rw [x_vSlT, ha]
  simp only [hb, deref, slice, hc]
theorem bools_map : ∀ bs : List Bool, boolsOf (bs.map PyData.bool) = some bs
  | [] => rfl
  | b :: bs => by
    show (match boolsOf (bs.map PyData.bool) with
      | some l => some (b :: l)
      | none => none) = _
    rw [bools_map bs]
theorem any_of {a : FV} {e e1 : En} {bs : List Bool} (ha : a e = some (.own (bs.map PyData.bool), e1)) : vBlt .any a e = some (.d (.bool (bs.any id)), e1) := by
  have h : blt .any [.list (bs.map PyData.bool)] = some (.d (.bool (bs.any id))) := by
    show (match boolsOf (bs.map PyData.bool) with
      | some bs => some (Rv.d (.bool (bs.any id)))
      | none => none) = _
    rw [bools_map]
  simp only [List.getElem?_cons_zero, List.getElem?_cons_succ, List.set_cons_zero, List.set_cons_succ, List.replicate_succ, List.replicate_zero, List.cons_append, List.nil_append, x_vCst, x_vNm, x_vBin, x_vNeg, x_vBits, x_vCmp, x_vCmp2, x_vAnd, x_vOr, x_vNot, x_vIte, x_vTup, x_vLst, x_vIx, x_vSlF, x_vSlT, x_vSl, x_vRev, x_vCall, x_vBlt, x_vBlt2, x_vPop, x_vPopAt, x_fYes, x_vFz, x_vNo, x_tOf, x_tAnd, x_tOr, x_tNot, x_iOf, x_iNo, x_iRng1, x_iRng2, x_iRng3, x_iEnum, x_iZip, x_iRevd, x_aNil, x_aCons, x_dNil, x_dCons, x_sAsg, x_sAsgT, x_sPar, x_sSet, x_sAug, x_sAugS, x_sApp, x_sExt, x_sEx, x_sIte, x_sRet, x_sRetN, x_sBrk, x_sCont, x_sPass, x_sNo, x_sSeq, argsOf, argOf, locs, backs, nd0, nd1, store, put, frz, tgt, tgts, isOw, z_add, z_sub, z_xor, z_eq, z_ne, z_lt, z_le, z_gt, z_ge, z_dd, z_do, z_dl, z_tb, z_lenL, z_lenT, z_int, z_intB, z_abs, z_max, z_min, z_tupL, z_tupT, z_lstL, z_lstT, z_scr, ix0, ix1, ix2, ix3, ix4, ixn1, ixn2, ixn3, ixn4, decide_true, decide_false, if_true, if_false, Bool.false_eq_true, Bool.and_true, Bool.true_and, Bool.not_true, Bool.not_false, x_turnC, wipeE, back, x_sForB, x_forB, List.getD_cons_zero, List.getD_cons_succ, ha, h]
theorem tof_b {a : FV} {e e1 : En} {b : Bool} (ha : a e = some (.d (.bool b), e1)) : tOf a e = some (b, e1) := by
  simp only [List.getElem?_cons_zero, List.getElem?_cons_succ, List.set_cons_zero, List.set_cons_succ, List.replicate_succ, List.replicate_zero, List.cons_append, List.nil_append, x_vCst, x_vNm, x_vBin, x_vNeg, x_vBits, x_vCmp, x_vCmp2, x_vAnd, x_vOr, x_vNot, x_vIte, x_vTup, x_vLst, x_vIx, x_vSlF, x_vSlT, x_vSl, x_vRev, x_vCall, x_vBlt, x_vBlt2, x_vPop, x_vPopAt, x_fYes, x_vFz, x_vNo, x_tOf, x_tAnd, x_tOr, x_tNot, x_iOf, x_iNo, x_iRng1, x_iRng2, x_iRng3, x_iEnum, x_iZip, x_iRevd, x_aNil, x_aCons, x_dNil, x_dCons, x_sAsg, x_sAsgT, x_sPar, x_sSet, x_sAug, x_sAugS, x_sApp, x_sExt, x_sEx, x_sIte, x_sRet, x_sRetN, x_sBrk, x_sCont, x_sPass, x_sNo, x_sSeq, argsOf, argOf, locs, backs, nd0, nd1, store, put, frz, tgt, tgts, isOw, z_add, z_sub, z_xor, z_eq, z_ne, z_lt, z_le, z_gt, z_ge, z_dd, z_do, z_dl, z_tb, z_lenL, z_lenT, z_int, z_intB, z_abs, z_max, z_min, z_tupL, z_tupT, z_lstL, z_lstT, z_scr, ix0, ix1, ix2, ix3, ix4, ixn1, ixn2, ixn3, ixn4, decide_true, decide_false, if_true, if_false, Bool.false_eq_true, Bool.and_true, Bool.true_and, Bool.not_true, Bool.not_false, x_turnC, wipeE, back, x_sForB, x_forB, List.getD_cons_zero, List.getD_cons_succ, ha]
theorem tnot_of {a : FT} {e e1 : En} {b : Bool} (ha : a e = some (b, e1)) : tNot a e = some (!b, e1) := by
  simp only [List.getElem?_cons_zero, List.getElem?_cons_succ, List.set_cons_zero, List.set_cons_succ, List.replicate_succ, List.replicate_zero, List.cons_append, List.nil_append, x_vCst, x_vNm, x_vBin, x_vNeg, x_vBits, x_vCmp, x_vCmp2, x_vAnd, x_vOr, x_vNot, x_vIte, x_vTup, x_vLst, x_vIx, x_vSlF, x_vSlT, x_vSl, x_vRev, x_vCall, x_vBlt, x_vBlt2, x_vPop, x_vPopAt, x_fYes, x_vFz, x_vNo, x_tOf, x_tAnd, x_tOr, x_tNot, x_iOf, x_iNo, x_iRng1, x_iRng2, x_iRng3, x_iEnum, x_iZip, x_iRevd, x_aNil, x_aCons, x_dNil, x_dCons, x_sAsg, x_sAsgT, x_sPar, x_sSet, x_sAug, x_sAugS, x_sApp, x_sExt, x_sEx, x_sIte, x_sRet, x_sRetN, x_sBrk, x_sCont, x_sPass, x_sNo, x_sSeq, argsOf, argOf, locs, backs, nd0, nd1, store, put, frz, tgt, tgts, isOw, z_add, z_sub, z_xor, z_eq, z_ne, z_lt, z_le, z_gt, z_ge, z_dd, z_do, z_dl, z_tb, z_lenL, z_lenT, z_int, z_intB, z_abs, z_max, z_min, z_tupL, z_tupT, z_lstL, z_lstT, z_scr, ix0, ix1, ix2, ix3, ix4, ixn1, ixn2, ixn3, ixn4, decide_true, decide_false, if_true, if_false, Bool.false_eq_true, Bool.and_true, Bool.true_and, Bool.not_true, Bool.not_false, x_turnC, wipeE, back, x_sForB, x_forB, List.getD_cons_zero, List.getD_cons_succ, ha]
theorem mem_nl (v : Int) (xs : List Nat) : cop .mem (.int v) (.tuple (nl xs)) = some (xs.any fun z => decide ((z : Int) = v)) := by
  have h1 : (nl xs).all (fun z => match z with | .int _ => true | _ => false) = true := by
    unfold nl
    rw [List.all_map]
    exact List.all_eq_true.2 fun _ _ => rfl
  show (if (nl xs).all (fun z => match z with | .int _ => true | _ => false) then some ((nl xs).any fun z => match z with | .int i => decide (i = v) | _ => false) else none) = _
  rw [h1, if_pos rfl]
  unfold nl
  rw [List.any_map]
  rfl
/-- is the number at place i wrong -/
def bad (xs : List Nat) (i : Nat) : Bool := decide (xs.getD i 0 ≤ xs.getD (i - 1) 0) || !((xs.take i).any fun x => (xs.take i).any fun z => decide (z + x = xs.getD i 0))
def arF (N : Nat) (xs : List Nat) : Bool := !(decide (xs.length = 0) || (decide (xs.getD 0 0 ≠ 1) || decide (xs.reverse.headD 0 ≠ N))) && !((List.range' 1 (xs.length - 1)).any (bad xs))
section
variable {L N : Nat} {c s : Dt} {xs : List Nat}
theorem cond_ok {e : En} {i : Nat} (hi : i + 1 < xs.length) (hl : xs.length ≤ 1000) (g3 : e[3]? = some (.fz (.tuple (nl xs)))) (g4 : e[4]? = some (.fz (.int ((i + 1 : Nat) : Int)))) (g5 : e[5]? = some (.fz (.tuple (nl (xs.take (i + 1)))))) (g6 : e[6]? = some .un) (hle : e.length = 7) :
    (tOr (tOf (vCmp .le (vIx (vNm 3) (vNm 4)) (vIx (vNm 3) (vBin .sub (vNm 4) (vCst (.int 1)))))) (tNot (tOf (vBlt .any (vComp (vCmp .mem (vBin .sub (vIx (vNm 3) (vNm 4)) (vNm 6)) (vNm 5)) [6] (.nm 6) (iOf (vNm 5)) fYes))))) e = some (bad xs (i + 1), e) := by
  have a1 : vIx (vNm 3) (vNm 4) e = some (.d (.int ((xs.getD (i + 1) 0 : Nat) : Int)), e) := ix_of (nm_fz g3) (nm_fz g4) (nl_ix hi)
  have a2 : vIx (vNm 3) (vBin .sub (vNm 4) (vCst (.int 1))) e = some (.d (.int ((xs.getD i 0 : Nat) : Int)), e) := ix_of (y := (i : Int)) (nm_fz g3) (by rw [sub_of (nm_fz g4) (y := 1) rfl]; congr 4; omega) (nl_ix (by omega))
  have h1 := tcmp_of a1 a2 (z_le (a := ((xs.getD (i + 1) 0 : Nat) : Int)) (b := ((xs.getD i 0 : Nat) : Int)))
  rw [show decide (((xs.getD (i + 1) 0 : Nat) : Int) ≤ ((xs.getD i 0 : Nat) : Int)) = decide (xs.getD (i + 1) 0 ≤ xs.getD i 0) from decide_eq_decide.2 (by omega)] at h1
  unfold bad
  rw [show i + 1 - 1 = i from rfl]
  by_cases le : xs.getD (i + 1) 0 ≤ xs.getD i 0
  · rw [decide_eq_true le] at h1 ⊢
    exact tor_t h1
  · rw [decide_eq_false le] at h1 ⊢
    have hcomp : vComp (vCmp .mem (vBin .sub (vIx (vNm 3) (vNm 4)) (vNm 6)) (vNm 5)) [6] (.nm 6) (iOf (vNm 5)) fYes e = some (.own (((xs.take (i + 1)).map fun x => (xs.take (i + 1)).any fun z => decide (z + x = xs.getD (i + 1) 0)).map PyData.bool), e) := by
      refine comp1 g6 (ds := nl (xs.take (i + 1))) ?_ ?_ ?_
      · rw [x_iOf, nm_fz g5]
        rfl
      · rw [compL_map (φ := fun d => match d with
          | .int x => [.bool ((xs.take (i + 1)).any fun z => decide ((z : Int) = ((xs.getD (i + 1) 0 : Nat) : Int) - x))]
          | _ => []) _ ?_]
        · unfold nl
          rw [List.flatMap_map, List.map_map]
          congr 2
          rw [List.flatMap_def]
          have : (xs.take (i + 1)).map (fun (x : Nat) => [PyData.bool ((xs.take (i + 1)).any fun z => decide ((z : Int) = ((xs.getD (i + 1) 0 : Nat) : Int) - (x : Int)))]) = (xs.take (i + 1)).map (fun x => [PyData.bool ((xs.take (i + 1)).any fun z => decide (z + x = xs.getD (i + 1) 0))]) := by
            apply List.map_congr_left
            intro x _
            congr 3
            funext z
            exact decide_eq_decide.2 (by omega)
          show ((xs.take (i + 1)).map (fun (x : Nat) => [PyData.bool ((xs.take (i + 1)).any fun z => decide ((z : Int) = ((xs.getD (i + 1) 0 : Nat) : Int) - (x : Int)))])).flatten = _
          rw [this, ← List.flatMap_def, ← List.map_eq_flatMap]
          rfl
        · intro d hd
          obtain ⟨x, _, rfl⟩ := List.mem_map.1 hd
          have g3' := (g_ne (s := .fz (.int (x : Int))) g3 (show 6 ≠ 3 by decide))
          have g4' := (g_ne (s := .fz (.int (x : Int))) g4 (show 6 ≠ 4 by decide))
          have g5' := (g_ne (s := .fz (.int (x : Int))) g5 (show 6 ≠ 5 by decide))
          have g6' : (e.set 6 (.fz (.int (x : Int))))[6]? = some (.fz (.int (x : Int))) := g_eq (by omega)
          exact turn1 g6 rfl (vcmp_of (sub_of (ix_of (nm_fz g3') (nm_fz g4') (nl_ix hi)) (nm_fz g6')) (nm_fz g5') (mem_nl _ _))
      · refine small_il ?_
        rw [List.length_map, List.length_map, List.length_take]
        omega
    refine tor_f h1 ((tnot_of (tof_b (any_of hcomp))).trans ?_)
    rw [List.any_map]
    rfl
theorem ar_loop (hl : xs.length ≤ 1000) : ∀ (j i : Nat) (s4 s5 : Sv), i + 1 + j = xs.length → (∀ ys, s4 ≠ Sv.ow true ys) → (∀ ys, s5 ≠ Sv.ow true ys) →
    (((List.range' (i + 1) j).any (bad xs) = true → ∃ tl, forL (forB (.nm 4) (sSeq (sAsg 5 (vSlT (vNm 3) (vNm 4))) (sSeq (sIte (tOr (tOf (vCmp .le (vIx (vNm 3) (vNm 4)) (vIx (vNm 3) (vBin .sub (vNm 4) (vCst (.int 1)))))) (tNot (tOf (vBlt .any (vComp (vCmp .mem (vBin .sub (vIx (vNm 3) (vNm 4)) (vNm 6)) (vNm 5)) [6] (.nm 6) (iOf (vNm 5)) fYes))))) (sSeq (sRet (vCst (.bool false))) sPass) sPass) sPass))) (rngL 1 1 i j) [.fz c, .fz s, .fz (.int (N : Int)), .fz (.tuple (nl xs)), s4, s5, .un] = some (.rt (.d (.bool false)) (.fz c :: tl))) ∧
     ((List.range' (i + 1) j).any (bad xs) = false → ∃ s4' s5', forL (forB (.nm 4) (sSeq (sAsg 5 (vSlT (vNm 3) (vNm 4))) (sSeq (sIte (tOr (tOf (vCmp .le (vIx (vNm 3) (vNm 4)) (vIx (vNm 3) (vBin .sub (vNm 4) (vCst (.int 1)))))) (tNot (tOf (vBlt .any (vComp (vCmp .mem (vBin .sub (vIx (vNm 3) (vNm 4)) (vNm 6)) (vNm 5)) [6] (.nm 6) (iOf (vNm 5)) fYes))))) (sSeq (sRet (vCst (.bool false))) sPass) sPass) sPass))) (rngL 1 1 i j) [.fz c, .fz s, .fz (.int (N : Int)), .fz (.tuple (nl xs)), s4, s5, .un] = some (.nx [.fz c, .fz s, .fz (.int (N : Int)), .fz (.tuple (nl xs)), s4', s5', .un])))
  | 0, i, s4, s5, h, h4, h5 => ⟨fun z => (by cases z), fun _ => ⟨s4, s5, rfl⟩⟩
  | j + 1, i, s4, s5, h, h4, h5 => by
    have np : ∀ s4 : Sv, (∀ ys, s4 ≠ Sv.ow true ys) → ∀ (i : Nat) (ys : List Dt), ([.fz c, .fz s, .fz (.int (N : Int)), .fz (.tuple (nl xs)), s4, s5, .un] : En)[i]? ≠ some (.ow true ys) := fun s4 h4 i ys z => by
      match i, z with
      | 0, z => cases z
      | 1, z => cases z
      | 2, z => cases z
      | 3, z => cases z
      | 4, z => exact h4 ys (Option.some.inj z)
      | 5, z => exact h5 ys (Option.some.inj z)
      | 6, z => cases z
      | i + 7, z => simp at z
    have hp : tgt (.nm 4) (.int ((i + 1 : Nat) : Int)) [.fz c, .fz s, .fz (.int (N : Int)), .fz (.tuple (nl xs)), s4, s5, .un] = some [.fz c, .fz s, .fz (.int (N : Int)), .fz (.tuple (nl xs)), .fz (.int ((i + 1 : Nat) : Int)), s5, .un] := put_of (np s4 h4) (by show 4 < 7; decide)
    have hsl := slT_of (nm_fz (e := [.fz c, .fz s, .fz (.int (N : Int)), .fz (.tuple (nl xs)), .fz (.int ((i + 1 : Nat) : Int)), s5, .un]) (i := 3) rfl) (nm_fz (i := 4) rfl)
    rw [show (nl xs).take (i + 1) = nl (xs.take (i + 1)) from List.map_take.symm] at hsl
    have hasg : sAsg 5 _ _ = _ := asg_d hsl (np _ (fun _ z => nomatch z)) (by show 5 < 7; decide)
    have hcd := @cond_ok xs [.fz c, .fz s, .fz (.int (N : Int)), .fz (.tuple (nl xs)), .fz (.int ((i + 1 : Nat) : Int)), .fz (.tuple (nl (xs.take (i + 1)))), .un] i (by omega) hl rfl rfl rfl rfl rfl
    have er : rngL 1 1 i (j + 1) = .int ((i + 1 : Nat) : Int) :: rngL 1 1 (i + 1) j := by
      show PyData.int (1 + (i : Int) * 1) :: _ = _
      congr 2
      omega
    rw [List.range'_succ, List.any_cons, er, forL]
    cases hb : bad xs (i + 1) with
    | true =>
      rw [hb] at hcd
      have st : forB (.nm 4) (sSeq (sAsg 5 (vSlT (vNm 3) (vNm 4))) (sSeq (sIte (tOr (tOf (vCmp .le (vIx (vNm 3) (vNm 4)) (vIx (vNm 3) (vBin .sub (vNm 4) (vCst (.int 1)))))) (tNot (tOf (vBlt .any (vComp (vCmp .mem (vBin .sub (vIx (vNm 3) (vNm 4)) (vNm 6)) (vNm 5)) [6] (.nm 6) (iOf (vNm 5)) fYes))))) (sSeq (sRet (vCst (.bool false))) sPass) sPass) sPass)) (.int ((i + 1 : Nat) : Int)) [.fz c, .fz s, .fz (.int (N : Int)), .fz (.tuple (nl xs)), s4, s5, .un] = some (.rt (.d (.bool false)) [.fz c, .fz s, .fz (.int (N : Int)), .fz (.tuple (nl xs)), .fz (.int ((i + 1 : Nat) : Int)), .fz (.tuple (nl (xs.take (i + 1)))), .un]) := by
        rw [x_forB, hp]
        exact sSeq_nx hasg (sSeq_rt (sIte_t hcd rfl))
      rw [st]
      exact ⟨fun _ => ⟨_, rfl⟩, fun z => by cases z⟩
    | false =>
      rw [hb] at hcd
      have st : forB (.nm 4) (sSeq (sAsg 5 (vSlT (vNm 3) (vNm 4))) (sSeq (sIte (tOr (tOf (vCmp .le (vIx (vNm 3) (vNm 4)) (vIx (vNm 3) (vBin .sub (vNm 4) (vCst (.int 1)))))) (tNot (tOf (vBlt .any (vComp (vCmp .mem (vBin .sub (vIx (vNm 3) (vNm 4)) (vNm 6)) (vNm 5)) [6] (.nm 6) (iOf (vNm 5)) fYes))))) (sSeq (sRet (vCst (.bool false))) sPass) sPass) sPass)) (.int ((i + 1 : Nat) : Int)) [.fz c, .fz s, .fz (.int (N : Int)), .fz (.tuple (nl xs)), s4, s5, .un] = some (.nx [.fz c, .fz s, .fz (.int (N : Int)), .fz (.tuple (nl xs)), .fz (.int ((i + 1 : Nat) : Int)), .fz (.tuple (nl (xs.take (i + 1)))), .un]) := by
        rw [x_forB, hp]
        exact sSeq_nx hasg (sSeq_nx (sIte_f hcd rfl) rfl)
      rw [st, Bool.false_or]
      exact ar_loop hl j (i + 1) _ _ (by omega) (fun _ z => nomatch z) (fun _ z => nomatch z)
end
theorem ne_dec (a b : Nat) : (!decide ((a : Int) = (b : Int))) = decide (a ≠ b) := by
  by_cases h : a = b
  · rw [decide_eq_true (show (a : Int) = b by omega), decide_eq_false (by omega)]; rfl
  · rw [decide_eq_false (show ¬ (a : Int) = b by omega), decide_eq_true h]; rfl
theorem ar_ok (k : Nat) {N : Nat} {xs : List Nat} (hl : xs.length ≤ 1000) : ∃ tl, run G.M G.P (k + 1) 5 [.fz (adg N (nl xs))] = some (.d (.bool (arF N xs)), .fz (adg N (nl xs)) :: tl) := by
  suffices hs : ∃ tl, evB (run G.M G.P k) G.M b_adding_right [.fz (adg N (nl xs)), .un, .un, .un, .un, .un, .un] = some (.rt (.d (.bool (arF N xs))) (.fz (adg N (nl xs)) :: tl)) by
    obtain ⟨tl, hs⟩ := hs
    exact ⟨tl, by
      show runD (run G.M G.P k) G.M ⟨"adding_right", 1, 7, b_adding_right⟩ [.fz (adg N (nl xs))] = _
      exact runD_d [.fz (adg N (nl xs)), .un, .un, .un, .un, .un, .un] rfl rfl hs⟩
  simp only [b_adding_right, evB, evS, ev, evs, mkV, mkI]
  have h0 : ∀ r, (∃ tl, r = some (Fl.rt (.d (.bool (arF N xs))) (.fz (adg N (nl xs)) :: tl))) → r = r := fun r _ => rfl
  have s1 : sAsgT (.cons (.nm 1) (.cons (.nm 2) (.cons (.nm 3) .nil))) (vNm 0) [.fz (adg N (nl xs)), .un, .un, .un, .un, .un, .un] = some (.nx [.fz (adg N (nl xs)), .fz (.str "adding"), .fz (.int (N : Int)), .fz (.tuple (nl xs)), .un, .un, .un]) := by
    simp only [List.getElem?_cons_zero, List.getElem?_cons_succ, List.set_cons_zero, List.set_cons_succ, List.replicate_succ, List.replicate_zero, List.cons_append, List.nil_append, x_vCst, x_vNm, x_vBin, x_vNeg, x_vBits, x_vCmp, x_vCmp2, x_vAnd, x_vOr, x_vNot, x_vIte, x_vTup, x_vLst, x_vIx, x_vSlF, x_vSlT, x_vSl, x_vRev, x_vCall, x_vBlt, x_vBlt2, x_vPop, x_vPopAt, x_fYes, x_vFz, x_vNo, x_tOf, x_tAnd, x_tOr, x_tNot, x_iOf, x_iNo, x_iRng1, x_iRng2, x_iRng3, x_iEnum, x_iZip, x_iRevd, x_aNil, x_aCons, x_dNil, x_dCons, x_sAsg, x_sAsgT, x_sPar, x_sSet, x_sAug, x_sAugS, x_sApp, x_sExt, x_sEx, x_sIte, x_sRet, x_sRetN, x_sBrk, x_sCont, x_sPass, x_sNo, x_sSeq, argsOf, argOf, locs, backs, nd0, nd1, store, put, frz, tgt, tgts, isOw, z_add, z_sub, z_xor, z_eq, z_ne, z_lt, z_le, z_gt, z_ge, z_dd, z_do, z_dl, z_tb, z_lenL, z_lenT, z_int, z_intB, z_abs, z_max, z_min, z_tupL, z_tupT, z_lstL, z_lstT, z_scr, ix0, ix1, ix2, ix3, ix4, ixn1, ixn2, ixn3, ixn4, decide_true, decide_false, if_true, if_false, Bool.false_eq_true, Bool.and_true, Bool.true_and, Bool.not_true, Bool.not_false, x_turnC, wipeE, back, x_sForB, x_forB, List.getD_cons_zero, List.getD_cons_succ, adg]
  have c1 : tOf (vCmp .eq (vBlt .len (vNm 3)) (vCst (.int 0))) [.fz (adg N (nl xs)), .fz (.str "adding"), .fz (.int (N : Int)), .fz (.tuple (nl xs)), .un, .un, .un] = some (decide (xs.length = 0), [.fz (adg N (nl xs)), .fz (.str "adding"), .fz (.int (N : Int)), .fz (.tuple (nl xs)), .un, .un, .un]) := tcmp_of (lenT_of (nm_fz (i := 3) rfl)) (y := .int 0) rfl (by rw [z_eq, List.length_map]; congr 1; exact decide_eq_decide.2 (by omega))
  unfold arF
  by_cases e0 : xs.length = 0
  · rw [decide_eq_true e0] at c1 ⊢
    exact ⟨_, sSeq_nx s1 (sSeq_rt (sIte_t (tor_t c1) rfl))⟩
  rw [decide_eq_false e0] at c1 ⊢
  rw [Bool.false_or]
  have c2 : tOf (vCmp .ne (vIx (vNm 3) (vCst (.int 0))) (vCst (.int 1))) [.fz (adg N (nl xs)), .fz (.str "adding"), .fz (.int (N : Int)), .fz (.tuple (nl xs)), .un, .un, .un] = some (decide (xs.getD 0 0 ≠ 1), [.fz (adg N (nl xs)), .fz (.str "adding"), .fz (.int (N : Int)), .fz (.tuple (nl xs)), .un, .un, .un]) := tcmp_of (ix_of (nm_fz (i := 3) rfl) (y := ((0 : Nat) : Int)) rfl (nl_ix (by omega))) (y := .int 1) rfl (congrArg some (ne_dec _ 1))
  by_cases e1 : xs.getD 0 0 ≠ 1
  · rw [decide_eq_true e1] at c2 ⊢
    exact ⟨_, sSeq_nx s1 (sSeq_rt (sIte_t (tor_f c1 (tor_t c2)) rfl))⟩
  rw [decide_eq_false e1] at c2 ⊢
  rw [Bool.false_or]
  have hla : ∃ ys, nl xs = ys ++ [.int ((xs.reverse.headD 0 : Nat) : Int)] := by
    have : xs.reverse ≠ [] := by
      intro z
      have := congrArg List.length z
      rw [List.length_reverse] at this
      exact e0 this
    obtain ⟨ch, h⟩ := cl_split this
    unfold cl at h
    rw [List.reverse_reverse] at h
    exact ⟨ch, h⟩
  obtain ⟨ys, hys⟩ := hla
  have c3 : tOf (vCmp .ne (vIx (vNm 3) (vNeg (vCst (.int 1)))) (vNm 2)) [.fz (adg N (nl xs)), .fz (.str "adding"), .fz (.int (N : Int)), .fz (.tuple (nl xs)), .un, .un, .un] = some (decide (xs.reverse.headD 0 ≠ N), [.fz (adg N (nl xs)), .fz (.str "adding"), .fz (.int (N : Int)), .fz (.tuple (nl xs)), .un, .un, .un]) := tcmp_of (x := .int ((xs.reverse.headD 0 : Nat) : Int)) (ix_of (nm_fz (i := 3) rfl) neg1 (by rw [hys]; exact last_ix)) (nm_fz (i := 2) rfl) (congrArg some (ne_dec _ _))
  by_cases e2 : xs.reverse.headD 0 ≠ N
  · rw [decide_eq_true e2] at c3 ⊢
    exact ⟨_, sSeq_nx s1 (sSeq_rt (sIte_t (tor_f c1 (tor_f c2 c3)) rfl))⟩
  rw [decide_eq_false e2] at c3 ⊢
  have hit : iRng2 (vCst (.int 1)) (vBlt .len (vNm 3)) [.fz (adg N (nl xs)), .fz (.str "adding"), .fz (.int (N : Int)), .fz (.tuple (nl xs)), .un, .un, .un] = some (rngL 1 1 0 (xs.length - 1), [.fz (adg N (nl xs)), .fz (.str "adding"), .fz (.int (N : Int)), .fz (.tuple (nl xs)), .un, .un, .un]) := by
    have hz : vBlt .len (vNm 3) [.fz (adg N (nl xs)), .fz (.str "adding"), .fz (.int (N : Int)), .fz (.tuple (nl xs)), .un, .un, .un] = some (.d (.int (xs.length : Int)), [.fz (adg N (nl xs)), .fz (.str "adding"), .fz (.int (N : Int)), .fz (.tuple (nl xs)), .un, .un, .un]) := by
      rw [lenT_of (nm_fz (i := 3) rfl), List.length_map]
    rw [x_iRng2]
    show (match vBlt .len (vNm 3) [.fz (adg N (nl xs)), .fz (.str "adding"), .fz (.int (N : Int)), .fz (.tuple (nl xs)), .un, .un, .un] with
      | some (.d (.int n), e2) => if rngOk 1 && rngOk n then some (rngL 1 1 0 (n - 1).toNat, e2) else none
      | _ => none) = _
    rw [hz]
    show (if rngOk 1 && rngOk (xs.length : Int) then some (rngL 1 1 0 ((xs.length : Int) - 1).toNat, ([.fz (adg N (nl xs)), .fz (.str "adding"), .fz (.int (N : Int)), .fz (.tuple (nl xs)), .un, .un, .un] : En)) else none) = _
    rw [rng_ok (by omega), show rngOk 1 = true from rng_ok (n := 1) (by decide), Bool.and_true, if_pos rfl, show ((xs.length : Int) - 1).toNat = xs.length - 1 by omega]
  obtain ⟨l1, l2⟩ := @ar_loop N (adg N (nl xs)) (.str "adding") xs hl (xs.length - 1) 0 .un .un (by omega) (fun _ z => nomatch z) (fun _ z => nomatch z)
  rw [show 0 + 1 = 1 from rfl] at l1 l2
  cases hb : (List.range' 1 (xs.length - 1)).any (bad xs) with
  | true =>
    obtain ⟨tl, h⟩ := l1 hb
    exact ⟨tl, sSeq_nx s1 (sSeq_nx (sIte_f (tor_f c1 (tor_f c2 c3)) rfl) (sSeq_rt (sFor_of hit h)))⟩
  | false =>
    obtain ⟨s4, s5, h⟩ := l2 hb
    exact ⟨_, sSeq_nx s1 (sSeq_nx (sIte_f (tor_f c1 (tor_f c2 c3)) rfl) (sSeq_nx (sFor_of hit h) (sSeq_rt rfl)))⟩
end Lawk93
end

section
set_option maxHeartbeats 4000000
namespace Lawk93
open PySem De

/-- a right chain, turned -/
inductive Ch : List Nat → Prop
  | one : Ch [1]
  | step (a x z : Nat) (r : List Nat) (h : Ch r) (hlt : r.headD 0 < a) (hx : x ∈ r) (hz : z ∈ r) (e : z + x = a) : Ch (a :: r)
theorem Ch.ne {r : List Nat} (h : Ch r) : r ≠ [] := by cases h <;> simp
theorem Ch.mem1 {r : List Nat} (h : Ch r) : 1 ∈ r := by
  induction h with
  | one => simp
  | step a x z r h hlt hx hz e ih => exact List.mem_cons_of_mem _ ih
theorem Ch.head {r : List Nat} (h : Ch r) : r.headD 0 ∈ r := by cases h <;> simp
theorem Ch.pos {r : List Nat} (h : Ch r) : 0 < r.headD 0 := by
  cases h with
  | one => decide
  | step a x z r h hlt hx hz e => show 0 < a; omega
theorem Ch.first {r : List Nat} (h : Ch r) : r.reverse.getD 0 0 = 1 := by
  induction h with
  | one => rfl
  | step a x z r h hlt hx hz e ih =>
    rw [List.reverse_cons, List.getD_eq_getElem?_getD, List.getElem?_append_left (by rw [List.length_reverse]; exact List.length_pos_iff.2 h.ne), ← List.getD_eq_getElem?_getD]
    exact ih
theorem bad_app {xs : List Nat} {a i : Nat} (h : i < xs.length) : bad (xs ++ [a]) i = bad xs i := by
  have g : ∀ j, j < xs.length → (xs ++ [a]).getD j 0 = xs.getD j 0 := fun j hj => by
    rw [List.getD_eq_getElem?_getD, List.getElem?_append_left hj, ← List.getD_eq_getElem?_getD]
  unfold bad
  rw [g i h, g (i - 1) (by omega), List.take_append_of_le_length (by omega)]
theorem headD_rev (r : List Nat) (h : r ≠ []) : r.reverse.getD (r.length - 1) 0 = r.headD 0 := by
  cases r with
  | nil => exact absurd rfl h
  | cons a r =>
    rw [List.reverse_cons, List.getD_eq_getElem?_getD, List.getElem?_append_right (by rw [List.length_reverse, List.length_cons]; omega), List.length_reverse, List.length_cons, show r.length + 1 - 1 - r.length = 0 by omega]
    rfl
theorem Ch.good {r : List Nat} (h : Ch r) : ∀ i, 1 ≤ i → i < r.length → bad r.reverse i = false := by
  induction h with
  | one => intro i h1 h2; simp at h2; omega
  | step a x z r h hlt hx hz e ih =>
    intro i h1 h2
    rw [List.reverse_cons]
    rw [List.length_cons] at h2
    by_cases c : i < r.length
    · rw [bad_app (by rw [List.length_reverse]; exact c)]
      exact ih i h1 c
    · have hi : i = r.length := by omega
      subst hi
      have g1 : (r.reverse ++ [a]).getD r.length 0 = a := by
        rw [List.getD_eq_getElem?_getD, List.getElem?_append_right (by rw [List.length_reverse]; omega), List.length_reverse, Nat.sub_self]
        rfl
      have g2 : (r.reverse ++ [a]).getD (r.length - 1) 0 = r.headD 0 := by
        rw [List.getD_eq_getElem?_getD, List.getElem?_append_left (by rw [List.length_reverse]; omega), ← List.getD_eq_getElem?_getD]
        exact headD_rev r h.ne
      have g3 : (r.reverse ++ [a]).take r.length = r.reverse := by
        rw [← List.length_reverse (as := r), List.take_left]
      unfold bad
      rw [g1, g2, g3, decide_eq_false (by omega), Bool.false_or, Bool.not_eq_false']
      exact List.any_eq_true.2 ⟨x, List.mem_reverse.2 hx, List.any_eq_true.2 ⟨z, List.mem_reverse.2 hz, decide_eq_true e⟩⟩
theorem Ch.ar {r : List Nat} (h : Ch r) {N : Nat} (hN : r.headD 0 = N) : arF N r.reverse = true := by
  have h1 : (List.range' 1 (r.reverse.length - 1)).any (bad r.reverse) = false := by
    rw [List.any_eq_false]
    intro i hi
    have := List.mem_range'_1.1 hi
    rw [List.length_reverse] at this
    rw [h.good i this.1 (by omega)]
    decide
  have h2 : r.reverse.length ≠ 0 := by
    rw [List.length_reverse]
    exact fun z => h.ne (List.length_eq_zero_iff.1 z)
  unfold arF
  rw [h1, decide_eq_false h2, h.first, List.reverse_reverse, hN]
  simp
theorem ar_last {r : List Nat} {N : Nat} (h : r.headD 0 ≠ N) : arF N r.reverse = false := by
  unfold arF
  rw [List.reverse_reverse, decide_eq_true h]
  simp
theorem ar_bad {xs : List Nat} {N i : Nat} (h1 : 1 ≤ i) (h2 : i < xs.length) (h : xs.getD i 0 ≤ xs.getD (i - 1) 0) : arF N xs = false := by
  have : (List.range' 1 (xs.length - 1)).any (bad xs) = true := List.any_eq_true.2 ⟨i, List.mem_range'_1.2 ⟨h1, by omega⟩, by unfold bad; rw [decide_eq_true h]; rfl⟩
  unfold arF
  rw [this]
  simp
/-- two neighbours changed -/
def swp (xs : List Nat) (i : Nat) : List Nat := xs.take i ++ [xs.getD (i + 1) 0, xs.getD i 0] ++ xs.drop (i + 2)
theorem Ch.swap {r : List Nat} (h : Ch r) {N i : Nat} (hi : i + 1 < r.length) : arF N (swp r.reverse i) = false := by
  have hb := h.good (i + 1) (by omega) hi
  have hlt : r.reverse.getD i 0 < r.reverse.getD (i + 1) 0 := by
    unfold bad at hb
    have := (Bool.or_eq_false_iff.1 hb).1
    have := of_decide_eq_false this
    rw [show i + 1 - 1 = i from rfl] at this
    omega
  have ht : (r.reverse.take i).length = i := by rw [List.length_take, List.length_reverse]; omega
  have g1 : (swp r.reverse i).getD i 0 = r.reverse.getD (i + 1) 0 := by
    unfold swp
    rw [List.append_assoc, List.getD_eq_getElem?_getD, List.getElem?_append_right (by omega), ht, Nat.sub_self]
    rfl
  have g2 : (swp r.reverse i).getD (i + 1) 0 = r.reverse.getD i 0 := by
    unfold swp
    rw [List.append_assoc, List.getD_eq_getElem?_getD, List.getElem?_append_right (by omega), ht, show i + 1 - i = 1 by omega]
    rfl
  refine ar_bad (i := i + 1) (by omega) ?_ ?_
  · unfold swp
    rw [List.length_append, List.length_append, ht]
    show i + 1 < i + 2 + _
    omega
  · rw [show i + 1 - 1 = i from rfl, g1, g2]
    omega
/-- the chain of the product, turned -/
def pr (n : Nat) (s r : List Nat) : List Nat := s.dropLast.map (fun x => n * x) ++ r
theorem pr_ok {n : Nat} {r : List Nat} (hr : Ch r) (hn : r.headD 0 = n) {s : List Nat} (hs : Ch s) : Ch (pr n s r) ∧ (∀ x ∈ s, n * x ∈ pr n s r) ∧ (pr n s r).headD 0 = n * s.headD 0 := by
  induction hs with
  | one =>
    refine ⟨hr, fun x hx => ?_, ?_⟩
    · rw [List.mem_singleton] at hx
      subst hx
      rw [Nat.mul_one, ← hn]
      exact hr.head
    · show r.headD 0 = n * 1
      rw [hn, Nat.mul_one]
  | step a x z s h hlt hx hz e ih =>
    obtain ⟨i1, i2, i3⟩ := ih
    have hp : pr n (a :: s) r = (n * a) :: pr n s r := by
      unfold pr
      rw [List.dropLast_cons_of_ne_nil h.ne]
      rfl
    have hpos : 0 < n := by rw [← hn]; exact hr.pos
    refine ⟨?_, fun y hy => ?_, ?_⟩
    · rw [hp]
      refine Ch.step (n * a) (n * x) (n * z) _ i1 ?_ (i2 x hx) (i2 z hz) (by rw [← Nat.mul_add, e])
      rw [i3]
      exact Nat.mul_lt_mul_of_pos_left hlt hpos
    · rw [hp]
      rcases List.mem_cons.1 hy with rfl | hy
      · exact List.mem_cons_self
      · exact List.mem_cons_of_mem _ (i2 y hy)
    · rw [hp]
      rfl
theorem pr_rev (n : Nat) (s r : List Nat) : (pr n s r).reverse = r.reverse ++ s.reverse.tail.map (fun x => n * x) := by
  unfold pr
  rw [List.reverse_append, ← List.map_reverse, List.tail_reverse]
theorem pr_len (n : Nat) (s r : List Nat) : (pr n s r).length = r.length + (s.length - 1) := by
  unfold pr
  rw [List.length_append, List.length_map, List.length_dropLast, Nat.add_comm]
/-- the doubling chain of a number of j + 1 bits, turned -/
def dH : Nat → Nat → List Nat
  | 0, _ => [1]
  | j + 1, n => if n % 2 = 1 then n :: (n - 1) :: dH j (n / 2) else n :: dH j (n / 2)
theorem dH_ok : ∀ (j n : Nat), 2 ^ j ≤ n → n < 2 ^ (j + 1) → Ch (dH j n) ∧ (dH j n).headD 0 = n ∧ (dH j n).length ≤ 2 * j + 1
  | 0, n, h1, h2 => ⟨Ch.one, by show 1 = n; rw [Nat.pow_zero] at h1; rw [Nat.zero_add, Nat.pow_one] at h2; omega, by show 1 ≤ 1; omega⟩
  | j + 1, n, h1, h2 => by
    have e1 : 2 ^ (j + 1) = 2 * 2 ^ j := by rw [Nat.pow_succ, Nat.mul_comm]
    have e2 : 2 ^ (j + 1 + 1) = 2 * 2 ^ (j + 1) := by rw [Nat.pow_succ, Nat.mul_comm]
    have hp : 0 < 2 ^ j := Nat.pow_pos (by decide)
    obtain ⟨i1, i2, i3⟩ := dH_ok j (n / 2) (by omega) (by omega)
    have hm : n / 2 ∈ dH j (n / 2) := by
      have := i1.head
      rw [i2] at this
      exact this
    unfold dH
    by_cases c : n % 2 = 1
    · rw [if_pos c]
      have s1 : Ch ((n - 1) :: dH j (n / 2)) := Ch.step (n - 1) (n / 2) (n / 2) _ i1 (by rw [i2]; omega) hm hm (by omega)
      refine ⟨Ch.step n 1 (n - 1) _ s1 (by show n - 1 < n; omega) s1.mem1 List.mem_cons_self (by omega), rfl, ?_⟩
      rw [List.length_cons, List.length_cons]
      omega
    · rw [if_neg c]
      refine ⟨Ch.step n (n / 2) (n / 2) _ i1 (by rw [i2]; omega) hm hm (by omega), rfl, ?_⟩
      rw [List.length_cons]
      omega
/-- a finite test of Ch -/
def chB : List Nat → Bool
  | [] => false
  | a :: r => match r with
    | [] => Nat.beq a 1
    | b :: r' => chB (b :: r') && Nat.blt b a && (b :: r').any fun x => (b :: r').any fun z => Nat.beq (z + x) a
theorem chB_ok : ∀ r : List Nat, chB r = true → Ch r
  | [], h => by cases h
  | [a], h => by
    have : a = 1 := Nat.eq_of_beq_eq_true h
    subst this
    exact Ch.one
  | a :: b :: r', h => by
    rw [chB] at h
    have h1 := Bool.and_eq_true_iff.1 h
    have h2 := Bool.and_eq_true_iff.1 h1.1
    obtain ⟨x, hx, h3⟩ := List.any_eq_true.1 h1.2
    obtain ⟨z, hz, h4⟩ := List.any_eq_true.1 h3
    exact Ch.step a x z _ (chB_ok _ h2.1) (Nat.le_of_ble_eq_true h2.2) hx hz (Nat.eq_of_beq_eq_true h4)
end Lawk93
end

section
set_option maxHeartbeats 4000000
set_option exponentiation.threshold 500000
namespace Lawk93
open PySem De

theorem app_of {a : FV} {e e1 : En} {d : Dt} {i : Nat} {b : Bool} {xs : List Dt} (ha : a e = some (.d d, e1)) (h : e1[i]? = some (.ow b xs)) (hl : xs.length < 1000) (ho : isOw e i = true) : sApp i a e = some (.nx (e1.set i (.ow b (xs ++ [d])))) := by
  have : decide (xs.length < lim) = true := decide_eq_true (by unfold lim; omega)
  rw [x_sApp, ha]
  simp only [frz, h, this, ho, Bool.and_self, if_true]
theorem nl_app (xs ys : List Nat) : nl (xs ++ ys) = nl xs ++ nl ys := List.map_append
theorem fdiv_of {a b : FV} {e e1 e2 : En} {x y : Nat} (ha : a e = some (.d (.int (x : Int)), e1)) (hb : b e1 = some (.d (.int (y : Int)), e2)) (h : 0 < y) (h2 : y < 2 ^ 500) : vBin .fdiv a b e = some (.d (.int ((x / y : Nat) : Int)), e2) := by
  have hd : divOk (y : Int) = true := by
    unfold divOk
    rw [decide_eq_true (by omega), Int.natAbs_natCast, decide_eq_true (Nat.lt_trans ((Nat.log2_lt (by omega)).2 h2) (by decide))]
    rfl
  have hz : bop .fdiv (.int (x : Int)) (.int (y : Int)) = some (.d (.int ((x / y : Nat) : Int))) := by
    rw [z_fdiv hd, Int.fdiv_eq_ediv_of_nonneg _ (by omega)]
    congr 3
  simp only [List.getElem?_cons_zero, List.getElem?_cons_succ, List.set_cons_zero, List.set_cons_succ, List.replicate_succ, List.replicate_zero, List.cons_append, List.nil_append, x_vCst, x_vNm, x_vBin, x_vNeg, x_vBits, x_vCmp, x_vCmp2, x_vAnd, x_vOr, x_vNot, x_vIte, x_vTup, x_vLst, x_vIx, x_vSlF, x_vSlT, x_vSl, x_vRev, x_vCall, x_vBlt, x_vBlt2, x_vPop, x_vPopAt, x_fYes, x_vFz, x_vNo, x_tOf, x_tAnd, x_tOr, x_tNot, x_iOf, x_iNo, x_iRng1, x_iRng2, x_iRng3, x_iEnum, x_iZip, x_iRevd, x_aNil, x_aCons, x_dNil, x_dCons, x_sAsg, x_sAsgT, x_sPar, x_sSet, x_sAug, x_sAugS, x_sApp, x_sExt, x_sEx, x_sIte, x_sRet, x_sRetN, x_sBrk, x_sCont, x_sPass, x_sNo, x_sSeq, argsOf, argOf, locs, backs, nd0, nd1, store, put, frz, tgt, tgts, isOw, z_add, z_sub, z_xor, z_eq, z_ne, z_lt, z_le, z_gt, z_ge, z_dd, z_do, z_dl, z_tb, z_lenL, z_lenT, z_int, z_intB, z_abs, z_max, z_min, z_tupL, z_tupT, z_lstL, z_lstT, z_scr, ix0, ix1, ix2, ix3, ix4, ixn1, ixn2, ixn3, ixn4, decide_true, decide_false, if_true, if_false, Bool.false_eq_true, Bool.and_true, Bool.true_and, Bool.not_true, Bool.not_false, x_turnC, wipeE, back, x_sForB, x_forB, List.getD_cons_zero, List.getD_cons_succ, ha, hb, hz]
theorem modN_of {a b : FV} {e e1 e2 : En} {x y : Nat} (ha : a e = some (.d (.int (x : Int)), e1)) (hb : b e1 = some (.d (.int (y : Int)), e2)) (h : 0 < y) : vBin .mod a b e = some (.d (.int ((x % y : Nat) : Int)), e2) := by
  rw [mod_of ha hb (by omega), Int.fmod_eq_emod_of_nonneg _ (by omega)]
  congr 3
section
variable {L : Nat}
theorem dc_turn {n i j : Nat} {s2 s3 : Sv} (hj : i + j + 1 ≤ 200) (h2 : ∀ ys, s2 ≠ Sv.ow true ys) (h3 : ∀ ys, s3 ≠ Sv.ow true ys) {m : Nat} (hm : m = n / 2 ^ j) (hlen : (dH i (m / 2)).length ≤ 2 * i + 1) :
    ∃ s2' s3', (∀ ys, s2' ≠ Sv.ow true ys) ∧ (∀ ys, s3' ≠ Sv.ow true ys) ∧ forB (.nm 2) (sSeq (sAsg 3 (vBin .fdiv (vNm 0) (vCall ((run G.M G.P (L + 1)) 6) (aCons (vCst (.int 2)) (aCons (vFz (vNm 2)) aNil))))) (sSeq (sIte (tOf (vCmp .eq (vBin .mod (vNm 3) (vCst (.int 2))) (vCst (.int 1)))) (sSeq (sApp 1 (vBin .sub (vNm 3) (vCst (.int 1)))) sPass) sPass) (sSeq (sApp 1 (vNm 3)) sPass))) (.int (j : Int)) [.fz (.int (n : Int)), .ow false (nl (dH i (m / 2)).reverse), s2, s3] = some (.nx [.fz (.int (n : Int)), .ow false (nl (dH (i + 1) m).reverse), s2', s3']) := by
  have hp : tgt (.nm 2) (.int (j : Int)) [.fz (.int (n : Int)), .ow false (nl (dH i (m / 2)).reverse), s2, s3] = some [.fz (.int (n : Int)), .ow false (nl (dH i (m / 2)).reverse), .fz (.int (j : Int)), s3] := put_of (fun i ys z => by
      match i, z with
      | 0, z => cases z
      | 1, z => cases z
      | 2, z => exact h2 ys (Option.some.inj z)
      | 3, z => exact h3 ys (Option.some.inj z)
      | i + 4, z => simp at z) (by show 2 < 4; decide)
  have hpw : 2 ^ j ≤ 2 ^ 200 := Nat.pow_le_pow_right (by decide) (by omega)
  obtain ⟨y, z, tl, hr⟩ := raised_ok L (b := 2) (E := j) (by decide) (by omega) (Nat.lt_of_le_of_lt hpw (Nat.pow_lt_pow_right (by decide) (by decide))) (Nat.lt_of_le_of_lt (show 2 ≤ 2 ^ 1 by decide) (Nat.pow_lt_pow_right (by decide) (by decide)))
  have hcall : vCall (run G.M G.P (L + 1) 6) (aCons (vCst (.int 2)) (aCons (vFz (vNm 2)) aNil)) [.fz (.int (n : Int)), .ow false (nl (dH i (m / 2)).reverse), .fz (.int (j : Int)), s3] = some (.d (.int ((2 ^ j : Nat) : Int)), [.fz (.int (n : Int)), .ow false (nl (dH i (m / 2)).reverse), .fz (.int (j : Int)), s3]) := call2_of (x := .int 2) rfl (fz_fz (i := 2) rfl) hr
  have hdv := fdiv_of (nm_fz (e := [.fz (.int (n : Int)), .ow false (nl (dH i (m / 2)).reverse), .fz (.int (j : Int)), s3]) (i := 0) rfl) hcall (Nat.pow_pos (by decide)) (Nat.lt_of_le_of_lt hpw (Nat.pow_lt_pow_right (by decide) (by decide)))
  rw [← hm] at hdv
  have hasg : sAsg 3 _ _ = some (.nx [.fz (.int (n : Int)), .ow false (nl (dH i (m / 2)).reverse), .fz (.int (j : Int)), .fz (.int (m : Int))]) := asg_d hdv (fun i ys z => by
      match i, z with
      | 0, z => cases z
      | 1, z => cases z
      | 2, z => cases z
      | 3, z => exact h3 ys (Option.some.inj z)
      | i + 4, z => simp at z) (by show 3 < 4; decide)
  have hmod := modN_of (y := 2) (nm_fz (e := [.fz (.int (n : Int)), .ow false (nl (dH i (m / 2)).reverse), .fz (.int (j : Int)), .fz (.int (m : Int))]) (i := 3) rfl) (b := vCst (.int 2)) rfl (by decide)
  refine ⟨.fz (.int (j : Int)), .fz (.int (m : Int)), (fun _ z => nomatch z), (fun _ z => nomatch z), ?_⟩
  rw [x_forB, hp]
  refine sSeq_nx hasg ?_
  have hl1 : (nl (dH i (m / 2)).reverse).length < 999 := by
    rw [List.length_map, List.length_reverse]
    omega
  by_cases c : m % 2 = 1
  · have e1 : nl (dH (i + 1) m).reverse = nl (dH i (m / 2)).reverse ++ [.int ((m : Int) - 1)] ++ [.int (m : Int)] := by
      rw [dH, if_pos c, List.reverse_cons, List.reverse_cons, nl_app, nl_app]
      congr 2
      show [PyData.int ((m - 1 : Nat) : Int)] = _
      congr 2
      omega
    rw [e1]
    have a1 := app_of (i := 1) (sub_of (nm_fz (e := [.fz (.int (n : Int)), .ow false (nl (dH i (m / 2)).reverse), .fz (.int (j : Int)), .fz (.int (m : Int))]) (i := 3) rfl) (b := vCst (.int 1)) (y := 1) rfl) rfl (by omega) rfl
    have a2 := app_of (i := 1) (nm_fz (e := [.fz (.int (n : Int)), .ow false (nl (dH i (m / 2)).reverse ++ [.int ((m : Int) - 1)]), .fz (.int (j : Int)), .fz (.int (m : Int))]) (i := 3) rfl) rfl (by rw [List.length_append, List.length_singleton]; omega) rfl
    exact sSeq_nx (sIte_t (tcmp_of hmod (y := .int 1) rfl (by rw [z_eq, decide_eq_true (by omega)])) (sSeq_nx a1 rfl)) (sSeq_nx a2 rfl)
  · have e1 : nl (dH (i + 1) m).reverse = nl (dH i (m / 2)).reverse ++ [.int (m : Int)] := by
      rw [dH, if_neg c, List.reverse_cons, nl_app]
      rfl
    rw [e1]
    have a2 := app_of (i := 1) (nm_fz (e := [.fz (.int (n : Int)), .ow false (nl (dH i (m / 2)).reverse), .fz (.int (j : Int)), .fz (.int (m : Int))]) (i := 3) rfl) rfl (by omega) rfl
    exact sSeq_nx (sIte_f (tcmp_of hmod (y := .int 1) rfl (by rw [z_eq, decide_eq_false (by omega)])) rfl) (sSeq_nx a2 rfl)
theorem dc_loop {n J : Nat} (hJ : J ≤ 190) (h1 : 2 ^ J ≤ n) (h2 : n < 2 ^ (J + 1)) : ∀ (j i : Nat) (s2 s3 : Sv), i + j = J → (∀ ys, s2 ≠ Sv.ow true ys) → (∀ ys, s3 ≠ Sv.ow true ys) →
    ∃ s2' s3', forL (forB (.nm 2) (sSeq (sAsg 3 (vBin .fdiv (vNm 0) (vCall ((run G.M G.P (L + 1)) 6) (aCons (vCst (.int 2)) (aCons (vFz (vNm 2)) aNil))))) (sSeq (sIte (tOf (vCmp .eq (vBin .mod (vNm 3) (vCst (.int 2))) (vCst (.int 1)))) (sSeq (sApp 1 (vBin .sub (vNm 3) (vCst (.int 1)))) sPass) sPass) (sSeq (sApp 1 (vNm 3)) sPass)))) (rngL ((J : Int) - 1) (-1) i j) [.fz (.int (n : Int)), .ow false (nl (dH i (n / 2 ^ j)).reverse), s2, s3] = some (.nx [.fz (.int (n : Int)), .ow false (nl (dH J n).reverse), s2', s3'])
  | 0, i, s2, s3, h, _, _ => by
    have : i = J := by omega
    subst this
    rw [Nat.pow_zero, Nat.div_one]
    exact ⟨s2, s3, rfl⟩
  | j + 1, i, s2, s3, h, g2, g3 => by
    have er : rngL ((J : Int) - 1) (-1) i (j + 1) = .int (j : Int) :: rngL ((J : Int) - 1) (-1) (i + 1) j := by
      show PyData.int ((J : Int) - 1 + (i : Int) * (-1)) :: _ = _
      congr 2
      omega
    have ed : n / 2 ^ (j + 1) = n / 2 ^ j / 2 := by rw [Nat.pow_succ, Nat.div_div_eq_div_mul]
    have hij : n / 2 ^ (j + 1) < 2 ^ (i + 1) := by
      rw [Nat.div_lt_iff_lt_mul (Nat.pow_pos (by decide)), ← Nat.pow_add, show i + 1 + (j + 1) = J + 1 by omega]
      exact h2
    have hij2 : 2 ^ i ≤ n / 2 ^ (j + 1) := by
      rw [Nat.le_div_iff_mul_le (Nat.pow_pos (by decide)), ← Nat.pow_add, show i + (j + 1) = J by omega]
      exact h1
    obtain ⟨u, v, hu, hv, hst⟩ := @dc_turn L n i j s2 s3 (by omega) g2 g3 (n / 2 ^ j) rfl (by rw [← ed]; exact (dH_ok i _ hij2 hij).2.2)
    rw [← ed] at hst
    obtain ⟨s2', s3', ih⟩ := dc_loop hJ h1 h2 j (i + 1) u v (by omega) hu hv
    refine ⟨s2', s3', ?_⟩
    rw [er, forL, hst]
    exact ih
end
theorem log2_two {n : Nat} (h : 1 ≤ n) : 2 ^ n.log2 ≤ n ∧ n < 2 ^ (n.log2 + 1) := ⟨Nat.log2_self_le (by omega), Nat.lt_log2_self⟩
theorem double_ok (k : Nat) {n : Nat} (h1 : 1 ≤ n) (h2 : n < 2 ^ 190) : ∃ tl, run G.M G.P (k + 2) 10 [.fz (.int (n : Int))] = some (.d (adg n (nl (dH n.log2 n).reverse)), .fz (.int (n : Int)) :: tl) := by
  have hJ : n.log2 < 190 := (Nat.log2_lt (by omega)).2 h2
  obtain ⟨l1, l2⟩ := log2_two h1
  obtain ⟨s2, s3, hl⟩ := @dc_loop k n n.log2 (by omega) l1 l2 n.log2 0 .un .un (by omega) (fun _ z => nomatch z) (fun _ z => nomatch z)
  have e1 : dH 0 (n / 2 ^ n.log2) = [1] := rfl
  rw [e1] at hl
  suffices hs : ∃ tl, evB (run G.M G.P (k + 1)) G.M b_double_chain [.fz (.int (n : Int)), .un, .un, .un] = some (.rt (.d (adg n (nl (dH n.log2 n).reverse))) (.fz (.int (n : Int)) :: tl)) by
    obtain ⟨tl, hs⟩ := hs
    exact ⟨tl, by
      show runD (run G.M G.P (k + 1)) G.M ⟨"double_chain", 1, 4, b_double_chain⟩ [.fz (.int (n : Int))] = _
      exact runD_d [.fz (.int (n : Int)), .un, .un, .un] rfl rfl hs⟩
  simp only [b_double_chain, evB, evS, ev, evs, mkV, mkI]
  refine ⟨_, sSeq_nx (sIte_f (tcmp_of (nm_fz (i := 0) rfl) (y := .int 1) rfl (by rw [z_lt, decide_eq_false (by omega)])) rfl) (sSeq_nx (e1 := [.fz (.int (n : Int)), .ow false [.int 1], .un, .un]) rfl (sSeq_nx (sFor_of (e1 := [.fz (.int (n : Int)), .ow false [.int 1], .un, .un]) ?_ hl) (sSeq_rt rfl)))⟩
  obtain ⟨g1, g2, g3, g4⟩ := L2.RgC.neg (i := (n.log2 : Int) - 1) (j := -1) (by omega) (by omega) (by omega) (by omega)
  have e2 : Builtin.Range.rangeSize ((n.log2 : Int) - 1) (-1) (-1) = (n.log2 : Int) := by rw [g4]; omega
  have hrg : rng3Ok ((n.log2 : Int) - 1) (-1) (-1) = true := by
    unfold rng3Ok
    rw [g3, e2, decide_eq_true g1, decide_eq_true g2, decide_eq_true (show (0 : Int) ≤ n.log2 by omega)]
    rfl
  refine iRng3_of (m := (n.log2 : Int) - 1) (n := -1) (k := -1) (e1 := [.fz (.int (n : Int)), .ow false [.int 1], .un, .un]) ?_ neg1 neg1 hrg (by rw [e2, Int.toNat_natCast])
  show some (Rv.d (.int ((Builtin.Int.intBits (n : Int) : Nat) - 2)), _) = _
  rw [bits_of n h1]
  congr 4
  omega
/-- the figures to the base 2 -/
def bits2 : Nat → Nat → List Nat
  | 0, _ => []
  | f + 1, n => if n = 0 then [] else n % 2 :: bits2 f (n / 2)
section
theorem fig_loop : ∀ (f n M : Nat) (acc : List Dt), n < 2 ^ f → f < M → acc.length + f < 900 → whL (tOf (vCmp .ne (vNm 0) (vCst (.int 0)))) (sSeq (sApp 3 (vBin .mod (vNm 0) (vNm 2))) (sSeq (sAsg 0 (vBin .fdiv (vBin .sub (vNm 0) (vBin .mod (vNm 0) (vNm 2))) (vNm 1))) sPass)) M [.fz (.int (n : Int)), .fz (.int 2), .fz (.int 2), .ow false acc] = some (.nx [.fz (.int 0), .fz (.int 2), .fz (.int 2), .ow false (acc ++ nl (bits2 f n))])
  | 0, n, 0, acc, h, hM, _ => by omega
  | 0, n, M + 1, acc, h, hM, _ => by
    have : n = 0 := by rw [Nat.pow_zero] at h; omega
    subst this
    rw [bits2, show nl [] = [] from rfl, List.append_nil]
    rfl
  | f + 1, n, 0, acc, h, hM, _ => by omega
  | f + 1, n, M + 1, acc, h, hM, hl => by
    by_cases z : n = 0
    · subst z
      rw [bits2, if_pos rfl, show nl [] = [] from rfl, List.append_nil]
      rfl
    · have hc : (tOf (vCmp .ne (vNm 0) (vCst (.int 0)))) [.fz (.int (n : Int)), .fz (.int 2), .fz (.int 2), .ow false acc] = some (true, [.fz (.int (n : Int)), .fz (.int 2), .fz (.int 2), .ow false acc]) := tcmp_of (nm_fz (i := 0) rfl) (y := .int 0) rfl (by rw [z_ne, decide_eq_false (by omega)]; rfl)
      have m1 := modN_of (y := 2) (nm_fz (e := [.fz (.int (n : Int)), .fz (.int 2), .fz (.int 2), .ow false acc]) (i := 0) rfl) (b := vNm 2) rfl (by decide)
      have a1 := app_of (i := 3) m1 rfl (by omega) rfl
      have m2 := modN_of (y := 2) (nm_fz (e := [.fz (.int (n : Int)), .fz (.int 2), .fz (.int 2), .ow false (acc ++ [.int ((n % 2 : Nat) : Int)])]) (i := 0) rfl) (b := vNm 2) rfl (by decide)
      have s2 := sub_of (nm_fz (e := [.fz (.int (n : Int)), .fz (.int 2), .fz (.int 2), .ow false (acc ++ [.int ((n % 2 : Nat) : Int)])]) (i := 0) rfl) m2
      rw [show (n : Int) - ((n % 2 : Nat) : Int) = ((n - n % 2 : Nat) : Int) by omega] at s2
      have d2 := fdiv_of (y := 2) s2 (b := vNm 1) rfl (by decide) (by decide)
      rw [show (n - n % 2) / 2 = n / 2 by omega] at d2
      have hasg : sAsg 0 _ _ = some (.nx [.fz (.int ((n / 2 : Nat) : Int)), .fz (.int 2), .fz (.int 2), .ow false (acc ++ [.int ((n % 2 : Nat) : Int)])]) := asg_d d2 (fun i ys z => by
        match i, z with
        | 0, z => cases z
        | 1, z => cases z
        | 2, z => cases z
        | 3, z => cases z
        | i + 4, z => simp at z) (by show 0 < 4; decide)
      have hb : (sSeq (sApp 3 (vBin .mod (vNm 0) (vNm 2))) (sSeq (sAsg 0 (vBin .fdiv (vBin .sub (vNm 0) (vBin .mod (vNm 0) (vNm 2))) (vNm 1))) sPass)) [.fz (.int (n : Int)), .fz (.int 2), .fz (.int 2), .ow false acc] = some (.nx [.fz (.int ((n / 2 : Nat) : Int)), .fz (.int 2), .fz (.int 2), .ow false (acc ++ [.int ((n % 2 : Nat) : Int)])]) := sSeq_nx a1 (sSeq_nx hasg rfl)
      rw [whL, hc]
      simp only [hb]
      have ih := fig_loop f (n / 2) M (acc ++ [.int ((n % 2 : Nat) : Int)]) (by rw [Nat.pow_succ] at h; omega) (by omega) (by rw [List.length_append, List.length_singleton]; omega)
      rw [ih, bits2, if_neg z, List.append_assoc]
      rfl
end
theorem size_two (k : Nat) : ∃ tl, run G.M G.P (k + 1) 1 [.fz (.int 2)] = some (.d (.int 2), .fz (.int 2) :: tl) := ⟨[], rfl⟩
theorem fig_ok (k : Nat) {n : Nat} (h : n < 2 ^ 10) : ∃ y z tl, run G.M G.P (k + 2) 2 [.fz (.int (n : Int)), .fz (.int 2)] = some (.d (.tuple (nl (bits2 10 n))), y :: z :: tl) := by
  obtain ⟨tl, hs⟩ := size_two k
  have hl := fig_loop 10 n G.M [] h (show 10 < 1000000 by decide) (by decide)
  refine ⟨.fz (.int 0), .fz (.int 2), [.fz (.int 2), .ow false ([] ++ nl (bits2 10 n))], ?_⟩
  · show runD (run G.M G.P (k + 1)) G.M ⟨"figures", 2, 4, b_figures⟩ [.fz (.int (n : Int)), .fz (.int 2)] = _
    refine runD_d [.fz (.int (n : Int)), .fz (.int 2), .un, .un] rfl rfl ?_
    show evB _ _ b_figures _ = _
    simp only [b_figures, evB, evS, ev, evs, mkV, mkI]
    refine sSeq_nx (e1 := [.fz (.int (n : Int)), .fz (.int 2), .fz (.int 2), .un]) ?_ ?_
    · exact asg_d (e := [.fz (.int (n : Int)), .fz (.int 2), .un, .un]) (e1 := [.fz (.int (n : Int)), .fz (.int 2), .un, .un]) (i := 2) (call1_of (a := vNm 1) (x := .int 2) rfl hs) (fun i ys z => by
        match i, z with
        | 0, z => cases z
        | 1, z => cases z
        | 2, z => cases z
        | 3, z => cases z
        | i + 4, z => simp at z) (by show 2 < 4; decide)
    refine sSeq_nx (e1 := [.fz (.int (n : Int)), .fz (.int 2), .fz (.int 2), .un]) ?_ (sSeq_nx (e1 := [.fz (.int (n : Int)), .fz (.int 2), .fz (.int 2), .ow false []]) rfl (sSeq_nx hl (sSeq_rt rfl)))
    refine sIte_f ?_ rfl
    have c2 : tOf (vCmp .lt (vNm 0) (vCst (.int 0))) [.fz (.int (n : Int)), .fz (.int 2), .fz (.int 2), .un] = some (false, [.fz (.int (n : Int)), .fz (.int 2), .fz (.int 2), .un]) := tcmp_of (nm_fz (i := 0) rfl) (y := .int 0) rfl (by rw [z_lt, decide_eq_false (by omega)])
    have c1 : tOf (vCmp .gt (vNm 1) (vCst (.int 0))) [.fz (.int (n : Int)), .fz (.int 2), .fz (.int 2), .un] = some (true, [.fz (.int (n : Int)), .fz (.int 2), .fz (.int 2), .un]) := rfl
    rw [x_tAnd, c1]
    exact c2
end Lawk93
end

section
set_option maxHeartbeats 4000000
namespace Lawk93
open PySem De

theorem same_ok (k : Nat) (b c : Bool) : ∃ tl, run G.M G.P (k + 1) 3 [.fz (.bool b), .fz (.bool c)] = some (.d (.bool (b == c)), .fz (.bool b) :: .fz (.bool c) :: tl) := by
  cases b <;> cases c <;> exact ⟨_, rfl⟩
/-- the lengths of the short chains -/
def lenA : List Nat := [0, 1, 2, 3, 3, 4, 4, 5, 4, 5, 5, 6, 5, 6, 6, 6, 5, 6, 6, 7, 6, 7, 7, 7, 6, 7, 7, 7, 7, 8, 7, 8, 6, 7, 7, 8, 7, 8, 8, 8, 7, 8, 8, 8, 8, 8, 8, 9, 7, 8, 8, 8, 8, 9, 8, 9, 8, 9, 9, 9, 8, 9, 9, 9, 7, 8, 8, 9, 8, 9, 9, 10, 8, 9, 9, 9, 9, 9, 9, 10, 8, 9, 9, 9, 9, 9, 9, 10, 9, 10, 9, 10, 9, 10, 10, 10, 8, 9, 9, 9, 9]
def lenT (n : Nat) : Nat := lenA.getD n 0
def okT (n : Nat) : Bool := match sch n 9 n.log2 with
  | some x => chB x && Nat.beq (x.headD 0) n && Nat.beq x.length (lenT n)
  | none => false
theorem tab1 : (List.range 100).all (fun n => okT (n + 1)) = true := by decide +kernel
theorem short2 (k : Nat) {n : Nat} (h1 : 1 ≤ n) (h2 : n ≤ 100) : Ch (shr n) ∧ (shr n).headD 0 = n ∧ (shr n).length = lenT n ∧ ∃ tl, run G.M G.P (k + 41) 8 [.fz (.int (n : Int))] = some (.d (adg n (nl (shr n).reverse)), .fz (.int (n : Int)) :: tl) := by
  have ht := List.all_eq_true.1 tab1 (n - 1) (List.mem_range.2 (by omega))
  rw [show n - 1 + 1 = n by omega] at ht
  unfold okT at ht
  cases hs : sch n 9 n.log2 with
  | none => rw [hs] at ht; cases ht
  | some x =>
    rw [hs] at ht
    have hx : shr n = x := by unfold shr; rw [hs]
    have t1 := Bool.and_eq_true_iff.1 ht
    have t2 := Bool.and_eq_true_iff.1 t1.1
    rw [hx]
    exact ⟨chB_ok _ t2.1, Nat.eq_of_beq_eq_true t2.2, Nat.eq_of_beq_eq_true t1.2, short_ok k h1 h2 hs⟩
def okP : Bool := (List.range 9).all fun a => (List.range 10).all fun b => Nat.ble (lenT ((a + 1) * (b + 1))) (lenT (a + 1) + (lenT (b + 1) - 1))
theorem tab2 : okP = true := by decide +kernel
theorem len_prod {n m : Nat} (h1 : 1 ≤ n) (h2 : n ≤ 9) (h3 : 1 ≤ m) (h4 : m ≤ 10) : lenT (n * m) ≤ lenT n + (lenT m - 1) := by
  have := List.all_eq_true.1 (List.all_eq_true.1 tab2 (n - 1) (List.mem_range.2 (by omega))) (m - 1) (List.mem_range.2 (by omega))
  rw [show n - 1 + 1 = n by omega, show m - 1 + 1 = m by omega] at this
  exact Nat.le_of_ble_eq_true this
/-- what the law asks of k -/
def okK (k : Nat) : Prop := (bits2 10 k).length ≤ lenT k ∧ (dH k.log2 k).length + 1 = (bits2 10 k).length + (bits2 10 k).sum ∧ lenT k ≤ (dH k.log2 k).length ∧ lenT (2 * k) ≤ lenT k + 1 ∧ ((bits2 10 k).sum = 1 → lenT k = (bits2 10 k).length) ∧ ((bits2 10 k).sum = 2 → lenT k = (bits2 10 k).length + 1)
instance (k : Nat) : Decidable (okK k) := by unfold okK; infer_instance
theorem tab3 : ∀ k : Fin 50, okK (k.val + 1) := by decide +kernel
theorem all_k {k : Nat} (h1 : 1 ≤ k) (h2 : k ≤ 50) : okK k := by
  have := tab3 ⟨k - 1, by omega⟩
  rwa [show k - 1 + 1 = k by omega] at this
theorem Ch.le {r : List Nat} (h : Ch r) : ∀ x ∈ r, x ≤ r.headD 0 := by
  induction h with
  | one => intro x hx; rw [List.mem_singleton] at hx; subst hx; exact Nat.le_refl _
  | step a x z r h hlt hx hz e ih =>
    intro y hy
    rcases List.mem_cons.1 hy with rfl | hy
    · exact Nat.le_refl _
    · have := ih y hy
      show y ≤ a
      omega
end Lawk93
end

section
set_option maxHeartbeats 4000000
set_option exponentiation.threshold 500000
namespace Lawk93
open PySem De

structure St (e : En) (xs : List Dt) : Prop where
  len : e.length = 20
  pool : e[1]? = some (.ow false xs)
  ok : PoolOk xs
  u : e[19]? = some .un
  np : ∀ (i : Nat) (ys : List Dt), e[i]? ≠ some (.ow true ys)
theorem np_set {e : En} {i : Nat} {s : Sv} (np : ∀ (i : Nat) (ys : List Dt), e[i]? ≠ some (.ow true ys)) (hs : ∀ ys, s ≠ Sv.ow true ys) : ∀ (j : Nat) (ys : List Dt), (e.set i s)[j]? ≠ some (.ow true ys) := fun j ys z => by
  rcases getSet z with ⟨_, z⟩ | ⟨_, z⟩
  · exact hs ys z.symm
  · exact np j ys z
theorem St.set {e : En} {xs : List Dt} (h : St e xs) {i : Nat} {d : Dt} (hi : i ≠ 1 ∧ i ≠ 19) : St (e.set i (.fz d)) xs :=
  ⟨by rw [List.length_set]; exact h.len, g_ne h.pool hi.1, h.ok, g_ne h.u hi.2, np_set h.np (fun _ z => nomatch z)⟩
theorem St.draw {e : En} {xs xs' : List Dt} (h : St e xs) (hp : PoolOk xs') : St (e.set 1 (.ow false xs')) xs' :=
  ⟨by rw [List.length_set]; exact h.len, g_eq (by rw [h.len]; decide), hp, g_ne h.u (by decide), np_set h.np (fun _ z => nomatch z)⟩
theorem draw1 {e : En} {xs : List Dt} (hS : St e xs) {a : FV} {size : Int} (ha : a e = some (.d (.int size), e)) (hs : 0 < size) (hl : size.natAbs < 2 ^ 100) :
    ∃ v xs', 0 ≤ v ∧ v < size ∧ PoolOk xs' ∧ vCall (run G.M G.P 59 4) (aCons (vNm 1) (aCons a aNil)) e = some (.d (.int v), e.set 1 (.ow false xs')) := by
  obtain ⟨v, xs', h1, h2, h3, h4⟩ := draw_of 58 hS.pool hS.ok ha hs hl
  exact ⟨v, xs', h1, h2, h3, h4⟩
theorem pool_call {e : En} {xs xs' : List Dt} (hS : St e xs) {f : Nat} {v : Dt} {tl : En} (h : run G.M G.P 59 f [.ow true xs] = some (.d v, .ow true xs' :: tl)) : vCall (run G.M G.P 59 f) (aCons (vNm 1) aNil) e = some (.d v, e.set 1 (.ow false xs')) := by
  have h1 := hS.pool
  simp only [List.getElem?_cons_zero, List.getElem?_cons_succ, List.set_cons_zero, List.set_cons_succ, List.replicate_succ, List.replicate_zero, List.cons_append, List.nil_append, x_vCst, x_vNm, x_vBin, x_vNeg, x_vBits, x_vCmp, x_vCmp2, x_vAnd, x_vOr, x_vNot, x_vIte, x_vTup, x_vLst, x_vIx, x_vSlF, x_vSlT, x_vSl, x_vRev, x_vCall, x_vBlt, x_vBlt2, x_vPop, x_vPopAt, x_fYes, x_vFz, x_vNo, x_tOf, x_tAnd, x_tOr, x_tNot, x_iOf, x_iNo, x_iRng1, x_iRng2, x_iRng3, x_iEnum, x_iZip, x_iRevd, x_aNil, x_aCons, x_dNil, x_dCons, x_sAsg, x_sAsgT, x_sPar, x_sSet, x_sAug, x_sAugS, x_sApp, x_sExt, x_sEx, x_sIte, x_sRet, x_sRetN, x_sBrk, x_sCont, x_sPass, x_sNo, x_sSeq, argsOf, argOf, locs, backs, nd0, nd1, store, put, frz, tgt, tgts, isOw, z_add, z_sub, z_xor, z_eq, z_ne, z_lt, z_le, z_gt, z_ge, z_dd, z_do, z_dl, z_tb, z_lenL, z_lenT, z_int, z_intB, z_abs, z_max, z_min, z_tupL, z_tupT, z_lstL, z_lstT, z_scr, ix0, ix1, ix2, ix3, ix4, ixn1, ixn2, ixn3, ixn4, decide_true, decide_false, if_true, if_false, Bool.false_eq_true, Bool.and_true, Bool.true_and, Bool.not_true, Bool.not_false, x_turnC, wipeE, back, x_sForB, x_forB, List.getD_cons_zero, List.getD_cons_succ, h1, h]
theorem par2_of {a b : FV} {e e1 e2 : En} {x y : Dt} {i j : Nat} (ha : a e = some (.d x, e1)) (hb : b e1 = some (.d y, e2)) (np : ∀ (i : Nat) (ys : List Dt), e2[i]? ≠ some (.ow true ys)) (hi : i < e2.length) (hj : j < e2.length) :
    sPar (.cons (.nm i) (.cons (.nm j) .nil)) (dCons a (dCons b dNil)) e = some (.nx ((e2.set i (.fz x)).set j (.fz y))) := by
  have p1 : put e2 i (.fz x) = some (e2.set i (.fz x)) := put_of np hi
  have p2 : put (e2.set i (.fz x)) j (.fz y) = some ((e2.set i (.fz x)).set j (.fz y)) := put_of (np_set (s := .fz x) np (fun _ z => nomatch z)) (by rw [List.length_set]; exact hj)
  have hs : small [x, y] = true := rfl
  rw [x_sPar]
  simp only [x_dCons, x_dNil, ha, hb, frz, tgts, tgt, p1, p2, hs, if_true]
theorem par3_of {a b c : FV} {e e1 e2 e3 : En} {x y w : Dt} {i j k : Nat} (ha : a e = some (.d x, e1)) (hb : b e1 = some (.d y, e2)) (hc : c e2 = some (.d w, e3)) (np : ∀ (i : Nat) (ys : List Dt), e3[i]? ≠ some (.ow true ys)) (hi : i < e3.length) (hj : j < e3.length) (hk : k < e3.length) :
    sPar (.cons (.nm i) (.cons (.nm j) (.cons (.nm k) .nil))) (dCons a (dCons b (dCons c dNil))) e = some (.nx (((e3.set i (.fz x)).set j (.fz y)).set k (.fz w))) := by
  have p1 : put e3 i (.fz x) = some (e3.set i (.fz x)) := put_of np hi
  have p2 : put (e3.set i (.fz x)) j (.fz y) = some ((e3.set i (.fz x)).set j (.fz y)) := put_of (np_set (s := .fz x) np (fun _ z => nomatch z)) (by rw [List.length_set]; exact hj)
  have p3 : put ((e3.set i (.fz x)).set j (.fz y)) k (.fz w) = some (((e3.set i (.fz x)).set j (.fz y)).set k (.fz w)) := put_of (np_set (s := .fz y) (np_set (s := .fz x) np (fun _ z => nomatch z)) (fun _ z => nomatch z)) (by rw [List.length_set, List.length_set]; exact hk)
  have hs : small [x, y, w] = true := rfl
  rw [x_sPar]
  simp only [x_dCons, x_dNil, ha, hb, hc, frz, tgts, tgt, p1, p2, p3, hs, if_true]
theorem adg_of {v w : FV} {e : En} {N : Nat} {cs : List Dt} (hv : v e = some (.d (.int (N : Int)), e)) (hw : w e = some (.d (.tuple cs), e)) : vTup (dCons (vCst (.str "adding")) (dCons v (dCons w dNil))) e = some (.d (adg N cs), e) := by
  have hs : small [.str "adding", .int (N : Int), .tuple cs] = true := rfl
  rw [x_vTup]
  simp only [x_dCons, x_dNil, x_vCst, hv, hw, frz, hs, if_true]
theorem third_of {f : FV} {e e1 : En} {N : Nat} {cs : List Dt} (h : f e = some (.d (adg N cs), e1)) : vIx f (vCst (.int 2)) e = some (.d (.tuple cs), e1) := ix_of h (y := 2) rfl rfl
theorem same_call {v w : FV} {e : En} {N : Nat} {xs : List Nat} (b : Bool) (hv : v e = some (.d (.int (N : Int)), e)) (hw : w e = some (.d (.tuple (nl xs)), e)) (hl : xs.length ≤ 1000) :
    vCall (run G.M G.P 59 3) (aCons (vCall (run G.M G.P 59 5) (aCons (vTup (dCons (vCst (.str "adding")) (dCons v (dCons w dNil)))) aNil)) (aCons (vCst (.bool b)) aNil)) e = some (.d (.bool (arF N xs == b)), e) := by
  obtain ⟨tl, h1⟩ := ar_ok 58 (N := N) hl
  obtain ⟨tl2, h2⟩ := same_ok 58 (arF N xs) b
  exact call2_of (call1_of (adg_of hv hw) h1) (x2 := .bool b) rfl h2
theorem slF_of {a b : FV} {e e1 e2 : En} {x : List Dt} {k : Nat} (ha : a e = some (.d (.tuple x), e1)) (hb : b e1 = some (.d (.int (k : Int)), e2)) : vSlF a b e = some (.d (.tuple (x.drop k)), e2) := by
  have hc : cut x (some (k : Int)) none = x.drop k := by
    unfold cut
    rw [HT.sIx_none, HT.sIx_nat]
    by_cases c : k ≤ x.length
    · rw [Nat.min_eq_left c, List.take_of_length_le (by rw [List.length_drop]; omega)]
    · rw [Nat.min_eq_right (by omega), Nat.sub_self, List.take_zero, List.drop_of_length_le (by omega)]
  rw [x_vSlF, ha]
  simp only [hb, deref, slice, hc]
theorem sumN_of {a : FV} {e e1 : En} {xs : List Nat} (ha : a e = some (.d (.tuple (nl xs)), e1)) : vBlt .sum a e = some (.d (.int ((xs.sum : Nat) : Int)), e1) := by
  have h1 : nl xs = il (xs.map fun (x : Nat) => (x : Int)) := by
    unfold nl il
    rw [List.map_map]
    rfl
  have h2 : (xs.map fun (x : Nat) => (x : Int)).sum = ((xs.sum : Nat) : Int) := by
    clear ha h1
    induction xs with
    | nil => rfl
    | cons x xs ih =>
      rw [List.map_cons, List.sum_cons, List.sum_cons, ih]
      omega
  rw [h1] at ha
  rw [sum_of ha, h2]
theorem lenN_of {a : FV} {e e1 : En} {xs : List Nat} (ha : a e = some (.d (.tuple (nl xs)), e1)) : vBlt .len a e = some (.d (.int (xs.length : Int)), e1) := by
  rw [lenT_of ha, List.length_map]
/-- the chain of the product -/
theorem joined_of {e : En} {xs : List Dt} (hS : St e xs) {p q r : Nat} {n : Nat} {a b : List Nat} (hp : e[p]? = some (.fz (.int (n : Int)))) (hq : e[q]? = some (.fz (.tuple (nl b.reverse)))) (hr : e[r]? = some (.fz (.tuple (nl a.reverse)))) (hp19 : p ≠ 19)
    (ha : a.length ≤ 400) (hb : b.length ≤ 400) (hn : n < 2 ^ 1000) (hbb : ∀ x ∈ b, x < 2 ^ 1000) :
    vBin .add (vNm r) (vBlt .tuple (vComp (vBin .mul (vNm p) (vNm 19)) [19] (.nm 19) (iOf (vSlF (vNm q) (vCst (.int 1)))) fYes)) e = some (.d (.tuple (nl (pr n b a).reverse)), e) := by
  have hs := slF_of (nm_fz hq) (b := vCst (.int 1)) (k := 1) (e2 := e) rfl
  have hd : (nl b.reverse).drop 1 = nl b.reverse.tail := by
    rw [List.drop_one]
    exact List.map_tail.symm
  rw [hd] at hs
  have hit : iOf (vSlF (vNm q) (vCst (.int 1))) e = some (nl b.reverse.tail, e) := by
    rw [x_iOf, hs]
    rfl
  have hcl : compL (turnC (vBin .mul (vNm p) (vNm 19)) [19] (.nm 19) fYes) (nl b.reverse.tail) e = some (nl (b.reverse.tail.map fun x => n * x), e) := by
    rw [compL_map (φ := fun d => match d with
      | .int x => [.int ((n : Int) * x)]
      | _ => []) _ ?_]
    · congr 2
      generalize b.reverse.tail = l
      induction l with
      | nil => rfl
      | cons x l ih =>
        show PyData.int ((n : Int) * (x : Int)) :: _ = PyData.int ((n * x : Nat) : Int) :: _
        rw [Int.natCast_mul]
        congr 1
    · intro d hd
      obtain ⟨x, hx, rfl⟩ := List.mem_map.1 hd
      have hxb : x < 2 ^ 1000 := hbb x (List.mem_reverse.1 (List.mem_of_mem_tail hx))
      have p1 := g_ne (s := .fz (.int (x : Int))) hp (Ne.symm hp19)
      have p2 : (e.set 19 (.fz (.int (x : Int))))[19]? = some (.fz (.int (x : Int))) := g_eq (by rw [hS.len]; decide)
      refine turn1 hS.u rfl (mul_of (nm_fz p1) (nm_fz p2) (mul_ok ?_ ?_))
      · rw [Int.natAbs_natCast]
        exact Nat.lt_trans hn (Nat.pow_lt_pow_right (by decide) (by decide))
      · rw [Int.natAbs_natCast]
        exact Nat.lt_trans hxb (Nat.pow_lt_pow_right (by decide) (by decide))
  have hcomp := comp1 hS.u hit hcl (small_il (by rw [List.length_map, List.length_map, List.length_tail, List.length_reverse]; omega))
  rw [pr_rev, nl_app]
  exact cat_of (nm_fz hr) (tupL_of hcomp) (by rw [List.length_map, List.length_map, List.length_map, List.length_tail, List.length_reverse, List.length_reverse]; omega)
end Lawk93
end

section
set_option maxHeartbeats 4000000
set_option exponentiation.threshold 500000
namespace Lawk93
open PySem De

theorem lenT_le {n : Nat} (h : n ≤ 100) : lenT n ≤ 20 := by
  have : ∀ n : Fin 101, lenT n.val ≤ 20 := by decide +kernel
  exact this ⟨n, by omega⟩
abbrev Nn (e : En) (i : Nat) (n : Nat) : Prop := e[i]? = some (.fz (.int (n : Int)))
abbrev Nt (e : En) (i : Nat) (r : List Nat) : Prop := e[i]? = some (.fz (.tuple (nl r)))
theorem s1_ok {e : En} {xs : List Dt} (hS : St e xs) : ∃ (n m : Nat) (e' : En) (xs' : List Dt), 1 ≤ n ∧ n ≤ 9 ∧ 1 ≤ m ∧ m ≤ 10 ∧ (sPar (.cons (.nm 3) (.cons (.nm 4) .nil)) (dCons (vBin .add (vCst (.int 1)) (vCall ((run G.M G.P 59) 4) (aCons (vNm 1) (aCons (vCst (.int 9)) aNil)))) (dCons (vBin .add (vCst (.int 1)) (vCall ((run G.M G.P 59) 4) (aCons (vNm 1) (aCons (vCst (.int 10)) aNil)))) dNil))) e = some (.nx e') ∧ St e' xs' ∧ Nn e' 3 n ∧ Nn e' 4 m := by
  obtain ⟨v, x1, a1, a2, a3, r1⟩ := draw1 hS (a := vCst (.int 9)) (size := 9) rfl (by decide) (by decide)
  have S1 := hS.draw a3
  obtain ⟨w, x2, b1, b2, b3, r2⟩ := draw1 S1 (a := vCst (.int 10)) (size := 10) rfl (by decide) (by decide)
  have S2 := S1.draw b3
  obtain ⟨n, hn⟩ : ∃ n : Nat, 1 + v = (n : Int) := ⟨(1 + v).toNat, by omega⟩
  obtain ⟨m, hm⟩ : ∃ n : Nat, 1 + w = (n : Int) := ⟨(1 + w).toNat, by omega⟩
  have p := par2_of (i := 3) (j := 4) (add_of (a := vCst (.int 1)) (x := 1) rfl r1) (add_of (a := vCst (.int 1)) (x := 1) rfl r2) S2.np (by rw [S2.len]; decide) (by rw [S2.len]; decide)
  rw [hn, hm] at p
  exact ⟨n, m, _, x2, by omega, by omega, by omega, by omega, p, (S2.set (by decide)).set (by decide), g_ne (g_eq (by rw [S2.len]; decide)) (by decide), g_eq (by rw [List.length_set, S2.len]; decide)⟩
theorem s2_ok {e : En} {xs : List Dt} (hS : St e xs) {n m : Nat} (h3 : Nn e 3 n) (h4 : Nn e 4 m) (n1 : 1 ≤ n) (n2 : n ≤ 9) (m1 : 1 ≤ m) (m2 : m ≤ 10) : ∃ (e' : En), (sPar (.cons (.nm 5) (.cons (.nm 6) (.cons (.nm 7) .nil))) (dCons (vIx (vCall ((run G.M G.P 59) 8) (aCons (vFz (vNm 3)) aNil)) (vCst (.int 2))) (dCons (vIx (vCall ((run G.M G.P 59) 8) (aCons (vFz (vNm 4)) aNil)) (vCst (.int 2))) (dCons (vIx (vCall ((run G.M G.P 59) 8) (aCons (vBin .mul (vNm 3) (vNm 4)) aNil)) (vCst (.int 2))) dNil)))) e = some (.nx e') ∧ St e' xs ∧ Nn e' 3 n ∧ Nn e' 4 m ∧ Nt e' 5 (shr n).reverse ∧ Nt e' 6 (shr m).reverse ∧ Nt e' 7 (shr (n * m)).reverse := by
  obtain ⟨_, _, _, t1, r1⟩ := short2 18 (n := n) n1 (by omega)
  obtain ⟨_, _, _, t2, r2⟩ := short2 18 (n := m) m1 (by omega)
  have hp : n * m ≤ 9 * 10 := Nat.mul_le_mul n2 m2
  have hp1 : 1 ≤ n * m := Nat.mul_pos n1 m1
  obtain ⟨_, _, _, t3, r3⟩ := short2 18 (n := n * m) hp1 (by omega)
  have hm := mul_of (nm_fz h3) (nm_fz h4) (small_mul (by omega) (by omega) (by omega) (by omega))
  rw [← Int.natCast_mul] at hm
  have p := par3_of (i := 5) (j := 6) (k := 7) (third_of (call1_of (fz_fz h3) r1)) (third_of (call1_of (fz_fz h4) r2)) (third_of (call1_of hm r3)) hS.np (by rw [hS.len]; decide) (by rw [hS.len]; decide) (by rw [hS.len]; decide)
  exact ⟨_, p, ((hS.set (by decide)).set (by decide)).set (by decide), g_ne (g_ne (g_ne h3 (by decide)) (by decide)) (by decide), g_ne (g_ne (g_ne h4 (by decide)) (by decide)) (by decide),
    g_ne (g_ne (g_eq (by rw [hS.len]; decide)) (by decide)) (by decide), g_ne (g_eq (by rw [List.length_set, hS.len]; decide)) (by decide), g_eq (by rw [List.length_set, List.length_set, hS.len]; decide)⟩
theorem lt_pow {n k : Nat} (h : n < 2 ^ k) (hk : k ≤ 1000) : n < 2 ^ 1000 := Nat.lt_of_lt_of_le h (Nat.pow_le_pow_right (by decide) hk)
theorem ch_lt {r : List Nat} (h : Ch r) {n k : Nat} (hn : r.headD 0 = n) (hk : n < 2 ^ k) (hk2 : k ≤ 1000) : ∀ x ∈ r, x < 2 ^ 1000 := fun x hx => by
  have := h.le x hx
  rw [hn] at this
  exact Nat.lt_of_le_of_lt this (lt_pow hk hk2)
theorem s3_ok {e : En} {xs : List Dt} (hS : St e xs) {n m : Nat} (h3 : Nn e 3 n) (h4 : Nn e 4 m) (h5 : Nt e 5 (shr n).reverse) (h6 : Nt e 6 (shr m).reverse) (h7 : Nt e 7 (shr (n * m)).reverse) (n1 : 1 ≤ n) (n2 : n ≤ 9) (m1 : 1 ≤ m) (m2 : m ≤ 10) :
    ∃ (e' : En), (sAsg 8 (vBin .add (vNm 5) (vBlt .tuple (vComp (vBin .mul (vNm 3) (vNm 19)) [19] (.nm 19) (iOf (vSlF (vNm 6) (vCst (.int 1)))) fYes)))) e = some (.nx e') ∧ St e' xs ∧ Nn e' 3 n ∧ Nn e' 4 m ∧ Nt e' 7 (shr (n * m)).reverse ∧ Nt e' 8 (pr n (shr m) (shr n)).reverse := by
  obtain ⟨_, _, l1, _⟩ := short2 18 (n := n) n1 (by omega)
  obtain ⟨c2, k2, l2, _⟩ := short2 18 (n := m) m1 (by omega)
  have b1 := lenT_le (n := n) (by omega)
  have b2 := lenT_le (n := m) (by omega)
  have hj := joined_of hS h3 h6 h5 (by decide) (by omega) (by omega) (lt_pow (k := 10) (Nat.lt_of_le_of_lt n2 (by decide)) (by decide)) (ch_lt c2 k2 (k := 10) (Nat.lt_of_le_of_lt m2 (by decide)) (by decide))
  exact ⟨_, asg_d (i := 8) hj hS.np (by rw [hS.len]; decide), hS.set (by decide), g_ne h3 (by decide), g_ne h4 (by decide), g_ne h7 (by decide), g_eq (by rw [hS.len]; decide)⟩
theorem s4_ok {e : En} {n m : Nat} (h3 : Nn e 3 n) (h4 : Nn e 4 m) (h7 : Nt e 7 (shr (n * m)).reverse) (h8 : Nt e 8 (pr n (shr m) (shr n)).reverse) (n1 : 1 ≤ n) (n2 : n ≤ 9) (m1 : 1 ≤ m) (m2 : m ≤ 10) : (sIte (tOr (tNot (tOf (vCall ((run G.M G.P 59) 3) (aCons (vCall ((run G.M G.P 59) 5) (aCons (vTup (dCons (vCst (.str "adding")) (dCons (vBin .mul (vNm 3) (vNm 4)) (dCons (vNm 8) dNil)))) aNil)) (aCons (vCst (.bool true)) aNil))))) (tOf (vCmp .gt (vBlt .len (vNm 7)) (vBlt .len (vNm 8))))) (sSeq (sRet (vCst (.bool false))) sPass) sPass) e = some (.nx e) := by
  obtain ⟨c1, k1, l1, _⟩ := short2 18 (n := n) n1 (by omega)
  obtain ⟨c2, k2, l2, _⟩ := short2 18 (n := m) m1 (by omega)
  have b1 := lenT_le (n := n) (by omega)
  have b2 := lenT_le (n := m) (by omega)
  have hp : n * m ≤ 9 * 10 := Nat.mul_le_mul n2 m2
  have hp1 : 1 ≤ n * m := Nat.mul_pos n1 m1
  obtain ⟨c3, k3, l3, _⟩ := short2 18 (n := n * m) hp1 (by omega)
  have hlen := pr_len n (shr m) (shr n)
  have hm := mul_of (nm_fz h3) (nm_fz h4) (small_mul (by omega) (by omega) (by omega) (by omega))
  rw [← Int.natCast_mul] at hm
  obtain ⟨q1, _, q2⟩ := pr_ok c1 k1 c2
  have har := q1.ar (N := n * m) (by rw [q2, k2])
  have hs := same_call true hm (nm_fz h8) (by rw [List.length_reverse]; omega)
  rw [har] at hs
  have t1 : tNot (tOf (vCall (run G.M G.P 59 3) _)) e = some (false, e) := tnot_of (tof_b hs)
  have t2 := tcmp_of (op := .gt) (lenN_of (nm_fz h7)) (lenN_of (nm_fz h8)) z_gt
  rw [List.length_reverse, List.length_reverse, decide_eq_false (by have := len_prod n1 n2 m1 m2; omega)] at t2
  exact sIte_f (tor_f t1 t2) rfl
theorem s5_ok {e : En} {xs : List Dt} (hS : St e xs) : ∃ (k : Nat) (e' : En) (xs' : List Dt), 1 ≤ k ∧ k ≤ 50 ∧ (sAsg 9 (vBin .add (vCst (.int 1)) (vCall ((run G.M G.P 59) 4) (aCons (vNm 1) (aCons (vCst (.int 50)) aNil))))) e = some (.nx e') ∧ St e' xs' ∧ Nn e' 9 k := by
  obtain ⟨v, x1, a1, a2, a3, r1⟩ := draw1 hS (a := vCst (.int 50)) (size := 50) rfl (by decide) (by decide)
  have S1 := hS.draw a3
  obtain ⟨n, hn⟩ : ∃ n : Nat, 1 + v = (n : Int) := ⟨(1 + v).toNat, by omega⟩
  have hv := add_of (a := vCst (.int 1)) (x := 1) rfl r1
  rw [hn] at hv
  exact ⟨n, _, x1, by omega, by omega, asg_d (i := 9) hv S1.np (by rw [S1.len]; decide), S1.set (by decide), g_eq (by rw [S1.len]; decide)⟩
theorem two_k {e : En} {k : Nat} (h : Nn e 9 k) (hk : k ≤ 50) : vBin .mul (vCst (.int 2)) (vNm 9) e = some (.d (.int ((2 * k : Nat) : Int)), e) := by
  rw [Int.natCast_mul]
  exact mul_of (x := 2) rfl (nm_fz h) (small_mul (by decide) (by decide) (by omega) (by omega))
theorem s6_ok {e : En} {xs : List Dt} (hS : St e xs) {k : Nat} (h9 : Nn e 9 k) (k1 : 1 ≤ k) (k2 : k ≤ 50) : ∃ (e' : En), (sPar (.cons (.nm 10) (.cons (.nm 11) .nil)) (dCons (vIx (vCall ((run G.M G.P 59) 8) (aCons (vFz (vNm 9)) aNil)) (vCst (.int 2))) (dCons (vIx (vCall ((run G.M G.P 59) 8) (aCons (vBin .mul (vCst (.int 2)) (vNm 9)) aNil)) (vCst (.int 2))) dNil))) e = some (.nx e') ∧ St e' xs ∧ Nn e' 9 k ∧ Nt e' 10 (shr k).reverse ∧ Nt e' 11 (shr (2 * k)).reverse := by
  obtain ⟨_, _, _, t1, r1⟩ := short2 18 (n := k) k1 (by omega)
  obtain ⟨_, _, _, t2, r2⟩ := short2 18 (n := 2 * k) (by omega) (by omega)
  have p := par2_of (i := 10) (j := 11) (third_of (call1_of (fz_fz h9) r1)) (third_of (call1_of (two_k h9 k2) r2)) hS.np (by rw [hS.len]; decide) (by rw [hS.len]; decide)
  exact ⟨_, p, (hS.set (by decide)).set (by decide), g_ne (g_ne h9 (by decide)) (by decide), g_ne (g_eq (by rw [hS.len]; decide)) (by decide), g_eq (by rw [List.length_set, hS.len]; decide)⟩
theorem s7_ok {e : En} {xs : List Dt} (hS : St e xs) {k : Nat} (h9 : Nn e 9 k) (h10 : Nt e 10 (shr k).reverse) (h11 : Nt e 11 (shr (2 * k)).reverse) (k1 : 1 ≤ k) (k2 : k ≤ 50) : ∃ (e' : En), (sAsg 12 (vCall ((run G.M G.P 59) 2) (aCons (vFz (vNm 9)) (aCons (vCst (.int 2)) aNil)))) e = some (.nx e') ∧ St e' xs ∧ Nn e' 9 k ∧ Nt e' 10 (shr k).reverse ∧ Nt e' 11 (shr (2 * k)).reverse ∧ Nt e' 12 (bits2 10 k) := by
  obtain ⟨y, z, tl, r⟩ := fig_ok 57 (n := k) (Nat.lt_of_le_of_lt k2 (by decide))
  exact ⟨_, asg_d (i := 12) (call2_of (fz_fz h9) (b := vCst (.int 2)) (x2 := .int 2) rfl r) hS.np (by rw [hS.len]; decide), hS.set (by decide), g_ne h9 (by decide), g_ne h10 (by decide), g_ne h11 (by decide), g_eq (by rw [hS.len]; decide)⟩
theorem k_lt {k : Nat} (k2 : k ≤ 50) : k < 2 ^ 190 := Nat.lt_of_le_of_lt k2 (Nat.lt_of_lt_of_le (show 50 < 2 ^ 10 by decide) (Nat.pow_le_pow_right (by decide) (by decide)))
theorem s8_ok {e : En} {k : Nat} (h9 : Nn e 9 k) (h10 : Nt e 10 (shr k).reverse) (h12 : Nt e 12 (bits2 10 k)) (k1 : 1 ≤ k) (k2 : k ≤ 50) : (sIte (tOr (tOf (vCmp .lt (vBlt .len (vNm 10)) (vBlt .len (vNm 12)))) (tOr (tOf (vCmp .ne (vBlt .len (vIx (vCall ((run G.M G.P 59) 10) (aCons (vFz (vNm 9)) aNil)) (vCst (.int 2)))) (vBin .sub (vBin .add (vBlt .len (vNm 12)) (vBlt .sum (vNm 12))) (vCst (.int 1))))) (tOf (vCmp .gt (vBlt .len (vNm 10)) (vBlt .len (vIx (vCall ((run G.M G.P 59) 10) (aCons (vFz (vNm 9)) aNil)) (vCst (.int 2)))))))) (sSeq (sRet (vCst (.bool false))) sPass) sPass) e = some (.nx e) := by
  obtain ⟨c1, q1, l1, _⟩ := short2 18 (n := k) k1 (by omega)
  obtain ⟨f1, f2, f3, f4, f5, f6⟩ := all_k k1 k2
  obtain ⟨tl, r⟩ := double_ok 57 k1 (k_lt k2)
  have t1 := tcmp_of (op := .lt) (lenN_of (nm_fz h10)) (lenN_of (nm_fz h12)) z_lt
  rw [List.length_reverse, decide_eq_false (by omega)] at t1
  have hd := lenN_of (third_of (call1_of (fz_fz h9) r))
  rw [List.length_reverse] at hd
  have t2 := tcmp_of (op := .ne) hd (sub_of (add_of (lenN_of (nm_fz h12)) (sumN_of (nm_fz h12))) (b := vCst (.int 1)) (y := 1) rfl) z_ne
  rw [decide_eq_true (by omega)] at t2
  have t3 := tcmp_of (op := .gt) (lenN_of (nm_fz h10)) hd z_gt
  rw [List.length_reverse, decide_eq_false (by omega)] at t3
  exact sIte_f (tor_f t1 (tor_f t2 t3)) rfl
theorem s9_ok {e : En} {k : Nat} (h9 : Nn e 9 k) (h10 : Nt e 10 (shr k).reverse) (h11 : Nt e 11 (shr (2 * k)).reverse) (k1 : 1 ≤ k) (k2 : k ≤ 50) : (sIte (tOr (tOf (vCmp .gt (vBlt .len (vNm 11)) (vBin .add (vBlt .len (vNm 10)) (vCst (.int 1))))) (tNot (tOf (vCall ((run G.M G.P 59) 3) (aCons (vCall ((run G.M G.P 59) 5) (aCons (vTup (dCons (vCst (.str "adding")) (dCons (vBin .mul (vCst (.int 2)) (vNm 9)) (dCons (vBin .add (vNm 10) (vTup (dCons (vBin .mul (vCst (.int 2)) (vNm 9)) dNil))) dNil)))) aNil)) (aCons (vCst (.bool true)) aNil)))))) (sSeq (sRet (vCst (.bool false))) sPass) sPass) e = some (.nx e) := by
  obtain ⟨c1, q1, l1, _⟩ := short2 18 (n := k) k1 (by omega)
  obtain ⟨_, _, l2, _⟩ := short2 18 (n := 2 * k) (by omega) (by omega)
  obtain ⟨f1, f2, f3, f4, f5, f6⟩ := all_k k1 k2
  have b1 := lenT_le (n := k) (by omega)
  have t1 := tcmp_of (op := .gt) (lenN_of (nm_fz h11)) (add_of (lenN_of (nm_fz h10)) (b := vCst (.int 1)) (y := 1) rfl) z_gt
  rw [List.length_reverse, List.length_reverse, decide_eq_false (by omega)] at t1
  have hcat := cat_of (nm_fz h10) (tup1_of (two_k h9 k2)) (by rw [List.length_map, List.length_reverse, List.length_singleton]; omega)
  have hch : Ch ((2 * k) :: shr k) := Ch.step (2 * k) k k _ c1 (by rw [q1]; omega) (by have := c1.head; rw [q1] at this; exact this) (by have := c1.head; rw [q1] at this; exact this) (by omega)
  have har := hch.ar (N := 2 * k) rfl
  have e1 : nl (shr k).reverse ++ [PyData.int ((2 * k : Nat) : Int)] = nl ((2 * k) :: shr k).reverse := by
    rw [List.reverse_cons, nl_app]
    rfl
  rw [e1] at hcat
  have hs := same_call true (two_k h9 k2) hcat (by rw [List.length_reverse, List.length_cons]; omega)
  rw [har] at hs
  exact sIte_f (tor_f t1 (tnot_of (tof_b hs))) rfl
theorem tand_f {a b : FT} {e e1 : En} (ha : a e = some (false, e1)) : tAnd a b e = some (false, e1) := by
  rw [x_tAnd, ha]
theorem tand_t {a b : FT} {e e1 e2 : En} {k : Bool} (ha : a e = some (true, e1)) (hb : b e1 = some (k, e2)) : tAnd a b e = some (k, e2) := by
  rw [x_tAnd, ha]
  exact hb
theorem s10_ok {e : En} {k : Nat} (h10 : Nt e 10 (shr k).reverse) (h12 : Nt e 12 (bits2 10 k)) (k1 : 1 ≤ k) (k2 : k ≤ 50) : (sIte (tOr (tAnd (tOf (vCmp .eq (vBlt .sum (vNm 12)) (vCst (.int 1)))) (tOf (vCmp .ne (vBlt .len (vNm 10)) (vBlt .len (vNm 12))))) (tAnd (tOf (vCmp .eq (vBlt .sum (vNm 12)) (vCst (.int 2)))) (tOf (vCmp .ne (vBlt .len (vNm 10)) (vBin .add (vBlt .len (vNm 12)) (vCst (.int 1))))))) (sSeq (sRet (vCst (.bool false))) sPass) sPass) e = some (.nx e) := by
  obtain ⟨_, _, l1, _⟩ := short2 18 (n := k) k1 (by omega)
  obtain ⟨f1, f2, f3, f4, f5, f6⟩ := all_k k1 k2
  have t1 := tcmp_of (op := .eq) (sumN_of (nm_fz h12)) (b := vCst (.int 1)) (y := .int 1) rfl z_eq
  have t2 := tcmp_of (op := .eq) (sumN_of (nm_fz h12)) (b := vCst (.int 2)) (y := .int 2) rfl z_eq
  have n1 := tcmp_of (op := .ne) (lenN_of (nm_fz h10)) (lenN_of (nm_fz h12)) z_ne
  have n2 := tcmp_of (op := .ne) (lenN_of (nm_fz h10)) (add_of (lenN_of (nm_fz h12)) (b := vCst (.int 1)) (y := 1) rfl) z_ne
  rw [List.length_reverse] at n1 n2
  refine sIte_f (tor_f (e1 := e) ?_ ?_) rfl
  · by_cases c : (bits2 10 k).sum = 1
    · rw [decide_eq_true (by omega)] at t1
      rw [decide_eq_true (by have := f5 c; omega)] at n1
      exact tand_t t1 n1
    · rw [decide_eq_false (by omega)] at t1
      exact tand_f t1
  · by_cases c : (bits2 10 k).sum = 2
    · rw [decide_eq_true (by omega)] at t2
      rw [decide_eq_true (by have := f6 c; omega)] at n2
      exact tand_t t2 n2
    · rw [decide_eq_false (by omega)] at t2
      exact tand_f t2
theorem s11_ok {e : En} {xs : List Dt} (hS : St e xs) : ∃ (g h : Nat) (e' : En) (xs' : List Dt), 1 ≤ g ∧ g < 2 ^ 40 ∧ 1 ≤ h ∧ h < 2 ^ 140 ∧ (sPar (.cons (.nm 13) (.cons (.nm 14) .nil)) (dCons (vBin .add (vCst (.int 1)) (vCall ((run G.M G.P 59) 9) (aCons (vNm 1) aNil))) (dCons (vBin .add (vCst (.int 1)) (vBlt .abs (vCall ((run G.M G.P 59) 12) (aCons (vNm 1) aNil)))) dNil))) e = some (.nx e') ∧ St e' xs' ∧ Nn e' 13 g ∧ Nn e' 14 h := by
  obtain ⟨v, x1, t1, a1, a2, a3, r1⟩ := some_ok 57 true hS.ok
  have p1 := pool_call hS r1
  have S1 := hS.draw a3
  obtain ⟨w, x2, t2, b1, b2, r2⟩ := huge_ok 56 true S1.ok
  have p2 := pool_call S1 r2
  have S2 := S1.draw b2
  obtain ⟨n, hn⟩ : ∃ n : Nat, 1 + v = (n : Int) := ⟨(1 + v).toNat, by omega⟩
  have hm : 1 + (w.natAbs : Int) = ((1 + w.natAbs : Nat) : Int) := by omega
  have p := par2_of (i := 13) (j := 14) (add_of (a := vCst (.int 1)) (x := 1) rfl p1) (add_of (a := vCst (.int 1)) (x := 1) rfl (abs_of p2)) S2.np (by rw [S2.len]; decide) (by rw [S2.len]; decide)
  rw [hn, hm] at p
  have pw : (2 : Nat) ^ 140 = 1393796574908163946345982392040522594123776 := by decide +kernel
  have pw2 : (2 : Nat) ^ 139 = 696898287454081973172991196020261297061888 := by decide +kernel
  exact ⟨n, 1 + w.natAbs, _, x2, by omega, by omega, by omega, by omega, p, (S2.set (by decide)).set (by decide), g_ne (g_eq (by rw [S2.len]; decide)) (by decide), g_eq (by rw [List.length_set, S2.len]; decide)⟩
/-- the doubling chain of n, turned -/
def dbl (n : Nat) : List Nat := dH n.log2 n
theorem dbl_ok {n k : Nat} (h1 : 1 ≤ n) (h2 : n < 2 ^ k) : Ch (dbl n) ∧ (dbl n).headD 0 = n ∧ (dbl n).length ≤ 2 * k := by
  obtain ⟨l1, l2⟩ := log2_two h1
  have hJ : n.log2 < k := (Nat.log2_lt (by omega)).2 h2
  obtain ⟨i1, i2, i3⟩ := dH_ok _ _ l1 l2
  exact ⟨i1, i2, by unfold dbl; omega⟩
theorem s12_ok {e : En} {xs : List Dt} (hS : St e xs) {g h : Nat} (h13 : Nn e 13 g) (h14 : Nn e 14 h) (g1 : 1 ≤ g) (g2 : g < 2 ^ 40) (m1 : 1 ≤ h) (m2 : h < 2 ^ 140) : ∃ (e' : En), (sPar (.cons (.nm 15) (.cons (.nm 16) .nil)) (dCons (vIx (vCall ((run G.M G.P 59) 10) (aCons (vFz (vNm 13)) aNil)) (vCst (.int 2))) (dCons (vIx (vCall ((run G.M G.P 59) 10) (aCons (vFz (vNm 14)) aNil)) (vCst (.int 2))) dNil))) e = some (.nx e') ∧ St e' xs ∧ Nn e' 13 g ∧ Nn e' 14 h ∧ Nt e' 15 (dbl g).reverse ∧ Nt e' 16 (dbl h).reverse := by
  obtain ⟨t1, r1⟩ := double_ok 57 g1 (Nat.lt_of_lt_of_le g2 (Nat.pow_le_pow_right (by decide) (by decide)))
  obtain ⟨t2, r2⟩ := double_ok 57 m1 (Nat.lt_of_lt_of_le m2 (Nat.pow_le_pow_right (by decide) (by decide)))
  have p := par2_of (i := 15) (j := 16) (third_of (call1_of (fz_fz h13) r1)) (third_of (call1_of (fz_fz h14) r2)) hS.np (by rw [hS.len]; decide) (by rw [hS.len]; decide)
  exact ⟨_, p, (hS.set (by decide)).set (by decide), g_ne (g_ne h13 (by decide)) (by decide), g_ne (g_ne h14 (by decide)) (by decide), g_ne (g_eq (by rw [hS.len]; decide)) (by decide), g_eq (by rw [List.length_set, hS.len]; decide)⟩
theorem s13_ok {e : En} {xs : List Dt} (hS : St e xs) {g h : Nat} (h13 : Nn e 13 g) (h14 : Nn e 14 h) (h15 : Nt e 15 (dbl g).reverse) (h16 : Nt e 16 (dbl h).reverse) (g1 : 1 ≤ g) (g2 : g < 2 ^ 40) (m1 : 1 ≤ h) (m2 : h < 2 ^ 140) :
    ∃ (e' : En), (sAsg 8 (vBin .add (vNm 15) (vBlt .tuple (vComp (vBin .mul (vNm 13) (vNm 19)) [19] (.nm 19) (iOf (vSlF (vNm 16) (vCst (.int 1)))) fYes)))) e = some (.nx e') ∧ St e' xs ∧ Nn e' 13 g ∧ Nn e' 14 h ∧ Nt e' 8 (pr g (dbl h) (dbl g)).reverse := by
  obtain ⟨_, _, l1⟩ := dbl_ok g1 g2
  obtain ⟨c2, k2, l2⟩ := dbl_ok m1 m2
  have hj := joined_of hS h13 h16 h15 (by decide) (by omega) (by omega) (lt_pow g2 (by decide)) (ch_lt c2 k2 m2 (by decide))
  exact ⟨_, asg_d (i := 8) hj hS.np (by rw [hS.len]; decide), hS.set (by decide), g_ne h13 (by decide), g_ne h14 (by decide), g_eq (by rw [hS.len]; decide)⟩
theorem gh_mul {e : En} {g h : Nat} (h13 : Nn e 13 g) (h14 : Nn e 14 h) (g2 : g < 2 ^ 40) (m2 : h < 2 ^ 140) : vBin .mul (vNm 13) (vNm 14) e = some (.d (.int ((g * h : Nat) : Int)), e) := by
  rw [Int.natCast_mul]
  refine mul_of (nm_fz h13) (nm_fz h14) (mul_ok ?_ ?_)
  · rw [Int.natAbs_natCast]
    exact Nat.lt_trans g2 (Nat.pow_lt_pow_right (by decide) (by decide))
  · rw [Int.natAbs_natCast]
    exact Nat.lt_trans m2 (Nat.pow_lt_pow_right (by decide) (by decide))
theorem pr_dbl {g h : Nat} (g1 : 1 ≤ g) (g2 : g < 2 ^ 40) (m1 : 1 ≤ h) (m2 : h < 2 ^ 140) : Ch (pr g (dbl h) (dbl g)) ∧ (pr g (dbl h) (dbl g)).headD 0 = g * h ∧ (pr g (dbl h) (dbl g)).length ≤ 500 := by
  obtain ⟨c1, k1, l1⟩ := dbl_ok g1 g2
  obtain ⟨c2, k2, l2⟩ := dbl_ok m1 m2
  obtain ⟨q1, _, q2⟩ := pr_ok c1 k1 c2
  have hlen := pr_len g (dbl h) (dbl g)
  exact ⟨q1, by rw [q2, k2], by omega⟩
theorem s14_ok {e : En} {g h : Nat} (h13 : Nn e 13 g) (h14 : Nn e 14 h) (h8 : Nt e 8 (pr g (dbl h) (dbl g)).reverse) (g1 : 1 ≤ g) (g2 : g < 2 ^ 40) (m1 : 1 ≤ h) (m2 : h < 2 ^ 140) : (sIte (tNot (tOf (vCall ((run G.M G.P 59) 3) (aCons (vCall ((run G.M G.P 59) 5) (aCons (vTup (dCons (vCst (.str "adding")) (dCons (vBin .mul (vNm 13) (vNm 14)) (dCons (vNm 8) dNil)))) aNil)) (aCons (vCst (.bool true)) aNil))))) (sSeq (sRet (vCst (.bool false))) sPass) sPass) e = some (.nx e) := by
  obtain ⟨q1, q2, q3⟩ := pr_dbl g1 g2 m1 m2
  have hs := same_call true (gh_mul h13 h14 g2 m2) (nm_fz h8) (by rw [List.length_reverse]; omega)
  rw [q1.ar q2] at hs
  exact sIte_f (tnot_of (tof_b hs)) rfl
theorem s15_ok {e : En} {g h : Nat} (h13 : Nn e 13 g) (h14 : Nn e 14 h) (h8 : Nt e 8 (pr g (dbl h) (dbl g)).reverse) (g1 : 1 ≤ g) (g2 : g < 2 ^ 40) (m1 : 1 ≤ h) (m2 : h < 2 ^ 140) : (sIte (tOf (vCall ((run G.M G.P 59) 3) (aCons (vCall ((run G.M G.P 59) 5) (aCons (vTup (dCons (vCst (.str "adding")) (dCons (vBin .add (vBin .mul (vNm 13) (vNm 14)) (vCst (.int 1))) (dCons (vNm 8) dNil)))) aNil)) (aCons (vCst (.bool true)) aNil)))) (sSeq (sRet (vCst (.bool false))) sPass) sPass) e = some (.nx e) := by
  obtain ⟨q1, q2, q3⟩ := pr_dbl g1 g2 m1 m2
  have hv := add_of (gh_mul h13 h14 g2 m2) (b := vCst (.int 1)) (y := 1) rfl
  rw [show ((g * h : Nat) : Int) + 1 = ((g * h + 1 : Nat) : Int) by omega] at hv
  have hs := same_call true hv (nm_fz h8) (by rw [List.length_reverse]; omega)
  rw [ar_last (N := g * h + 1) (by rw [q2]; omega)] at hs
  exact sIte_f (tof_b hs) rfl
theorem s16_ok {e : En} {xs : List Dt} (hS : St e xs) {g h : Nat} (h13 : Nn e 13 g) (h14 : Nn e 14 h) (h8 : Nt e 8 (pr g (dbl h) (dbl g)).reverse) (g1 : 1 ≤ g) (g2 : g < 2 ^ 40) (m1 : 1 ≤ h) (m2 : h < 2 ^ 140) : ∃ e' xs', (sIte (tOf (vCmp .gt (vBlt .len (vNm 8)) (vCst (.int 1)))) (sSeq (sAsg 17 (vCall ((run G.M G.P 59) 4) (aCons (vNm 1) (aCons (vBin .sub (vBlt .len (vNm 8)) (vCst (.int 1))) aNil)))) (sSeq (sAsg 18 (vBin .add (vBin .add (vSlT (vNm 8) (vNm 17)) (vTup (dCons (vIx (vNm 8) (vBin .add (vNm 17) (vCst (.int 1)))) (dCons (vIx (vNm 8) (vNm 17)) dNil)))) (vSlF (vNm 8) (vBin .add (vNm 17) (vCst (.int 2)))))) (sSeq (sIte (tNot (tOf (vCall ((run G.M G.P 59) 3) (aCons (vCall ((run G.M G.P 59) 5) (aCons (vTup (dCons (vCst (.str "adding")) (dCons (vBin .mul (vNm 13) (vNm 14)) (dCons (vNm 18) dNil)))) aNil)) (aCons (vCst (.bool false)) aNil))))) (sSeq (sRet (vCst (.bool false))) sPass) sPass) sPass))) sPass) e = some (.nx e') ∧ St e' xs' := by
  obtain ⟨q1, q2, q3⟩ := pr_dbl g1 g2 m1 m2
  generalize pr g (dbl h) (dbl g) = r at h8 q1 q2 q3
  have hl := lenN_of (nm_fz h8)
  rw [List.length_reverse] at hl
  have t0 := tcmp_of (op := .gt) hl (b := vCst (.int 1)) (y := .int 1) rfl z_gt
  by_cases c : r.length > 1
  · rw [decide_eq_true (by omega)] at t0
    obtain ⟨v, x1, a1, a2, a3, r1⟩ := draw1 hS (sub_of hl (b := vCst (.int 1)) (y := 1) rfl) (by omega) (by
      have : ((r.length : Int) - 1).natAbs ≤ 500 := by omega
      exact Nat.lt_of_le_of_lt this (Nat.lt_of_lt_of_le (show 500 < 2 ^ 10 by decide) (Nat.pow_le_pow_right (by decide) (by decide))))
    have S1 := hS.draw a3
    obtain ⟨i, hi⟩ : ∃ i : Nat, v = (i : Int) := ⟨v.toNat, by omega⟩
    subst hi
    have A1 := asg_d (i := 17) r1 S1.np (by rw [S1.len]; decide)
    have S2 := S1.set (i := 17) (d := .int (i : Int)) (by decide)
    have b13 : Nn ((e.set 1 (.ow false x1)).set 17 (.fz (.int (i : Int)))) 13 g := g_ne (g_ne h13 (by decide)) (by decide)
    have b14 : Nn ((e.set 1 (.ow false x1)).set 17 (.fz (.int (i : Int)))) 14 h := g_ne (g_ne h14 (by decide)) (by decide)
    have b8 : Nt ((e.set 1 (.ow false x1)).set 17 (.fz (.int (i : Int)))) 8 r.reverse := g_ne (g_ne h8 (by decide)) (by decide)
    have b17 : Nn ((e.set 1 (.ow false x1)).set 17 (.fz (.int (i : Int)))) 17 i := g_eq (by rw [S1.len]; decide)
    generalize ((e.set 1 (.ow false x1)).set 17 (.fz (.int (i : Int)))) = e2 at A1 S2 b13 b14 b8 b17
    have hi1 : i + 1 < r.reverse.length := by rw [List.length_reverse]; omega
    have ix1 := ix_of (nm_fz b8) (nm_fz b17) (nl_ix (k := i) (by omega))
    have ix2 : vIx (vNm 8) (vBin .add (vNm 17) (vCst (.int 1))) e2 = _ := ix_of (y := ((i + 1 : Nat) : Int)) (nm_fz b8) (add_of (nm_fz b17) (b := vCst (.int 1)) (y := 1) rfl) (nl_ix hi1)
    have hpair : vTup (dCons (vIx (vNm 8) (vBin .add (vNm 17) (vCst (.int 1)))) (dCons (vIx (vNm 8) (vNm 17)) dNil)) e2 = some (.d (.tuple (nl [r.reverse.getD (i + 1) 0, r.reverse.getD i 0])), e2) := by
      have hs : small [PyData.int ((r.reverse.getD (i + 1) 0 : Nat) : Int), .int ((r.reverse.getD i 0 : Nat) : Int)] = true := rfl
      rw [x_vTup]
      simp only [x_dCons, x_dNil, ix1, ix2, frz, hs, if_true]
      rfl
    have f1 := slT_of (nm_fz b8) (nm_fz b17)
    rw [show (nl r.reverse).take i = nl (r.reverse.take i) from List.map_take.symm] at f1
    have f2 := slF_of (k := i + 2) (nm_fz b8) (add_of (nm_fz b17) (b := vCst (.int 2)) (y := 2) rfl)
    rw [show (nl r.reverse).drop (i + 2) = nl (r.reverse.drop (i + 2)) from List.map_drop.symm] at f2
    have c1 := cat_of f1 hpair (by rw [List.length_map, List.length_map, List.length_take]; show _ + 2 ≤ _; omega)
    rw [← nl_app] at c1
    have c2 := cat_of c1 f2 (by rw [List.length_map, List.length_map, List.length_append, List.length_take, List.length_drop, List.length_reverse]; show _ + 2 + _ ≤ _; omega)
    rw [← nl_app] at c2
    have hsw : (swp r.reverse i).length ≤ 1000 := by
      unfold swp
      rw [List.length_append, List.length_append, List.length_take, List.length_drop, List.length_reverse]
      show _ + 2 + _ ≤ _
      omega
    have A2 := asg_d (i := 18) c2 S2.np (by rw [S2.len]; decide)
    have S3 := S2.set (i := 18) (d := .tuple (nl (swp r.reverse i))) (by decide)
    have b18 : Nt (e2.set 18 (.fz (.tuple (nl (swp r.reverse i))))) 18 (swp r.reverse i) := g_eq (by rw [S2.len]; decide)
    have hs := same_call false (gh_mul (g_ne (s := .fz (.tuple (nl (swp r.reverse i)))) b13 (show 18 ≠ 13 by decide)) (g_ne b14 (by decide)) g2 m2) (nm_fz b18) hsw
    rw [q1.swap (by rw [List.length_reverse] at hi1; exact hi1)] at hs
    exact ⟨_, x1, sIte_t t0 (sSeq_nx A1 (sSeq_nx A2 (sSeq_nx (sIte_f (tnot_of (tof_b hs)) rfl) rfl))), S3⟩
  · rw [decide_eq_false (by omega)] at t0
    exact ⟨e, xs, sIte_f t0 rfl, hS⟩
end Lawk93
end

section
set_option maxHeartbeats 4000000
set_option exponentiation.threshold 500000
namespace Lawk93
open PySem De

theorem turn_ok {e : En} {xs : List Dt} (hS : St e xs) (d : Dt) : ∃ e' xs', forB (.nm 2) (sSeq (sPar (.cons (.nm 3) (.cons (.nm 4) .nil)) (dCons (vBin .add (vCst (.int 1)) (vCall ((run G.M G.P 59) 4) (aCons (vNm 1) (aCons (vCst (.int 9)) aNil)))) (dCons (vBin .add (vCst (.int 1)) (vCall ((run G.M G.P 59) 4) (aCons (vNm 1) (aCons (vCst (.int 10)) aNil)))) dNil))) (sSeq (sPar (.cons (.nm 5) (.cons (.nm 6) (.cons (.nm 7) .nil))) (dCons (vIx (vCall ((run G.M G.P 59) 8) (aCons (vFz (vNm 3)) aNil)) (vCst (.int 2))) (dCons (vIx (vCall ((run G.M G.P 59) 8) (aCons (vFz (vNm 4)) aNil)) (vCst (.int 2))) (dCons (vIx (vCall ((run G.M G.P 59) 8) (aCons (vBin .mul (vNm 3) (vNm 4)) aNil)) (vCst (.int 2))) dNil)))) (sSeq (sAsg 8 (vBin .add (vNm 5) (vBlt .tuple (vComp (vBin .mul (vNm 3) (vNm 19)) [19] (.nm 19) (iOf (vSlF (vNm 6) (vCst (.int 1)))) fYes)))) (sSeq (sIte (tOr (tNot (tOf (vCall ((run G.M G.P 59) 3) (aCons (vCall ((run G.M G.P 59) 5) (aCons (vTup (dCons (vCst (.str "adding")) (dCons (vBin .mul (vNm 3) (vNm 4)) (dCons (vNm 8) dNil)))) aNil)) (aCons (vCst (.bool true)) aNil))))) (tOf (vCmp .gt (vBlt .len (vNm 7)) (vBlt .len (vNm 8))))) (sSeq (sRet (vCst (.bool false))) sPass) sPass) (sSeq (sAsg 9 (vBin .add (vCst (.int 1)) (vCall ((run G.M G.P 59) 4) (aCons (vNm 1) (aCons (vCst (.int 50)) aNil))))) (sSeq (sPar (.cons (.nm 10) (.cons (.nm 11) .nil)) (dCons (vIx (vCall ((run G.M G.P 59) 8) (aCons (vFz (vNm 9)) aNil)) (vCst (.int 2))) (dCons (vIx (vCall ((run G.M G.P 59) 8) (aCons (vBin .mul (vCst (.int 2)) (vNm 9)) aNil)) (vCst (.int 2))) dNil))) (sSeq (sAsg 12 (vCall ((run G.M G.P 59) 2) (aCons (vFz (vNm 9)) (aCons (vCst (.int 2)) aNil)))) (sSeq (sIte (tOr (tOf (vCmp .lt (vBlt .len (vNm 10)) (vBlt .len (vNm 12)))) (tOr (tOf (vCmp .ne (vBlt .len (vIx (vCall ((run G.M G.P 59) 10) (aCons (vFz (vNm 9)) aNil)) (vCst (.int 2)))) (vBin .sub (vBin .add (vBlt .len (vNm 12)) (vBlt .sum (vNm 12))) (vCst (.int 1))))) (tOf (vCmp .gt (vBlt .len (vNm 10)) (vBlt .len (vIx (vCall ((run G.M G.P 59) 10) (aCons (vFz (vNm 9)) aNil)) (vCst (.int 2)))))))) (sSeq (sRet (vCst (.bool false))) sPass) sPass) (sSeq (sIte (tOr (tOf (vCmp .gt (vBlt .len (vNm 11)) (vBin .add (vBlt .len (vNm 10)) (vCst (.int 1))))) (tNot (tOf (vCall ((run G.M G.P 59) 3) (aCons (vCall ((run G.M G.P 59) 5) (aCons (vTup (dCons (vCst (.str "adding")) (dCons (vBin .mul (vCst (.int 2)) (vNm 9)) (dCons (vBin .add (vNm 10) (vTup (dCons (vBin .mul (vCst (.int 2)) (vNm 9)) dNil))) dNil)))) aNil)) (aCons (vCst (.bool true)) aNil)))))) (sSeq (sRet (vCst (.bool false))) sPass) sPass) (sSeq (sIte (tOr (tAnd (tOf (vCmp .eq (vBlt .sum (vNm 12)) (vCst (.int 1)))) (tOf (vCmp .ne (vBlt .len (vNm 10)) (vBlt .len (vNm 12))))) (tAnd (tOf (vCmp .eq (vBlt .sum (vNm 12)) (vCst (.int 2)))) (tOf (vCmp .ne (vBlt .len (vNm 10)) (vBin .add (vBlt .len (vNm 12)) (vCst (.int 1))))))) (sSeq (sRet (vCst (.bool false))) sPass) sPass) (sSeq (sPar (.cons (.nm 13) (.cons (.nm 14) .nil)) (dCons (vBin .add (vCst (.int 1)) (vCall ((run G.M G.P 59) 9) (aCons (vNm 1) aNil))) (dCons (vBin .add (vCst (.int 1)) (vBlt .abs (vCall ((run G.M G.P 59) 12) (aCons (vNm 1) aNil)))) dNil))) (sSeq (sPar (.cons (.nm 15) (.cons (.nm 16) .nil)) (dCons (vIx (vCall ((run G.M G.P 59) 10) (aCons (vFz (vNm 13)) aNil)) (vCst (.int 2))) (dCons (vIx (vCall ((run G.M G.P 59) 10) (aCons (vFz (vNm 14)) aNil)) (vCst (.int 2))) dNil))) (sSeq (sAsg 8 (vBin .add (vNm 15) (vBlt .tuple (vComp (vBin .mul (vNm 13) (vNm 19)) [19] (.nm 19) (iOf (vSlF (vNm 16) (vCst (.int 1)))) fYes)))) (sSeq (sIte (tNot (tOf (vCall ((run G.M G.P 59) 3) (aCons (vCall ((run G.M G.P 59) 5) (aCons (vTup (dCons (vCst (.str "adding")) (dCons (vBin .mul (vNm 13) (vNm 14)) (dCons (vNm 8) dNil)))) aNil)) (aCons (vCst (.bool true)) aNil))))) (sSeq (sRet (vCst (.bool false))) sPass) sPass) (sSeq (sIte (tOf (vCall ((run G.M G.P 59) 3) (aCons (vCall ((run G.M G.P 59) 5) (aCons (vTup (dCons (vCst (.str "adding")) (dCons (vBin .add (vBin .mul (vNm 13) (vNm 14)) (vCst (.int 1))) (dCons (vNm 8) dNil)))) aNil)) (aCons (vCst (.bool true)) aNil)))) (sSeq (sRet (vCst (.bool false))) sPass) sPass) (sSeq (sIte (tOf (vCmp .gt (vBlt .len (vNm 8)) (vCst (.int 1)))) (sSeq (sAsg 17 (vCall ((run G.M G.P 59) 4) (aCons (vNm 1) (aCons (vBin .sub (vBlt .len (vNm 8)) (vCst (.int 1))) aNil)))) (sSeq (sAsg 18 (vBin .add (vBin .add (vSlT (vNm 8) (vNm 17)) (vTup (dCons (vIx (vNm 8) (vBin .add (vNm 17) (vCst (.int 1)))) (dCons (vIx (vNm 8) (vNm 17)) dNil)))) (vSlF (vNm 8) (vBin .add (vNm 17) (vCst (.int 2)))))) (sSeq (sIte (tNot (tOf (vCall ((run G.M G.P 59) 3) (aCons (vCall ((run G.M G.P 59) 5) (aCons (vTup (dCons (vCst (.str "adding")) (dCons (vBin .mul (vNm 13) (vNm 14)) (dCons (vNm 18) dNil)))) aNil)) (aCons (vCst (.bool false)) aNil))))) (sSeq (sRet (vCst (.bool false))) sPass) sPass) sPass))) sPass) sPass)))))))))))))))) d e = some (.nx e') ∧ St e' xs' := by
  have hp : tgt (.nm 2) d e = some (e.set 2 (.fz d)) := put_of hS.np (by rw [hS.len]; decide)
  have T0 := hS.set (i := 2) (d := d) (by decide)
  generalize e.set 2 (.fz d) = e0 at hp T0
  obtain ⟨n, m, e1, x1, n1, n2, m1, m2, r1, T1, a3, a4⟩ := s1_ok T0
  obtain ⟨e2, r2, T2, b3, b4, b5, b6, b7⟩ := s2_ok T1 a3 a4 n1 n2 m1 m2
  obtain ⟨e3, r3, T3, c3, c4, c7, c8⟩ := s3_ok T2 b3 b4 b5 b6 b7 n1 n2 m1 m2
  have r4 := s4_ok c3 c4 c7 c8 n1 n2 m1 m2
  obtain ⟨k, e5, x5, k1, k2, r5, T5, d9⟩ := s5_ok T3
  obtain ⟨e6, r6, T6, f9, f10, f11⟩ := s6_ok T5 d9 k1 k2
  obtain ⟨e7, r7, T7, g9, g10, g11, g12⟩ := s7_ok T6 f9 f10 f11 k1 k2
  have r8 := s8_ok g9 g10 g12 k1 k2
  have r9 := s9_ok g9 g10 g11 k1 k2
  have r10 := s10_ok g10 g12 k1 k2
  obtain ⟨g, h, e11, x11, g1, g2, h1, h2, r11, T11, i13, i14⟩ := s11_ok T7
  obtain ⟨e12, r12, T12, j13, j14, j15, j16⟩ := s12_ok T11 i13 i14 g1 g2 h1 h2
  obtain ⟨e13, r13, T13, l13, l14, l8⟩ := s13_ok T12 j13 j14 j15 j16 g1 g2 h1 h2
  have r14 := s14_ok l13 l14 l8 g1 g2 h1 h2
  have r15 := s15_ok l13 l14 l8 g1 g2 h1 h2
  obtain ⟨e16, x16, r16, T16⟩ := s16_ok T13 l13 l14 l8 g1 g2 h1 h2
  refine ⟨e16, x16, ?_, T16⟩
  rw [x_forB, hp]
  exact sSeq_nx r1 (sSeq_nx r2 (sSeq_nx r3 (sSeq_nx r4 (sSeq_nx r5 (sSeq_nx r6 (sSeq_nx r7 (sSeq_nx r8 (sSeq_nx r9 (sSeq_nx r10 (sSeq_nx r11 (sSeq_nx r12 (sSeq_nx r13 (sSeq_nx r14 (sSeq_nx r15 (sSeq_nx r16 rfl)))))))))))))))
/-- the pool is made -/
theorem pool_ok (ns : List Int) : ∃ tl, run G.M G.P 59 0 [.fz (.dict [(.none, .list (il ns))]), .fz (.int 0)] = some (.own [.list (il ns), .int 0, .int 0, .int 1, .int 0, .int 0], .fz (.dict [(.none, .list (il ns))]) :: .fz (.int 0) :: tl) := by
  refine ⟨[], ?_⟩
  show runD (run G.M G.P 58) G.M ⟨"_law_pool", 2, 2, b__law_pool⟩ _ = _
  refine runD_own [.fz (.dict [(.none, .list (il ns))]), .fz (.int 0)] rfl rfl ?_
  show evB _ _ b__law_pool _ = _
  simp only [b__law_pool, evB, evS, ev, evs, mkV, mkI]
  have hs : small [PyData.list (il ns), .int 0, .int 0, .int 1, .int 0, .int 0] = true := rfl
  simp only [List.getElem?_cons_zero, List.getElem?_cons_succ, List.set_cons_zero, List.set_cons_succ, List.replicate_succ, List.replicate_zero, List.cons_append, List.nil_append, x_vCst, x_vNm, x_vBin, x_vNeg, x_vBits, x_vCmp, x_vCmp2, x_vAnd, x_vOr, x_vNot, x_vIte, x_vTup, x_vLst, x_vIx, x_vSlF, x_vSlT, x_vSl, x_vRev, x_vCall, x_vBlt, x_vBlt2, x_vPop, x_vPopAt, x_fYes, x_vFz, x_vNo, x_tOf, x_tAnd, x_tOr, x_tNot, x_iOf, x_iNo, x_iRng1, x_iRng2, x_iRng3, x_iEnum, x_iZip, x_iRevd, x_aNil, x_aCons, x_dNil, x_dCons, x_sAsg, x_sAsgT, x_sPar, x_sSet, x_sAug, x_sAugS, x_sApp, x_sExt, x_sEx, x_sIte, x_sRet, x_sRetN, x_sBrk, x_sCont, x_sPass, x_sNo, x_sSeq, argsOf, argOf, locs, backs, nd0, nd1, store, put, frz, tgt, tgts, isOw, z_add, z_sub, z_xor, z_eq, z_ne, z_lt, z_le, z_gt, z_ge, z_dd, z_do, z_dl, z_tb, z_lenL, z_lenT, z_int, z_intB, z_abs, z_max, z_min, z_tupL, z_tupT, z_lstL, z_lstT, z_scr, ix0, ix1, ix2, ix3, ix4, ixn1, ixn2, ixn3, ixn4, decide_true, decide_false, if_true, if_false, Bool.false_eq_true, Bool.and_true, Bool.true_and, Bool.not_true, Bool.not_false, x_turnC, wipeE, back, x_sForB, x_forB, List.getD_cons_zero, List.getD_cons_succ, hs]
theorem law_true : ∀ ns : List Int, ns.length ≤ 63 → (∀ i ∈ ns, Builtin.Int.intBits i ≤ 1048576) → ∃ ec, run G.M G.P 60 13 (scr ns) = some (.d (.bool true), ec) := by
  intro ns _ _
  obtain ⟨tl, hp⟩ := pool_ok ns
  have S0 : St (([.fz (.dict [(.none, .list (il ns))])] ++ List.replicate 19 .un : En).set 1 (.ow false [.list (il ns), .int 0, .int 0, .int 1, .int 0, .int 0])) [.list (il ns), .int 0, .int 0, .int 1, .int 0, .int 0] :=
    ⟨rfl, rfl, ⟨ns, 0, 0, 1, 0, 0, rfl, by decide, by decide, by decide⟩, rfl, fun i ys z => by
      rcases getSet z with ⟨_, z⟩ | ⟨_, z⟩
      · cases z
      · cases i with
        | zero => cases z
        | succ i =>
          have := List.mem_of_getElem? (show (List.replicate 19 Sv.un)[i]? = some (Sv.ow true ys) from z)
          exact absurd (List.mem_replicate.mp this).2 (fun w => nomatch w)⟩
  obtain ⟨e1, x1, r1, S1⟩ := turn_ok S0 (.int 0)
  obtain ⟨e2, x2, r2, S2⟩ := turn_ok S1 (.int 1)
  obtain ⟨e3, x3, r3, S3⟩ := turn_ok S2 (.int 2)
  refine ⟨e3, ?_⟩
  show runD (run G.M G.P 59) G.M ⟨"law", 1, 20, b_law⟩ (scr ns) = _
  refine runD_d ([.fz (.dict [(.none, .list (il ns))])] ++ List.replicate 19 .un) rfl rfl ?_
  show evB _ _ b_law _ = _
  simp only [b_law, evB, evS, ev, evs, mkV, mkI]
  have a1 : sAsg 1 (vCall (run G.M G.P 59 0) (aCons (vNm 0) (aCons (vCst (.int 0)) aNil))) ([.fz (.dict [(.none, .list (il ns))])] ++ List.replicate 19 .un : En) = some (.nx (([.fz (.dict [(.none, .list (il ns))])] ++ List.replicate 19 .un : En).set 1 (.ow false [.list (il ns), .int 0, .int 0, .int 1, .int 0, .int 0]))) := by
    unfold sAsg
    rw [call2_of (a := vNm 0) (b := vCst (.int 0)) rfl rfl hp]
    rfl
  refine sSeq_nx a1 (sSeq_nx (sFor_of (rng1_of (n := 3) (a := vCst (.int 3)) rfl (by decide)) (r := some (.nx e3)) ?_) (sSeq_rt rfl))
  show forL _ [PyData.int 0, .int 1, .int 2] _ = _
  rw [forL, r1]
  show forL _ [PyData.int 1, .int 2] e1 = _
  rw [forL, r2]
  show forL _ [PyData.int 2] e2 = _
  rw [forL, r3]
  rfl
end Lawk93
end
set_option maxHeartbeats 0
open PySem PySem.W PySem.Calls PyProof.Rows
theorem PySem.Challenge.cw_wholeproof_k93_whole_chains_of_sums_put_holds : PySem.Challenge.rw_wholeproof_k93_whole_chains_of_sums_put.Holds := by
  w_on; o_law
  refine HandSHeadRun.head_any (r := OpenLaw.row PySem.Challenge.rw_wholeproof_k93_whole_chains_of_sums_put) (q := view (OpenLaw.row PySem.Challenge.rw_wholeproof_k93_whole_chains_of_sums_put).prog [22]) (H := Lawk93.hk) (ob := Lawk93.ob) (M := 4000) (loose := Lawk93.loose) (d := HandSHeadRun.topDef (OpenLaw.row PySem.Challenge.rw_wholeproof_k93_whole_chains_of_sums_put).prog 22) (kwd := []) Lawk93.ob_eq
    (by kernel_rfl) (fun s => by kernel_rfl) Lawk93.run_eq (by kernel_rfl) (by kernel_rfl) (by kernel_rfl) (by rfl) (by first | assumption | decide +kernel) (by decide +kernel) ⟨rfl, rfl, rfl, rfl, rfl, by decide +kernel⟩ ?hw ?hc
  case hw => w_witness2
  case hc =>
    refine De.law_ends (l := PySem.Challenge.rw_wholeproof_k93_whole_chains_of_sums_put) (n := 63) (k := 60) (f := 13) (G := Lawk93.G) (df := ⟨"law", 1, 20, Lawk93.b_law⟩) rfl (by decide) (by kernel_rfl) ⟨rfl, by decide, by decide⟩ rfl rfl (fun w mg h Y Gn => ?_) Lawk93.law_true
    obtain ⟨K, KX, c⟩ := Y
    refine ⟨K, KX, De.gok KX Gn (by rw [← Lawk93.fa_eq]; exact c) Lawk93.chk, ?_⟩
    kernel_rfl
